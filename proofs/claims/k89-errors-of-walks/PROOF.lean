import PyProof.Rows.All
import Wide.All
import OpenK.AllK
import Wide.FinOn
import PyProof.ReprRoads
import HandS.ForMost
import KE.SortData
import KE.DataCmp
import KE.DataMinMax
import HandS.Exc
import HandS.Lambda
import KE.KeyNested
import KE.KDictKeyed
import HandS.Comp
import HandS.Style
import HandS.WideBits
import HandS.IsInst
import HandS.TupAny
import HandS.More
import HandS.Dict
import KE.KDictLaws
import HandS.Deep
import HandS.TupMul
import KE.KEqDict
import KE.KDictSum
import HandS.TupLen
import HandS.RaiseMore
import HandS.WordsDict
import KE.KDictCopyH
import HandS.Conv
import HandS.Walk
import KE.GoesEnum
import HandS.DictTup
import KE.KDictWalk
import HandS.DictComp
import HandS.CallLocal
import HandS.Defaults
import HandS.TryMany
import HandS.ExcField
import HandS.Sort
import PyProof.DictValues
import HandS.Star
import HandS.Flow
import KE.KLam
import HandS.MakeKwOnly
import HandS.HeadHook4
import HandS.EndTab
import HandS.Head0
import HandS.Head2
import KE.KExcInit
import HandS.ExcInit
import HandS.HeadWalk
import PySem.Challenge.RW_leafwide_k89_errors_of_walks
import HandS.HeadEnd
set_option Elab.async false
set_option linter.all false
set_option maxRecDepth 100000
/-! MI, a small interpreter over pure data (PyData) and own mutable objects: the tree, its evaluation. -/
namespace MI
open PySem

/-! ### the tree -/
inductive Op where
  | add | sub | mul | fdiv | mod | pow | shl | shr
  deriving DecidableEq
inductive CO where
  | lt | le | gt | ge | eq | ne | is | nis | inn | nin
  deriving DecidableEq
inductive Ty where
  | int | bool | str | tuple | list | dict
  deriving DecidableEq
inductive Blt where
  | len | abs | int | max2 | min2 | minS | maxS | sum | any | all | sorted | tuple | list | range1 | repr
  deriving DecidableEq
inductive Mth where
  | append | pop | popAt | insert | extend | index | get | setdefault | bitlen
  deriving DecidableEq
inductive ItK where
  | seq | rng1 | rng2 | enum | zip | items | vals
  deriving DecidableEq
inductive MT where
  | n (i : Nat)
  | t (ts : List MT)
/-- what a handler hands back: data, or a pair of data and what the error keeps -/
inductive HR where
  | con (d : PyData)
  | kept (d : PyData)
inductive ME where
  | con (d : PyData)
  | slot (i : Nat)
  | gc (i : Nat)
  | tup (es : List ME)
  | lst (es : List ME)
  | star (e : ME)
  | lstS (es : List ME)
  | dic (ks vs : List ME)
  | bin (o : Op) (a b : ME)
  | neg (a : ME)
  | nt (a : ME)
  | an (a b : ME)
  | orr (a b : ME)
  | ite (c a b : ME)
  | cmp (o : CO) (a b : ME)
  | chn (o o' : CO) (a b c : ME)
  | call (g : Nat) (es : List ME) (dfl : List PyData)
  | callr (g : Nat) (i : Nat) (es : List ME)
  | callv (i : Nat) (es : List ME)
  | blt (b : Blt) (es : List ME)
  | isi (a : ME) (t : Ty)
  | mth (m : Mth) (o : ME) (es : List ME)
  | ix (a i : ME)
  | sl (a lo hi : ME) (st : Int)
  | lc (own : List Nat) (tg : MT) (k : ItK) (it : List ME) (ifs : List ME) (elt : ME)
  | lc2 (own own2 : List Nat) (tg : MT) (k : ItK) (it : List ME) (ifs : List ME) (tg2 : MT) (k2 : ItK) (it2 : List ME) (ifs2 : List ME) (elt : ME)
  | minv (o : ME)
  | dc (own : List Nat) (tg : MT) (k : ItK) (it : List ME) (ifs : List ME) (ke ve : ME)
  | tryl (f : Nat) (hs : List (Nat × HR)) (tag : PyData) (body : ME)
inductive MSt where
  | asg (tg : MT) (e : ME)
  | par (is : List Nat) (es : List ME)
  | asg2 (i j : Nat) (e : ME)
  | sti (o i e : ME)
  | aug (i : Nat) (o : Op) (e : ME)
  | augi (o i : ME) (op : Op) (e : ME)
  | ex (e : ME)
  | ret (e : ME)
  | iff (c : ME) (a b : List MSt)
  | whl (c : ME) (b : List MSt)
  | fr (tg : MT) (k : ItK) (it : List ME) (b : List MSt)
  | forf (i : Nat) (gs : List Nat) (b : List MSt)
  | rse (c : Nat) (e : ME)
  | pss | brk | cnt | bad

/-! ### values, states, answers -/
inductive Val where
  | d (x : PyData)
  | ref (n : Nat)
  | fn (g : Nat)
inductive MO where
  | lst (xs : List Val) (live : Bool)
  | dct (kvs : List (PyData × Val)) (live : Bool)
structure MS where
  env : List (Option Val)
  objs : List MO
inductive Out (α : Type) where
  | ok (a : α) (s : MS)
  | exc (c : Nat) (x : PyData) (s : MS)
  | bad
def Out.bind {α β : Type} (o : Out α) (k : α → MS → Out β) : Out β := match o with
  | .ok a s => k a s
  | .exc c x s => .exc c x s
  | .bad => .bad
inductive Flow where
  | next | brk | cnt | ret (v : Val)
/-- what a call hands back: pure data, a new list, a new dict; the first argument's content behind it (by-ref) -/
inductive RV where
  | d (x : PyData)
  | lst (xs : List PyData)
  | dct (kvs : List (PyData × PyData))
inductive RF where
  | ok (r : RV) (out : Option (List PyData))
  | exc (c : Nat) (x : PyData) (out : Option (List PyData))
  | bad
abbrev CallT := Nat → Option (List PyData) → List PyData → RF

/-! ### freezing -/
def frzL (F : List MO → Val → Option (PyData × List MO)) : List MO → List Val → Option (List PyData × List MO)
  | os, [] => some ([], os)
  | os, v :: vs => match F os v with
    | none => none
    | some (x, os1) => match frzL F os1 vs with
      | none => none
      | some (xs, os2) => some (x :: xs, os2)
def frzK (F : List MO → Val → Option (PyData × List MO)) : List MO → List (PyData × Val) → Option (List (PyData × PyData) × List MO)
  | os, [] => some ([], os)
  | os, (k, v) :: vs => match F os v with
    | none => none
    | some (x, os1) => match frzK F os1 vs with
      | none => none
      | some (xs, os2) => some ((k, x) :: xs, os2)
/-- pure data of a value; the objects within may not be changed any more -/
def frz : Nat → List MO → Val → Option (PyData × List MO)
  | 0, os, .d x => some (x, os)
  | 0, _, _ => none
  | k + 1, os, v => match v with
    | .d x => some (x, os)
    | .fn _ => none
    | .ref n => match os[n]? with
      | none => none
      | some (.lst xs _) => match frzL (frz k) os xs with
        | none => none
        | some (ds, os') => some (.list ds, os'.set n (.lst xs false))
      | some (.dct kvs _) => match frzK (frz k) os kvs with
        | none => none
        | some (ds, os') => some (.dict ds, os'.set n (.dct kvs false))
abbrev FD : Nat := 6
def frzs (os : List MO) (vs : List Val) : Option (List PyData × List MO) := frzL (frz FD) os vs
/-- what a value is worth now -/
def snap (os : List MO) (v : Val) : Option PyData := match frz FD os v with
  | some (x, _) => some x
  | none => none
def pures : List Val → Option (List PyData)
  | [] => some []
  | .d x :: vs => match pures vs with
    | some xs => some (x :: xs)
    | none => none
  | _ :: _ => none

/-! ### small operations on data -/
def intOp : Op → Int → Int → Option Int
  | .add, i, j => some (i + j)
  | .sub, i, j => some (i - j)
  | .mul, i, j => if (Builtin.Int.intBits i : Int) + (Builtin.Int.intBits j : Int) ≤ 134217728 then some (i * j) else none
  | .fdiv, i, j => if 0 < j ∧ j.natAbs.log2 < 9000 then some (i / j) else none
  | .mod, i, j => if 0 < j then some (i % j) else none
  | .pow, i, j => if 0 ≤ j ∧ (Builtin.Int.intBits i : Int) * j ≤ 134217728 then some (i ^ j.toNat) else none
  | .shl, i, j => if 0 ≤ j ∧ (Builtin.Int.intBits i : Int) + j ≤ 134217728 then some (i * 2 ^ j.toNat) else none
  | .shr, i, j => if 0 ≤ j then some (i / 2 ^ j.toNat) else none
/-- a key of a dict: a whole number, a text, a tuple of keys -/
def keyB : Nat → PyData → Bool
  | _, .int _ => true
  | _, .str _ => true
  | 0, _ => false
  | k + 1, .tuple xs => xs.all (keyB k)
  | _ + 1, _ => false
def isKey (x : PyData) : Bool := keyB 6 x
def isTupD : PyData → Bool
  | .tuple _ => true
  | _ => false
/-- keys of one kind -/
def keyFit (k y : PyData) : Bool := isKey y && (isTupD y == isTupD k)
def keysPlain (kvs : List (PyData × Val)) : Bool := kvs.all fun p => isKey p.1 && !isTupD p.1
def look (k : PyData) : List (PyData × Val) → Option Val
  | [] => none
  | (k', v) :: r => if PyData.eqv k' k then some v else look k r
def put (k : PyData) (v : Val) : List (PyData × Val) → List (PyData × Val)
  | [] => [(k, v)]
  | (k', v') :: r => if PyData.eqv k' k then (k', v) :: r else (k', v') :: put k v r
def pureKv (kvs : List (PyData × PyData)) : List (PyData × Val) := kvs.map fun p => (p.1, .d p.2)
/-- the items of a list or a tuple -/
def items (os : List MO) : Val → Option (List Val)
  | .d (.tuple xs) => some (xs.map .d)
  | .d (.list xs) => some (xs.map .d)
  | .ref n => match os[n]? with
    | some (.lst xs _) => some xs
    | _ => none
  | _ => none
def kvsOf (os : List MO) : Val → Option (List (PyData × Val))
  | .d (.dict kvs) => some (pureKv kvs)
  | .ref n => match os[n]? with
    | some (.dct kvs _) => some kvs
    | _ => none
  | _ => none
def lenOf (os : List MO) (v : Val) : Option Nat := match items os v with
  | some xs => some xs.length
  | none => match kvsOf os v with
    | some kvs => some kvs.length
    | none => match v with
      | .d (.str x) => if x.length ≤ 16777216 then some x.length else none
      | _ => none
def tyOf (os : List MO) : Val → Option Ty
  | .d (.bool _) => some .bool
  | .d (.int _) => some .int
  | .d (.str _) => some .str
  | .d (.tuple _) => some .tuple
  | .d (.list _) => some .list
  | .d (.dict _) => some .dict
  | .d .none => none
  | .fn _ => none
  | .ref n => match os[n]? with
    | some (.lst _ _) => some .list
    | some (.dct _ _) => some .dict
    | none => none
def isTy (os : List MO) (v : Val) (t : Ty) : Bool := match tyOf os v with
  | none => false
  | some t' => decide (t' = t) || (decide (t' = .bool) && decide (t = .int))
/-- the place of an index -/
def place (n : Nat) (i : Int) : Option Nat := if 0 ≤ i then (if i < n then some i.toNat else none) else if -(n : Int) ≤ i then some (i + n).toNat else none
def clipI (n d : Nat) : PyData → Option Nat
  | .none => some d
  | .int i => some (if 0 ≤ i then min i.toNat n else (i + n).toNat)
  | _ => none
def isNoD : PyData → Bool
  | .none => true
  | _ => false
/-- may be put in order: alike, shaped -/
def ordOk (x y : PyData) : Bool := PySem.W.alike x y && !isNoD x && SeqAt.shaped x && SeqAt.shaped y
def allOrd (ds : List PyData) : Bool := ds.all fun x => !isNoD x && SeqAt.shaped x && ds.all (PySem.W.alike x)
def isTup1 : PyData → Bool
  | .tuple (_ :: _) => true
  | _ => false
def sortable (ds : List PyData) : Bool := ds.all isTup1 || ds.all fun x => !isTupD x
def ins2 (x : PyData) : List PyData → List PyData
  | [] => [x]
  | y :: ys => if PySem.W.dataLt y x then y :: ins2 x ys else x :: y :: ys
/-- the stable order: from the last on -/
def sortD : List PyData → List PyData
  | [] => []
  | x :: xs => ins2 x (sortD xs)
def sumI : List PyData → Option Int
  | [] => some 0
  | .int i :: r => match sumI r with
    | some j => some (i + j)
    | none => none
  | _ :: _ => none
def bools : List PyData → Option (List Bool)
  | [] => some []
  | .bool b :: r => match bools r with
    | some bs => some (b :: bs)
    | none => none
  | _ :: _ => none
def indexD (x : PyData) : List PyData → Option Nat
  | [] => none
  | y :: ys => if PyData.eqv y x then some 0 else (indexD x ys).map (· + 1)
/-- every st-th from lo on, below hi (upward) -/
def stepUp : Nat → Nat → Nat → Nat → List Nat
  | 0, _, _, _ => []
  | k + 1, lo, hi, st => if lo < hi then lo :: stepUp k (lo + st) hi st else []
end MI

set_option Elab.async false
set_option linter.all false
set_option maxRecDepth 100000
/-! MI: evaluation. -/
namespace MI
open PySem

structure Cfg where
  con : Nat → Option PyData
  lim : Nat
  call : CallT
  sub : Nat → Nat → Bool
  /-- keyword-only parameters' defaults -/
  dfl : Nat → List PyData
structure Sem where
  ev : ME → MS → Out Val
  ex : MSt → MS → Out Flow
def ofO {α : Type} (o : Option α) (s : MS) : Out α := match o with
  | some a => .ok a s
  | none => .bad
def quiet {α : Type} (o : Out α) : Out α := match o with
  | .ok a s => .ok a s
  | _ => .bad
def evs (E : ME → MS → Out Val) : List ME → MS → Out (List Val)
  | [], s => .ok [] s
  | e :: es, s => (E e s).bind fun v s1 => (evs E es s1).bind fun vs s2 => .ok (v :: vs) s2
def exs (X : MSt → MS → Out Flow) : List MSt → MS → Out Flow
  | [], s => .ok .next s
  | a :: r, s => (X a s).bind fun f s1 => match f with
    | .next => exs X r s1
    | f => .ok f s1
def boolV : Val → Option Bool
  | .d (.bool b) => some b
  | _ => none
/-- a test -/
def tst (E : ME → MS → Out Val) (c : ME) (s : MS) : Out Bool := (E c s).bind fun v s1 => match boolV v with
  | some b => .ok b s1
  | none => .bad

/-! ### stores -/
def MS.setSlot (s : MS) (i : Nat) (v : Val) : MS := { s with env := s.env.set i (some v) }
mutual
def asgV : MT → Val → MS → Option MS
  | .n i, v, s => if i < s.env.length then some (s.setSlot i v) else none
  | .t ts, v, s => match v with
    | .d (.tuple xs) => asgL ts (xs.map .d) s
    | _ => none
def asgL : List MT → List Val → MS → Option MS
  | [], [], s => some s
  | t :: ts, v :: vs, s => match asgV t v s with
    | some s1 => asgL ts vs s1
    | none => none
  | _, _, _ => none
end
inductive Item where
  | one (v : Val)
  | many (vs : List Val)
def asgI : MT → Item → MS → Option MS
  | t, .one v, s => asgV t v s
  | .t ts, .many vs, s => asgL ts vs s
  | .n i, .many vs, s => match pures vs with
    | some ds => if i < s.env.length then some (s.setSlot i (.d (.tuple ds))) else none
    | none => none
/-- an object may not be changed any more -/
def still (os : List MO) : Val → List MO
  | .ref n => match os[n]? with
    | some (.lst xs _) => os.set n (.lst xs false)
    | some (.dct kvs _) => os.set n (.dct kvs false)
    | none => os
  | _ => os
def intsF (lo : Int) : Nat → List Item
  | 0 => []
  | n + 1 => .one (.d (.int lo)) :: intsF (lo + 1) n
def numbered : Nat → List Val → List Item
  | _, [] => []
  | k, v :: vs => .many [.d (.int k), v] :: numbered (k + 1) vs
def paired : List Val → List Val → List Item
  | v :: vs, w :: ws => .many [v, w] :: paired vs ws
  | _, _ => []
def inRange (i : Int) : Bool := decide (-(2 ^ 62) ≤ i) && decide (i < 2 ^ 62)
/-- what a loop walks -/
def seqW (vs : List Val) (s : MS) : Option (List Item × MS) := match vs with
  | [v] => match items s.objs v with
    | some vs => some (vs.map .one, { s with objs := still s.objs v })
    | none => match kvsOf s.objs v with
      | some kvs => some (kvs.map fun p => .one (.d p.1), { s with objs := still s.objs v })
      | none => none
  | _ => none
def rng1W (vs : List Val) (s : MS) : Option (List Item × MS) := match vs with
  | [.d (.int n)] => if inRange n then some (intsF 0 n.toNat, s) else none
  | _ => none
def rng2W (vs : List Val) (s : MS) : Option (List Item × MS) := match vs with
  | [.d (.int a), .d (.int b)] => if inRange a && inRange b then some (intsF a (b - a).toNat, s) else none
  | _ => none
def enumW (vs : List Val) (s : MS) : Option (List Item × MS) := match vs with
  | [v] => match items s.objs v with
    | some vs => some (numbered 0 vs, { s with objs := still s.objs v })
    | none => none
  | _ => none
def zipW (vs : List Val) (s : MS) : Option (List Item × MS) := match vs with
  | [v, w] => match items s.objs v, items s.objs w with
    | some vs, some ws => some (paired vs ws, { s with objs := still (still s.objs v) w })
    | _, _ => none
  | _ => none
def itemsW (vs : List Val) (s : MS) : Option (List Item × MS) := match vs with
  | [v] => match kvsOf s.objs v with
    | some kvs => some (kvs.map fun p => .many [.d p.1, p.2], { s with objs := still s.objs v })
    | none => none
  | _ => none
def valsW (vs : List Val) (s : MS) : Option (List Item × MS) := match vs with
  | [v] => match kvsOf s.objs v with
    | some kvs => some (kvs.map fun p => .one p.2, { s with objs := still s.objs v })
    | none => none
  | _ => none
def walk (k : ItK) (vs : List Val) (s : MS) : Option (List Item × MS) := match k with
  | .seq => seqW vs s
  | .rng1 => rng1W vs s
  | .rng2 => rng2W vs s
  | .enum => enumW vs s
  | .zip => zipW vs s
  | .items => itemsW vs s
  | .vals => valsW vs s
def wipeE (env : List (Option Val)) : List Nat → List (Option Val)
  | [] => env
  | i :: is => (wipeE env is).set i none

/-! ### operations -/
def newObj (s : MS) (o : MO) : Out Val := .ok (.ref s.objs.length) { s with objs := s.objs ++ [o] }
def newLst (s : MS) (xs : List Val) : Out Val := if xs.length ≤ 16777216 then newObj s (.lst xs true) else .bad
def pureV (s : MS) (v : Val) (k : PyData → MS → Out Val) : Out Val := match frz FD s.objs v with
  | some (x, os) => k x { s with objs := os }
  | none => .bad
def sizeOk (n : Nat) : Bool := decide (n ≤ 16777216)
def isRef : Val → Bool
  | .ref _ => true
  | _ => false
def binV (o : Op) (v w : Val) (s : MS) : Out Val := match v, w with
  | .d (.int i), .d (.int j) => ofO ((intOp o i j).map fun k => .d (.int k)) s
  | _, _ => match o with
    | .add => match v, w with
      | .d (.tuple xs), .d (.tuple ys) => if sizeOk (xs.length + ys.length) then .ok (.d (.tuple (xs ++ ys))) s else .bad
      | _, _ => match items s.objs v, items s.objs w with
        | some xs, some ys => match tyOf s.objs v, tyOf s.objs w with
          | some .list, some .list => if isRef v && isRef w && sizeOk (xs.length + ys.length) then newLst s (xs ++ ys) else .bad
          | _, _ => .bad
        | _, _ => .bad
    | .mul => match w with
      | .d (.int k) => match tyOf s.objs v, items s.objs v with
        | some .list, some xs => if isRef v = true ∧ 0 ≤ k ∧ k < 2 ^ 62 ∧ xs.length * k.toNat ≤ 16777216 then newLst s (List.replicate k.toNat xs).flatten else .bad
        | some .tuple, some xs => if 2 ≤ k ∧ k ≤ 1000 ∧ 0 < xs.length ∧ xs.length ≤ 1000 then match pures (List.replicate k.toNat xs).flatten with
            | some ds => .ok (.d (.tuple ds)) s
            | none => .bad
          else .bad
        | _, _ => .bad
      | _ => .bad
    | _ => .bad
def eqP (x y : PyData) : Option Bool := if SeqAt.shaped x && SeqAt.shaped y then some (PyData.eqv x y) else none
def isNoneV : Val → Bool
  | .d .none => true
  | _ => false
def cmpV (o : CO) (v w : Val) (s : MS) : Option Bool := match o with
  | .lt => match v, w with
    | .d (.int i), .d (.int j) => some (decide (i < j))
    | .d x, .d y => if ordOk x y then some (PySem.W.dataLt x y) else none
    | _, _ => none
  | .le => match v, w with
    | .d (.int i), .d (.int j) => some (decide (i ≤ j))
    | .d x, .d y => if ordOk x y then some (!PySem.W.dataLt y x) else none
    | _, _ => none
  | .gt => match v, w with
    | .d (.int i), .d (.int j) => some (decide (j < i))
    | .d x, .d y => if ordOk x y then some (PySem.W.dataLt y x) else none
    | _, _ => none
  | .ge => match v, w with
    | .d (.int i), .d (.int j) => some (decide (j ≤ i))
    | .d x, .d y => if ordOk x y then some (!PySem.W.dataLt x y) else none
    | _, _ => none
  | .eq => match kvsOf s.objs v, kvsOf s.objs w with
    | some k1, some k2 => if keysPlain k1 && keysPlain k2 && decide (k1.length ≠ k2.length) then some false else none
    | _, _ => match snap s.objs v, snap s.objs w with
      | some x, some y => eqP x y
      | _, _ => none
  | .ne => match snap s.objs v, snap s.objs w with
    | some x, some y => (eqP x y).map (!·)
    | _, _ => none
  | .is => isV
  | .nis => isV.map (!·)
  | .inn => inV
  | .nin => inV.map (!·)
where
  isV : Option Bool := match w with
    | .d .none => some (isNoneV v)
    | .d (.bool b) => match v with
      | .d (.bool c) => some (decide (c = b))
      | _ => none
    | _ => none
  inV : Option Bool := match snap s.objs v with
    | none => none
    | some x => match items s.objs w with
      | some ys => match pures ys with
        | some ds => if SeqAt.shaped x && ds.all SeqAt.shaped then some (ds.any fun y => PyData.eqv y x) else none
        | none => none
      | none => match kvsOf s.objs w with
        | some kvs => if isKey x && kvs.all (fun p => keyFit x p.1) then some (look x kvs).isSome else none
        | none => none
def ixV (v i : Val) (s : MS) : Option Val := match i with
  | .d x => match items s.objs v with
    | some xs => match x with
      | .int j => match place xs.length j with
        | some k => xs[k]?
        | none => none
      | _ => none
    | none => match kvsOf s.objs v with
      | some kvs => if isKey x && kvs.all (fun p => keyFit x p.1) then look x kvs else none
      | none => none
  | _ => none
/-- a slice of a tuple, of a list -/
def cutT (xs : List Val) (lo hi : Option Int) (st : Int) : List Val :=
  (List.range (Builtin.Slice.slicePlaces (Builtin.Slice.sliceAdjust lo hi st xs.length).1 (Builtin.Slice.sliceAdjust lo hi st xs.length).2 st)).filterMap fun (m : Nat) => xs[((Builtin.Slice.sliceAdjust lo hi st xs.length).1 + (m : Int) * st).toNat]?
def cutL (xs : List Val) (lo hi : Option Int) (st : Int) : List Val :=
  (sliceRange (sliceBounds lo hi (some st) xs.length).1 (sliceBounds lo hi (some st) xs.length).2.1 (sliceBounds lo hi (some st) xs.length).2.2).filterMap (xs[·]?)
def partI : Val → Option (Option Int)
  | .d .none => some none
  | .d (.int i) => some (some i)
  | _ => none
def partE (E : ME → MS → Out Val) (m : ME) (s : MS) : Out (Option Int) := (E m s).bind fun v s1 => match partI v with
  | some o => .ok o s1
  | none => .bad
def slV (v : Val) (l h : Option Int) (st : Int) (s : MS) : Out Val := if st = 0 then .bad else match items s.objs v with
    | some xs => match tyOf s.objs v with
      | some .list => newLst s (cutL xs l h st)
      | some .tuple => match pures (cutT xs l h st) with
        | some ds => if sizeOk ds.length then .ok (.d (.tuple ds)) s else .bad
        | none => .bad
      | _ => .bad
    | none => .bad
def pureItems (os : List MO) (v : Val) : Option (List PyData) := match items os v with
  | some vs => pures vs
  | none => none
def lenB (vs : List Val) (s : MS) : Out Val := match vs with
  | [v] => ofO ((lenOf s.objs v).map fun (n : Nat) => Val.d (.int (n : Int))) s
  | _ => .bad
def absB (vs : List Val) (s : MS) : Out Val := match vs with
  | [.d (.int i)] => .ok (.d (.int (if i < 0 then -i else i))) s
  | _ => .bad
def intB (vs : List Val) (s : MS) : Out Val := match vs with
  | [.d (.int i)] => .ok (.d (.int i)) s
  | [.d (.bool c)] => .ok (.d (.int (if c then 1 else 0))) s
  | _ => .bad
def max2B (vs : List Val) (s : MS) : Out Val := match vs with
  | [.d (.int i), .d (.int j)] => .ok (.d (.int (if j > i then j else i))) s
  | _ => .bad
def min2B (vs : List Val) (s : MS) : Out Val := match vs with
  | [.d (.int i), .d (.int j)] => .ok (.d (.int (if j < i then j else i))) s
  | _ => .bad
def minSB (vs : List Val) (s : MS) : Out Val := match vs with
  | [v] => match pureItems s.objs v with
    | some (d :: ds) => if allOrd (d :: ds) then .ok (.d (PySem.W.minD d ds)) s else .bad
    | _ => .bad
  | _ => .bad
def maxSB (vs : List Val) (s : MS) : Out Val := match vs with
  | [v] => match pureItems s.objs v with
    | some (d :: ds) => if allOrd (d :: ds) then .ok (.d (PySem.W.maxD d ds)) s else .bad
    | _ => .bad
  | _ => .bad
def sumB (vs : List Val) (s : MS) : Out Val := match vs with
  | [v] => if tyOf s.objs v ≠ some .list then .bad else match pureItems s.objs v with
    | some ds => ofO ((sumI ds).map fun i => .d (.int i)) s
    | none => .bad
  | _ => .bad
def anyB (vs : List Val) (s : MS) : Out Val := match vs with
  | [v] => if tyOf s.objs v ≠ some .list then .bad else match pureItems s.objs v with
    | some ds => ofO ((bools ds).map fun bs => .d (.bool (bs.any id))) s
    | none => .bad
  | _ => .bad
def allB (vs : List Val) (s : MS) : Out Val := match vs with
  | [v] => if tyOf s.objs v ≠ some .list then .bad else match pureItems s.objs v with
    | some ds => ofO ((bools ds).map fun bs => .d (.bool (bs.all id))) s
    | none => .bad
  | _ => .bad
def sortedB (vs : List Val) (s : MS) : Out Val := match vs with
  | [v] => match pureItems s.objs v with
    | some ds => if tyOf s.objs v ≠ some .list then .bad else if allOrd ds && sortable ds then newLst s ((sortD ds).map .d) else .bad
    | none => match kvsOf s.objs v with
      | some kvs => if allOrd (kvs.map (·.1)) && sortable (kvs.map (·.1)) then newLst s ((sortD (kvs.map (·.1))).map .d) else .bad
      | none => .bad
  | _ => .bad
def tupleB (vs : List Val) (s : MS) : Out Val := match vs with
  | [v] => match items s.objs v with
    | some vs => match frzs s.objs vs with
      | some (ds, os) => .ok (.d (.tuple ds)) { s with objs := os }
      | none => .bad
    | none => .bad
  | _ => .bad
def listB (vs : List Val) (s : MS) : Out Val := match vs with
  | [v] => match items s.objs v with
    | some vs => newLst s vs
    | none => match kvsOf s.objs v with
      | some kvs => newLst s (kvs.map fun p => .d p.1)
      | none => .bad
  | _ => .bad
def range1B (vs : List Val) (s : MS) : Out Val := match vs with
  | [.d (.int n)] => if inRange n then newLst s ((intsF 0 n.toNat).filterMap fun i => match i with
      | .one v => some v
      | _ => none) else .bad
  | _ => .bad
def reprB (vs : List Val) (s : MS) : Out Val := match vs with
  | [v] => match snap s.objs v with
    | some x => if x.showable && sizeOk x.shown.length && SeqAt.shaped x then .ok (.d (.str x.shown)) s else .bad
    | none => .bad
  | _ => .bad
def bltV (b : Blt) (vs : List Val) (s : MS) : Out Val := match b with
  | .len => lenB vs s
  | .abs => absB vs s
  | .int => intB vs s
  | .max2 => max2B vs s
  | .min2 => min2B vs s
  | .minS => minSB vs s
  | .maxS => maxSB vs s
  | .sum => sumB vs s
  | .any => anyB vs s
  | .all => allB vs s
  | .sorted => sortedB vs s
  | .tuple => tupleB vs s
  | .list => listB vs s
  | .range1 => range1B vs s
  | .repr => reprB vs s
def isFn : Val → Bool
  | .fn _ => true
  | _ => false
def appendM (o : Val) (vs : List Val) (s : MS) : Out Val := match o, vs with
  | .ref n, [v] => match s.objs[n]? with
    | some (.lst xs true) => if xs.length < 16777216 && !isFn v then .ok (.d .none) { s with objs := s.objs.set n (.lst (xs ++ [v]) true) } else .bad
    | _ => .bad
  | _, _ => .bad
def popM (o : Val) (vs : List Val) (s : MS) : Out Val := match o, vs with
  | .ref n, [] => match s.objs[n]? with
    | some (.lst xs true) => match xs.getLast? with
      | some v => .ok v { s with objs := s.objs.set n (.lst xs.dropLast true) }
      | none => .bad
    | _ => .bad
  | _, _ => .bad
def popAtM (o : Val) (vs : List Val) (s : MS) : Out Val := match o, vs with
  | .ref n, [.d (.int i)] => match s.objs[n]? with
    | some (.lst xs true) => match place xs.length i with
      | some k => match xs[k]? with
        | some v => .ok v { s with objs := s.objs.set n (.lst (xs.eraseIdx k) true) }
        | none => .bad
      | none => .bad
    | _ => .bad
  | _, _ => .bad
def insertM (o : Val) (vs : List Val) (s : MS) : Out Val := match o, vs with
  | .ref n, [.d (.int i), v] => match s.objs[n]? with
    | some (.lst xs true) => if xs.length < 16777216 && decide (0 ≤ i) && decide (i < 2 ^ 62) then .ok (.d .none) { s with objs := s.objs.set n (.lst (xs.take i.toNat ++ [v] ++ xs.drop i.toNat) true) } else .bad
    | _ => .bad
  | _, _ => .bad
def extendM (o : Val) (vs : List Val) (s : MS) : Out Val := match o, vs with
  | .ref n, [w] => match s.objs[n]?, items s.objs w with
    | some (.lst xs true), some ys => if xs.length + ys.length ≤ 16777216 ∧ isRef w = true then .ok (.d .none) { s with objs := s.objs.set n (.lst (xs ++ ys) true) } else .bad
    | _, _ => .bad
  | _, _ => .bad
def indexM (o : Val) (vs : List Val) (s : MS) : Out Val := match o, vs with
  | v, [w] => match pureItems s.objs v, snap s.objs w with
    | some ds, some x => if SeqAt.shaped x && SeqAt.shaped (.list ds) then ofO ((indexD x ds).map fun (k : Nat) => Val.d (.int (k : Int))) s else .bad
    | _, _ => .bad
  | _, _ => .bad
def getM (o : Val) (vs : List Val) (s : MS) : Out Val := match o, vs with
  | v, [.d k, w] => match kvsOf s.objs v with
    | some kvs => if isKey k && kvs.all (fun p => keyFit k p.1) then .ok ((look k kvs).getD w) s else .bad
    | none => .bad
  | _, _ => .bad
def setdefaultM (o : Val) (vs : List Val) (s : MS) : Out Val := match o, vs with
  | .ref n, [.d k, w] => match s.objs[n]? with
    | some (.dct kvs l) => if isKey k && kvs.all (fun p => keyFit k p.1) && !isFn w && sizeOk (kvs.length + 1) then match look k kvs with
        | some v => .ok v s
        | none => if l then .ok w { s with objs := s.objs.set n (.dct (put k w kvs) true) } else .bad
      else .bad
    | _ => .bad
  | _, _ => .bad
def bitlenM (o : Val) (vs : List Val) (s : MS) : Out Val := match o, vs with
  | .d (.int i), [] => .ok (.d (.int (Builtin.Int.intBits i))) s
  | _, _ => .bad
def mthV (m : Mth) (o : Val) (vs : List Val) (s : MS) : Out Val := match m with
  | .append => appendM o vs s
  | .pop => popM o vs s
  | .popAt => popAtM o vs s
  | .insert => insertM o vs s
  | .extend => extendM o vs s
  | .index => indexM o vs s
  | .get => getM o vs s
  | .setdefault => setdefaultM o vs s
  | .bitlen => bitlenM o vs s
/-- whether the object bears the method -/
def mthTy : Mth → Ty
  | .get => .dict
  | .setdefault => .dict
  | .bitlen => .int
  | _ => .list
def mthOk (m : Mth) (t : Option Ty) : Bool := decide (t = some (mthTy m))
/-- o[i] = v -/
def stiV (o i v : Val) (s : MS) : Option MS := if isFn v then none else match o, i with
  | .ref n, .d k => match s.objs[n]? with
    | some (.lst xs true) => match k with
      | .int j => match place xs.length j with
        | some p => some { s with objs := s.objs.set n (.lst (xs.set p v) true) }
        | none => none
      | _ => none
    | some (.dct kvs true) => if isKey k && kvs.all (fun p => keyFit k p.1) && sizeOk (kvs.length + 1) then some { s with objs := s.objs.set n (.dct (put k v kvs) true) } else none
    | _ => none
  | _, _ => none

/-! ### calls -/
def ofRV (r : RV) (s : MS) : Out Val := match r with
  | .d x => .ok (.d x) s
  | .lst xs => newObj s (.lst (xs.map .d) true)
  | .dct kvs => newObj s (.dct (pureKv kvs) true)
def ofRF (r : RF) (s : MS) : Out Val := match r with
  | .ok r _ => ofRV r s
  | .exc c x _ => .exc c x s
  | .bad => .bad
/-- a call whose first argument is the list n, changed by it -/
def ofRFr (r : RF) (n : Nat) (s : MS) : Out Val := match r with
  | .ok r (some out) => ofRV r { s with objs := s.objs.set n (.lst (out.map .d) true) }
  | .exc c x (some out) => .exc c x { s with objs := s.objs.set n (.lst (out.map .d) true) }
  | _ => .bad
def callV (K : Cfg) (g : Nat) (vs : List Val) (dfl : List PyData) (s : MS) : Out Val := match frzs s.objs vs with
  | some (ds, os) => ofRF (K.call g none (ds ++ dfl)) { s with objs := os }
  | none => .bad
def callR (K : Cfg) (g n : Nat) (vs : List Val) (s : MS) : Out Val := match frzs s.objs vs with
  | some (ds, os) => match os[n]? with
    | some (.lst xs true) => match pures xs with
      | some inp => ofRFr (K.call g (some inp) ds) n { s with objs := os }
      | none => .bad
    | _ => .bad
  | none => .bad

/-! ### loops -/
def tests (E : ME → MS → Out Val) : List ME → MS → Out Bool
  | [], s => .ok true s
  | [c], s => tst E c s
  | _, _ => .bad
def lcL (A : Item → MS → Option MS) (T : MS → Out Bool) (E : MS → Out Val) (env0 : List (Option Val)) : List Item → MS → Out (List Val)
  | [], s => .ok [] s
  | it :: r, s => match A it { s with env := env0 } with
    | none => .bad
    | some s1 => match T s1 with
      | .ok true s2 => match E s2 with
        | .ok v s3 => (lcL A T E env0 r s3).bind fun vs s4 => .ok (v :: vs) s4
        | _ => .bad
      | .ok false s2 => lcL A T E env0 r s2
      | _ => .bad
/-- the turns of a comprehension's second clause: acc is told so far -/
def lcA (A : Item → MS → Option MS) (T : MS → Out Bool) (E : MS → Out Val) (env0 : List (Option Val)) : List Item → List Val → MS → Out (List Val)
  | [], acc, s => .ok acc s
  | it :: r, acc, s => match A it { s with env := env0 } with
    | none => .bad
    | some s1 => match T s1 with
      | .ok true s2 => match E s2 with
        | .ok v s3 => if sizeOk (acc.length + 1) then lcA A T E env0 r (acc ++ [v]) s3 else .bad
        | _ => .bad
      | .ok false s2 => lcA A T E env0 r acc s2
      | _ => .bad
/-- the turns of its first clause -/
def lcAA (A : Item → MS → Option MS) (T : MS → Out Bool) (E : List Val → MS → Out (List Val)) (env0 : List (Option Val)) : List Item → List Val → MS → Out (List Val)
  | [], acc, s => .ok acc s
  | it :: r, acc, s => match A it { s with env := env0 } with
    | none => .bad
    | some s1 => match T s1 with
      | .ok true s2 => match E acc s2 with
        | .ok acc' s3 => lcAA A T E env0 r acc' s3
        | _ => .bad
      | .ok false s2 => lcAA A T E env0 r acc s2
      | _ => .bad
def dcL (A : Item → MS → Option MS) (T : MS → Out Bool) (EK EV : MS → Out Val) (env0 : List (Option Val)) : List Item → List (PyData × Val) → MS → Out (List (PyData × Val))
  | [], acc, s => .ok acc s
  | it :: r, acc, s => match A it { s with env := env0 } with
    | none => .bad
    | some s1 => match T s1 with
      | .ok true s2 => match EK s2 with
        | .ok (.d k) s3 => match EV s3 with
          | .ok v s4 => if isKey k && acc.all (fun p => keyFit k p.1) && sizeOk (acc.length + 1) && !isFn v then dcL A T EK EV env0 r (put k v acc) s4 else .bad
          | _ => .bad
        | _ => .bad
      | .ok false s2 => dcL A T EK EV env0 r acc s2
      | _ => .bad
def frL (A : Item → MS → Option MS) (B : MS → Out Flow) : List Item → MS → Out Flow
  | [], s => .ok .next s
  | it :: r, s => match A it s with
    | none => .bad
    | some s1 => (B s1).bind fun f s2 => match f with
      | .next => frL A B r s2
      | .cnt => frL A B r s2
      | .brk => .ok .next s2
      | .ret v => .ok (.ret v) s2
def hrOf (x : PyData) : HR → PyData
  | .con d => d
  | .kept d => .tuple [d, x]
def caught (sub : Nat → Nat → Bool) (c : Nat) : List (Nat × HR) → Option HR
  | [] => none
  | (h, r) :: hs => if sub c h then some r else caught sub c hs
def dicL : List Val → List Val → List (PyData × Val) → Option (List (PyData × Val))
  | [], [], acc => some acc
  | .d k :: ks, v :: vs, acc => if isKey k && acc.all (fun p => keyFit k p.1) && !isFn v then dicL ks vs (put k v acc) else none
  | _, _, _ => none

/-- what a loop walks, evaluated -/
def walkF (E : ME → MS → Out Val) (k : ItK) (it : List ME) (s : MS) : Out (List Item) := (evs E it s).bind fun vs s1 => match walk k vs s1 with
    | none => .bad
    | some (its, s2) => .ok its s2

def noFns : List Val → Bool := fun vs => vs.all fun v => !isFn v
/-- a comprehension's list -/
def lcG (A : Item → MS → Option MS) (T : MS → Out Bool) (E : MS → Out Val) (own : List Nat) (its : List Item) (s2 : MS) : Out Val :=
  if sizeOk its.length then (lcL A T E (wipeE s2.env own) its s2).bind fun xs s3 => if noFns xs then newLst { s3 with env := s2.env } xs else .bad else .bad

/-- .. of two clauses -/
def lc2E (F2 : MS → Out (List Item)) (A2 : Item → MS → Option MS) (T2 : MS → Out Bool) (E : MS → Out Val) (own2 : List Nat) (acc : List Val) (s : MS) : Out (List Val) := match F2 s with
  | .ok its2 s5 => lcA A2 T2 E (wipeE s.env own2) its2 acc s5
  | _ => .bad
def lc2G (A : Item → MS → Option MS) (T : MS → Out Bool) (F2 : MS → Out (List Item)) (A2 : Item → MS → Option MS) (T2 : MS → Out Bool) (E : MS → Out Val) (own own2 : List Nat) (its : List Item) (s2 : MS) : Out Val :=
  (lcAA A T (lc2E F2 A2 T2 E own2) (wipeE s2.env own) its [] s2).bind fun xs s3 => if noFns xs then newLst { s3 with env := s2.env } xs else .bad
/-- a dict comprehension's dict -/
def dcG (A : Item → MS → Option MS) (T : MS → Out Bool) (EK EV : MS → Out Val) (own : List Nat) (its : List Item) (s2 : MS) : Out Val :=
  (dcL A T EK EV (wipeE s2.env own) its [] s2).bind fun kvs s3 => newObj { s3 with env := s2.env } (.dct kvs true)
/-- a display with stars -/
def evd (E : ME → MS → Out Val) : List ME → MS → Out (List Val)
  | [], s => .ok [] s
  | e :: es, s => match e with
    | .star e' => (E e' s).bind fun v s1 => match items s1.objs v with
      | some xs => (evd E es s1).bind fun vs s2 => .ok (xs ++ vs) s2
      | none => .bad
    | e => (E e s).bind fun v s1 => (evd E es s1).bind fun vs s2 => .ok (v :: vs) s2

/-! ### min(d.values()) -/
def intsV : List Val → Option (List Int)
  | [] => some []
  | .d (.int i) :: r => match intsV r with
    | some is => some (i :: is)
    | none => none
  | _ :: _ => none
def minVals (v : Val) (s : MS) : Out Val := match kvsOf s.objs v with
  | some kvs => if keysPlain kvs then match intsV (kvs.map (·.2)) with
    | some (i :: is) => .ok (.d (.int (is.foldl min i))) s
    | _ => .bad
    else .bad
  | none => .bad
/-! ### the steps -/
def evS (K : Cfg) (ih : Sem) (e : ME) (s : MS) : Out Val := match e with
  | .con d => .ok (.d d) s
  | .slot i => match s.env[i]? with
    | some (some v) => .ok v s
    | _ => .bad
  | .gc i => ofO ((K.con i).map .d) s
  | .tup es => (evs ih.ev es s).bind fun vs s1 => match frzs s1.objs vs with
    | some (ds, os) => if sizeOk ds.length then .ok (.d (.tuple ds)) { s1 with objs := os } else .bad
    | none => .bad
  | .lst es => (evs ih.ev es s).bind fun vs s1 => if noFns vs then newLst s1 vs else .bad
  | .star _ => .bad
  | .lstS es => (evd ih.ev es s).bind fun vs s1 => if noFns vs then newLst s1 vs else .bad
  | .dic ks vs => match ks, vs with
    | [], [] => newObj s (.dct [] true)
    | [k], [v] => (ih.ev k s).bind fun kv s1 => (ih.ev v s1).bind fun vv s2 => match dicL [kv] [vv] [] with
      | some kvs => newObj s2 (.dct kvs true)
      | none => .bad
    | [k, k2], [v, v2] => (ih.ev k s).bind fun kv s1 => (ih.ev v s1).bind fun vv s2 => (ih.ev k2 s2).bind fun kv2 s3 => (ih.ev v2 s3).bind fun vv2 s4 => match dicL [kv, kv2] [vv, vv2] [] with
      | some kvs => newObj s4 (.dct kvs true)
      | none => .bad
    | _, _ => .bad
  | .bin o a b => (ih.ev a s).bind fun v s1 => (ih.ev b s1).bind fun w s2 => binV o v w s2
  | .neg a => (ih.ev a s).bind fun v s1 => match v with
    | .d (.int i) => .ok (.d (.int (-i))) s1
    | _ => .bad
  | .nt a => (tst ih.ev a s).bind fun b s1 => .ok (.d (.bool (!b))) s1
  | .an a b => (tst ih.ev a s).bind fun c s1 => if c then (tst ih.ev b s1).bind fun c' s2 => .ok (.d (.bool c')) s2 else .ok (.d (.bool false)) s1
  | .orr a b => (tst ih.ev a s).bind fun c s1 => if c then .ok (.d (.bool true)) s1 else (tst ih.ev b s1).bind fun c' s2 => .ok (.d (.bool c')) s2
  | .ite c a b => (tst ih.ev c s).bind fun t s1 => if t then ih.ev a s1 else ih.ev b s1
  | .cmp o a b => (ih.ev a s).bind fun v s1 => (ih.ev b s1).bind fun w s2 => ofO ((cmpV o v w s2).map fun t => .d (.bool t)) s2
  | .chn o o' a b c => (ih.ev a s).bind fun v s1 => (ih.ev b s1).bind fun w s2 => match cmpV o v w s2 with
    | none => .bad
    | some false => .ok (.d (.bool false)) s2
    | some true => (ih.ev c s2).bind fun u s3 => ofO ((cmpV o' w u s3).map fun t => .d (.bool t)) s3
  | .call g es dfl => (evs ih.ev es s).bind fun vs s1 => callV K g vs dfl s1
  | .callr g i es => match s.env[i]? with
    | some (some (.ref n)) => (evs ih.ev es s).bind fun vs s1 => callR K g n vs s1
    | _ => .bad
  | .callv i es => match s.env[i]? with
    | some (some (.fn g)) => (evs ih.ev es s).bind fun vs s1 => callV K g vs (K.dfl g) s1
    | _ => .bad
  | .blt b es => (evs ih.ev es s).bind fun vs s1 => bltV b vs s1
  | .isi a t => (ih.ev a s).bind fun v s1 => if isFn v then .bad else .ok (.d (.bool (isTy s1.objs v t))) s1
  | .mth m o es => (ih.ev o s).bind fun v s1 => if mthOk m (tyOf s1.objs v) then (evs ih.ev es s1).bind fun vs s2 => mthV m v vs s2 else .bad
  | .ix a i => (ih.ev a s).bind fun v s1 => (ih.ev i s1).bind fun w s2 => ofO (ixV v w s2) s2
  | .sl a lo hi st => (ih.ev a s).bind fun v s1 => (partE ih.ev lo s1).bind fun l s2 => (partE ih.ev hi s2).bind fun h s3 => slV v l h st s3
  | .lc own tg k it ifs elt => (walkF ih.ev k it s).bind fun its s2 => lcG (asgI tg) (tests ih.ev ifs) (ih.ev elt) own its s2
  | .lc2 own own2 tg k it ifs tg2 k2 it2 ifs2 elt => (walkF ih.ev k it s).bind fun its s2 => lc2G (asgI tg) (tests ih.ev ifs) (walkF ih.ev k2 it2) (asgI tg2) (tests ih.ev ifs2) (ih.ev elt) own own2 its s2
  | .minv o => (ih.ev o s).bind fun v s1 => minVals v s1
  | .dc own tg k it ifs ke ve => (walkF ih.ev k it s).bind fun its s2 => dcG (asgI tg) (tests ih.ev ifs) (ih.ev ke) (ih.ev ve) own its s2
  | .tryl _ hs tag body => match ih.ev body s with
    | .ok v s1 => pureV s1 v fun x s2 => .ok (.d (.tuple [tag, x])) s2
    | .exc c x s1 => match caught K.sub c hs with
      | some r => .ok (.d (hrOf x r)) s1
      | none => .bad
    | .bad => .bad
def augV (op : Op) (v w : Val) (s : MS) : Out Val := match v, w with
  | .d (.int i), .d (.int j) => ofO ((intOp op i j).map fun k => .d (.int k)) s
  | _, _ => .bad
def stores : List Nat → List Val → MS → Option MS
  | [], [], s => some s
  | i :: is, v :: vs, s => if i < s.env.length then stores is vs (s.setSlot i v) else none
  | _, _, _ => none
/-- while, at most n turns -/
noncomputable def whlL (T : MS → Out Bool) (B : MS → Out Flow) (n : Nat) : MS → Out Flow := Nat.rec (fun _ => .bad) (fun _ ih s => (T s).bind fun t s1 => if t then (B s1).bind fun f s2 => match f with
      | .next => ih s2
      | .cnt => ih s2
      | .brk => .ok .next s2
      | .ret v => .ok (.ret v) s2
    else .ok .next s1) n
def nextO (o : Option MS) : Out Flow := match o with
  | some s => .ok .next s
  | none => .bad
noncomputable def exS (K : Cfg) (ih : Sem) (e : MSt) (s : MS) : Out Flow := match e with
  | .asg tg e => (ih.ev e s).bind fun v s1 => nextO (asgV tg v s1)
  | .par is es => (evs ih.ev es s).bind fun vs s1 => nextO (stores is vs s1)
  | .asg2 i j e => (ih.ev e s).bind fun v s1 => nextO (stores [i, j] [v, v] s1)
  | .sti o i e => (ih.ev e s).bind fun v s1 => (ih.ev o s1).bind fun ov s2 => (ih.ev i s2).bind fun iv s3 => nextO (stiV ov iv v s3)
  | .aug i op e => match s.env[i]? with
    | some (some v) => (ih.ev e s).bind fun w s1 => (augV op v w s1).bind fun x s2 => if i < s2.env.length then .ok .next (s2.setSlot i x) else .bad
    | _ => .bad
  | .augi o i op e => (ih.ev o s).bind fun ov s1 => (ih.ev i s1).bind fun iv s2 => match ixV ov iv s2 with
    | some v => if tyOf s2.objs ov = some .tuple then .bad else (ih.ev e s2).bind fun w s3 => (augV op v w s3).bind fun x s4 => nextO (stiV ov iv x s4)
    | none => .bad
  | .ex e => (ih.ev e s).bind fun _ s1 => .ok .next s1
  | .ret e => (ih.ev e s).bind fun v s1 => .ok (.ret v) s1
  | .iff c a b => (tst ih.ev c s).bind fun t s1 => if t then exs ih.ex a s1 else exs ih.ex b s1
  | .whl c b => whlL (tst ih.ev c) (exs ih.ex b) K.lim s
  | .fr tg k it b => (walkF ih.ev k it s).bind fun its s2 => frL (asgI tg) (exs ih.ex b) its s2
  | .forf i gs b => frL (asgI (.n i)) (exs ih.ex b) (gs.map fun g => .one (.fn g)) s
  | .rse c e => (ih.ev e s).bind fun v s1 => match v with
    | .d x => .exc c x s1
    | _ => .bad
  | .pss => .ok .next s
  | .brk => .ok .brk s
  | .cnt => .ok .cnt s
  | .bad => .bad
noncomputable def sem (K : Cfg) (n : Nat) : Sem := Nat.rec ⟨fun _ _ => .bad, fun _ _ => .bad⟩ (fun _ ih => ⟨evS K ih, exS K ih⟩) n
theorem sem_ev (K : Cfg) (n : Nat) : (sem K (n + 1)).ev = evS K (sem K n) := rfl
theorem sem_ex (K : Cfg) (n : Nat) : (sem K (n + 1)).ex = exS K (sem K n) := rfl

/-! ### defs -/
structure Fn where
  np : Nat
  ns : Nat
  br : Bool
  body : List MSt
structure Prog where
  fns : List Fn
  cons : List PyData
  sub : Nat → Nat → Bool
  dfl : Nat → List PyData
def outOf (br : Bool) (s : MS) : Option (Option (List PyData)) := match br with
  | false => some none
  | true => match (s.objs[0]? : Option MO) with
    | some (.lst xs true) => match pures xs with
      | some ds => some (some ds)
      | none => none
    | _ => none
def liveAt (os : List MO) (n : Nat) : Bool := match os[n]? with
  | some (.lst _ l) => l
  | some (.dct _ l) => l
  | none => false
/-- what a def hands back -/
def finV (br : Bool) (v : Val) (s : MS) : Option (RV × List MO) := match v with
  | .d x => some (.d x, s.objs)
  | .fn _ => none
  | .ref n => if br && decide (n = 0) then none else match (s.objs[n]? : Option MO) with
    | some (.lst xs true) => match frzs s.objs xs with
      | some (ds, os) => if liveAt os n then some (.lst ds, os) else none
      | none => none
    | some (.dct kvs true) => match frzK (frz FD) s.objs kvs with
      | some (ds, os) => if liveAt os n then some (.dct ds, os) else none
      | none => none
    | _ => match frz FD s.objs v with
      | some (x, os) => some (.d x, os)
      | none => none
def finish (br : Bool) (v : Val) (s : MS) : RF := match outOf br s with
  | none => .bad
  | some out => match finV br v s with
    | none => .bad
    | some (r, os) => match outOf br { s with objs := os } with
      | none => .bad
      | some _ => .ok r out
def start (fn : Fn) (inp : Option (List PyData)) (args : List PyData) : MS := match inp with
  | none => ⟨args.map (fun x => some (.d x)) ++ List.replicate (fn.ns - fn.np) none, []⟩
  | some xs => ⟨some (.ref 0) :: args.map (fun x => some (.d x)) ++ List.replicate (fn.ns - fn.np) none, [.lst (xs.map .d) true]⟩
def argsOk (fn : Fn) (inp : Option (List PyData)) (args : List PyData) : Bool := match inp with
  | none => !fn.br && decide (args.length = fn.np)
  | some _ => fn.br && decide (args.length + 1 = fn.np)
noncomputable def runFn (K : Cfg) (fuel : Nat) (fn : Fn) (inp : Option (List PyData)) (args : List PyData) : RF :=
  if argsOk fn inp args then match exs (sem K fuel).ex fn.body (start fn inp args) with
    | .ok (.ret v) s => finish fn.br v s
    | .ok .next s => finish fn.br (.d .none) s
    | .ok _ _ => .bad
    | .exc c x s => match outOf fn.br s with
      | some out => .exc c x out
      | none => .bad
    | .bad => .bad
  else .bad
noncomputable def callF (P : Prog) (lim fuel : Nat) (l : Nat) : CallT := Nat.rec (fun _ _ _ => .bad) (fun _ ih g inp args => match P.fns[g]? with
  | some fn => runFn ⟨fun i => P.cons[i]?, lim, ih, P.sub, P.dfl⟩ fuel fn inp args
  | none => .bad) l
theorem callF_succ (P : Prog) (lim fuel l g : Nat) (inp : Option (List PyData)) (args : List PyData) : callF P lim fuel (l + 1) g inp args = (match P.fns[g]? with
  | some fn => runFn ⟨fun i => P.cons[i]?, lim, callF P lim fuel l, P.sub, P.dfl⟩ fuel fn inp args
  | none => .bad) := rfl
end MI

set_option Elab.async false
set_option linter.all false
set_option maxRecDepth 100000
/-! MI: how data and own objects lie in the hand layer's heap; readings. -/
namespace MI
open PySem PySem.Spec L2
open PyProof.Rows hiding St

/-! ### data -/
/-- a raw object -/
def rawO (a : Addr) (o : Obj) : HO := .ext fun h => h.get? a = some o
mutual
def toKey : PyData → NestedKey
  | .int i => .num i
  | .bool b => .num (if b = true then 1 else 0)
  | .str x => .text x
  | .tuple xs => .tup (toKeys xs)
  | .none => .none
  | .list _ => .none
  | .dict _ => .none
def toKeys : List PyData → List NestedKey
  | [] => []
  | x :: xs => toKey x :: toKeys xs
end
def kD : Key → PyData
  | .inl i => .int i
  | .inr x => .str x
/-- an entry: its key's value, its key, its value -/
abbrev Ent := V × PyData × V
/-- an entry of a dict -/
def EntR (w : World) (e : DictEntry) (x : Ent) : Prop := L2.RelV x.1 e.key ∧ e.hash = (toKey x.2.1).hash w ∧ L2.RelV x.2.2 e.val
/-- a dict at a, by its entries -/
def DcA (w : World) (H : Hp) (a : Addr) (es : List Ent) : Prop :=
  ∃ (o : Obj) (ents : Array DictEntry) (ep : Nat), H a = some (rawO a o) ∧ o.ExactDict ∧ o.data = .dict ents ep ∧ (a == sysModules) = false ∧ Paired (EntR w) ents.toList es ∧ (es.map fun x => toKey x.2.1).Nodup ∧ (es.all fun x => isKey x.2.1) = true ∧ es.length ≤ sizeLine
mutual
/-- data as it lies in the heap -/
inductive Rp (P : Program) (w : World) (K : PySem.W.Frag) (H : Hp) : V → PyData → Prop
  | non : Rp P w K H .non .none
  | bl (b : Bool) : Rp P w K H (.bl b) (.bool b)
  | int (i : Int) : Rp P w K H (.int i) (.int i)
  | str (x : Str) : Rp P w K H (.str x) (.str x)
  | lst {a : Addr} {xs : List V} {ds : List PyData} : SqL K H a xs → RpA P w K H xs ds → Rp P w K H (.ref a) (.list ds)
  | tup {a : Addr} {xs : List V} {ds : List PyData} : SqT K H a xs → RpA P w K H xs ds → Rp P w K H (.ref a) (.tuple ds)
  | dct {a : Addr} {es : List Ent} {ds : List (PyData × PyData)} : DcA w H a es → RpA P w K H (es.map (·.1)) (es.map (·.2.1)) → RpA P w K H (es.map (·.2.2)) (ds.map (·.2)) → ds.map (·.1) = es.map (·.2.1) → Rp P w K H (.ref a) (.dict ds)
inductive RpA (P : Program) (w : World) (K : PySem.W.Frag) (H : Hp) : List V → List PyData → Prop
  | nil : RpA P w K H [] []
  | cons {v : V} {vs : List V} {d : PyData} {ds : List PyData} : Rp P w K H v d → RpA P w K H vs ds → RpA P w K H (v :: vs) (d :: ds)
end
theorem RpA.length {P : Program} {w : World} {K : PySem.W.Frag} {H : Hp} : ∀ {vs : List V} {ds : List PyData}, RpA P w K H vs ds → vs.length = ds.length
  | [], [], _ => rfl
  | _ :: _, _ :: _, .cons _ t => by simp [RpA.length t]
theorem RpA.get {P : Program} {w : World} {K : PySem.W.Frag} {H : Hp} : ∀ {vs : List V} {ds : List PyData} {i : Nat} {d : PyData}, RpA P w K H vs ds → ds[i]? = some d → ∃ v, vs[i]? = some v ∧ Rp P w K H v d
  | _, _, _, _, .nil, e => by simp at e
  | _, _, 0, _, .cons r _, e => by simp at e; subst e; exact ⟨_, rfl, r⟩
  | _, _, i + 1, _, .cons _ t, e => by
    obtain ⟨v, h1, h2⟩ := RpA.get (i := i) t (by simpa using e)
    exact ⟨v, by simpa using h1, h2⟩
theorem RpA.append {P : Program} {w : World} {K : PySem.W.Frag} {H : Hp} : ∀ {vs ws : List V} {ds es : List PyData}, RpA P w K H vs ds → RpA P w K H ws es → RpA P w K H (vs ++ ws) (ds ++ es)
  | _, _, _, _, .nil, t => t
  | _, _, _, _, .cons r s, t => .cons r (RpA.append s t)
theorem Same.sqT {K : PySem.W.Frag} {H H' : Hp} {a : Addr} {xs : List V} (e : Same H H') (h : SqT K H a xs) : SqT K H' a xs := by
  rcases h with (h | ⟨o, h⟩) | h
  · exact .inl (.inl (e _ _ h))
  · exact .inl (.inr ⟨o, e _ _ h⟩)
  · exact .inr h
theorem DcA.same {w : World} {H H' : Hp} {a : Addr} {es : List Ent} (e : Same H H') (h : DcA w H a es) : DcA w H' a es := by
  obtain ⟨o, ents, ep, h, q⟩ := h
  exact ⟨o, ents, ep, e _ _ h, q⟩
section
variable {P : Program} {w : World} {K : PySem.W.Frag} {H H' : Hp}
mutual
theorem Rp.same (e : Same H H') : ∀ {v : V} {d : PyData}, Rp P w K H v d → Rp P w K H' v d
  | _, _, .non => .non
  | _, _, .bl b => .bl b
  | _, _, .int i => .int i
  | _, _, .str x => .str x
  | _, _, .lst h t => .lst (L2.Same.seq e h) (RpA.same e t)
  | _, _, .tup h t => .tup (Same.sqT e h) (RpA.same e t)
  | _, _, .dct h t u q => .dct (DcA.same e h) (RpA.same e t) (RpA.same e u) q
theorem RpA.same (e : Same H H') : ∀ {vs : List V} {ds : List PyData}, RpA P w K H vs ds → RpA P w K H' vs ds
  | _, _, .nil => .nil
  | _, _, .cons r t => .cons (Rp.same e r) (RpA.same e t)
end
end

/-! ### values, objects, states -/
/-- a lambda with parameters, none of its names from without but the module's -/
structure LamD where
  q : Str
  params : Arguments
  body : Expr
  scope : Scope
/-- the object at a is the lambda D, its code object at c -/
def LamO (a : Addr) (D : LamD) (c : Addr) : HO := .ext fun h => ∃ pm ctv : Value, h.get? a = some (PySem.W.kla_obj "<lambda>" D.q D.params D.body D.scope [] pm c ctv)
structure Wd where
  P : Program
  w : World
  K : PySem.W.Frag
  fa : Nat → Option Addr
  T : List (Addr × Str)
  la : Nat → Option LamD
abbrev Wd.rp (W : Wd) : Hp → V → PyData → Prop := Rp W.P W.w W.K
abbrev Wd.rpA (W : Wd) : Hp → List V → List PyData → Prop := RpA W.P W.w W.K
def RepV (W : Wd) (f : List Addr) (H : Hp) (u : V) : Val → Prop
  | .d x => W.rp H u x
  | .ref n => ∃ a, f[n]? = some a ∧ u = .ref a
  | .fn g => ∃ a, u = .ref a ∧ (W.fa g = some a ∨ ∃ D c, W.la g = some D ∧ H a = some (LamO a D c) ∧ H c = some (LamX.CodeO c D.q))
def MO.live : MO → Bool
  | .lst _ l => l
  | .dct _ l => l
def InU (f : List Addr) (os : List MO) (a : Addr) : Prop := ∃ (n : Nat) (o : MO), f[n]? = some a ∧ os[n]? = some o ∧ o.live = true
/-- the heap without what is hidden (A) and the live objects -/
def NoTbl (o : HO) : Prop := ∀ ps, o ≠ .tbl ps
noncomputable def hid (A : Addr → Prop) (f : List Addr) (os : List MO) (H : Hp) : Hp := fun b => open Classical in if A b ∨ InU f os b ∨ ∃ ps, H b = some (.tbl ps) then none else H b
theorem hid_of {A : Addr → Prop} {f : List Addr} {os : List MO} {H : Hp} {b : Addr} {o : HO} (h : hid A f os H b = some o) : H b = some o ∧ ¬ A b ∧ ¬ InU f os b ∧ NoTbl o := by
  unfold hid at h
  split at h
  · cases h
  · rename_i q
    exact ⟨h, fun z => q (.inl z), fun z => q (.inr (.inl z)), fun ps z => q (.inr (.inr ⟨ps, by rw [h, z]⟩))⟩
theorem hid_at {A : Addr → Prop} {f : List Addr} {os : List MO} {H : Hp} {b : Addr} {o : HO} (h : H b = some o) (h1 : ¬ A b) (h2 : ¬ InU f os b) (h3 : NoTbl o) : hid A f os H b = some o := by
  unfold hid
  rw [if_neg]
  · exact h
  · rintro (z | z | ⟨ps, z⟩)
    · exact h1 z
    · exact h2 z
    · rw [h] at z
      exact h3 ps (Option.some.inj z)
theorem hid_eq {A : Addr → Prop} {f : List Addr} {os : List MO} {H : Hp} {b : Addr} (h1 : ¬ A b) (h2 : ¬ InU f os b) (h3 : ∀ o, H b = some o → NoTbl o) : hid A f os H b = H b := by
  unfold hid
  rw [if_neg]
  rintro (z | z | ⟨ps, z⟩)
  · exact h1 z
  · exact h2 z
  · exact h3 _ z ps rfl
theorem hid_sub {A : Addr → Prop} {f : List Addr} {os : List MO} {H : Hp} : Same (hid A f os H) H := fun _ _ h => (hid_of h).1
def ObjR (W : Wd) (f : List Addr) (Hh H : Hp) (a : Addr) : MO → Prop
  | .lst xs _ => ∃ vs, H a = some (.lst vs) ∧ Paired (RepV W f Hh) vs xs
  | .dct kvs _ => ∃ es : List Ent, DcA W.w H a es ∧ W.rpA Hh (es.map (·.1)) (es.map (·.2.1)) ∧ es.map (·.2.1) = kvs.map (·.1) ∧ Paired (RepV W f Hh) (es.map (·.2.2)) (kvs.map (·.2))
structure R (W : Wd) (A : Addr → Prop) (f : List Addr) (s : MS) (σ : St) (H : Hp) : Prop where
  len : f.length = s.objs.length
  nd : f.Nodup
  hA : ∀ b, A b → ∃ o, H b = some o ∧ NoTbl o ∧ ∀ q, o ≠ LamX.CodeO b q
  disj : ∀ b ∈ f, ¬ A b
  obj : ∀ (n : Nat) (o : MO) (a : Addr), s.objs[n]? = some o → f[n]? = some a → ObjR W f (hid A f s.objs H) H a o
  env : ∀ (i : Nat) (v : Val), s.env[i]? = some (some v) → ∃ u, σ[i]? = some (some u) ∧ RepV W f (hid A f s.objs H) u v
  elen : s.env.length = σ.length
  tabs : LamX.Tabs W.T H
structure Ext (f : List Addr) (os : List MO) (H : Hp) (f' : List Addr) (os' : List MO) (H' : Hp) : Prop where
  pre : ∃ t, f' = f ++ t
  keep : ∀ b o, H b = some o → ¬ InU f os b → NoTbl o → H' b = some o
  newU : ∀ b, InU f' os' b → InU f os b ∨ ∀ o, H b = some o → ¬ NoTbl o
theorem Ext.refl (f : List Addr) (os : List MO) (H : Hp) : Ext f os H f os H := ⟨⟨[], by simp⟩, fun _ _ h _ _ => h, fun _ h => .inl h⟩
theorem Ext.trans {f f1 f2 : List Addr} {os os1 os2 : List MO} {H H1 H2 : Hp} (a : Ext f os H f1 os1 H1) (b : Ext f1 os1 H1 f2 os2 H2) : Ext f os H f2 os2 H2 := by
  refine ⟨?_, fun c o h n nt => ?_, fun c h => ?_⟩
  · obtain ⟨t, e⟩ := a.pre
    obtain ⟨u, e'⟩ := b.pre
    exact ⟨t ++ u, by rw [e', e, List.append_assoc]⟩
  · refine b.keep c o (a.keep c o h n nt) (fun z => ?_) nt
    rcases a.newU c z with q | q
    · exact n q
    · exact q o h nt
  · rcases b.newU c h with q | q
    · exact a.newU c q
    · by_cases hu : InU f os c
      · exact .inl hu
      · exact .inr fun o ho nt => q o (a.keep c o ho hu nt) nt
theorem Ext.same {A : Addr → Prop} {f f' : List Addr} {os os' : List MO} {H H' : Hp} (x : Ext f os H f' os' H') : Same (hid A f os H) (hid A f' os' H') := by
  intro b o h
  obtain ⟨h1, h2, h3, h4⟩ := hid_of h
  refine hid_at (x.keep b o h1 h3 h4) h2 (fun z => ?_) h4
  rcases x.newU b z with q | q
  · exact h3 q
  · exact q o h1 h4
theorem R.hA' {W : Wd} {A : Addr → Prop} {f f' : List Addr} {s : MS} {os' : List MO} {σ : St} {H H' : Hp} (r : R W A f s σ H) (x : Ext f s.objs H f' os' H') : ∀ b, A b → ∃ o, H' b = some o ∧ NoTbl o ∧ ∀ q, o ≠ LamX.CodeO b q := fun b hb => by
  obtain ⟨o, e, n⟩ := r.hA b hb
  refine ⟨o, x.keep b o e (fun z => ?_) n.1, n⟩
  obtain ⟨m, _, h1, _⟩ := z
  exact r.disj b (List.mem_of_getElem? h1) hb
theorem R.nA {W : Wd} {A : Addr → Prop} {f : List Addr} {s : MS} {σ : St} {H : Hp} (r : R W A f s σ H) {b : Addr} (h : H b = none) : ¬ A b := fun z => by
  obtain ⟨o, e, _⟩ := r.hA b z
  rw [h] at e
  cases e
theorem RepV.ext {W : Wd} {A : Addr → Prop} {f f' : List Addr} {os os' : List MO} {H H' : Hp} (x : Ext f os H f' os' H') {u : V} {v : Val} (r : RepV W f (hid A f os H) u v) : RepV W f' (hid A f' os' H') u v := by
  cases v with
  | d d => exact Rp.same x.same r
  | ref n =>
    obtain ⟨a, h, e⟩ := r
    obtain ⟨t, q⟩ := x.pre
    refine ⟨a, ?_, e⟩
    rw [q, List.getElem?_append_left (List.getElem?_eq_some_iff.mp h).1, h]
  | fn g =>
    obtain ⟨a, e, h⟩ := r
    refine ⟨a, e, h.imp id ?_⟩
    rintro ⟨D, c, h1, h2, h3⟩
    exact ⟨D, c, h1, x.same _ _ h2, x.same _ _ h3⟩
theorem Paired.mp {α β : Type} {F G : α → β → Prop} (h : ∀ a b, F a b → G a b) : ∀ {l : List α} {m : List β}, Paired F l m → Paired G l m
  | _, _, .nil => .nil
  | _, _, .cons r t => .cons (h _ _ r) (Paired.mp h t)
theorem Paired.length' {α β : Type} {F : α → β → Prop} : ∀ {l : List α} {m : List β}, Paired F l m → l.length = m.length
  | _, _, .nil => rfl
  | _, _, .cons _ t => by simp [Paired.length' t]
theorem Paired.getR {α β : Type} {F : α → β → Prop} : ∀ {l : List α} {m : List β} {i : Nat} {b : β}, Paired F l m → m[i]? = some b → ∃ a, l[i]? = some a ∧ F a b
  | _, _, _, _, .nil, e => by simp at e
  | _, _, 0, _, .cons r _, e => by simp at e; subst e; exact ⟨_, rfl, r⟩
  | _, _, i + 1, _, .cons _ t, e => by
    obtain ⟨a, h1, h2⟩ := Paired.getR (i := i) t (by simpa using e)
    exact ⟨a, by simpa using h1, h2⟩
abbrev PV (W : Wd) (f : List Addr) (H : Hp) : List V → List Val → Prop := Paired (RepV W f H)
theorem PV.ext {W : Wd} {A : Addr → Prop} {f f' : List Addr} {os os' : List MO} {H H' : Hp} (x : Ext f os H f' os' H') {us : List V} {vs : List Val} (r : PV W f (hid A f os H) us vs) : PV W f' (hid A f' os' H') us vs := Paired.mp (fun _ _ h => RepV.ext x h) r
/-- an exception -/
def ExcR (W : Wd) (ca : Nat → Option (Addr × Option Str)) (H : Hp) (cls : Value) (dd : Option Addr) (c : Nat) (x : PyData) : Prop := ∃ a k, ca c = some (a, k) ∧ cls = .ref a ∧ match k with
  | none => dd = none
  | some z => ∃ d v, dd = some d ∧ H d = some (.xd [(z, v)]) ∧ W.rp H v x

/-! ### readings -/
structure Wx extends Wd where
  ca : Nat → Option (Addr × Option Str)
  fc : Nat → Option Addr
section
variable (W : Wx) (X : WX) {α β γ δ : Type}
/-- what an evaluation's answer asks -/
def GoO (Rel : List Addr → Hp → α → β → Prop) (A : Addr → Prop) (f : List Addr) (os : List MO) (σ : St) (H : Hp) (Q : α → Hp → Prop) : Out β → Prop
  | .ok b s' => ∀ f' H' a, Ext f os H f' s'.objs H' → R W.toWd A f' s' σ H' → Rel f' (hid A f' s'.objs H') a b → Q a H'
  | .exc c x s' => ∀ f' H' cls dd, Ext f os H f' s'.objs H' → R W.toWd A f' s' σ H' → ExcR W.toWd W.ca (hid A f' s'.objs H') cls dd c x → X cls dd σ H'
  | .bad => False
def tO (Rel : List Addr → Hp → α → β → Prop) (E : MS → Out β) : St → Hp → (α → Hp → Prop) → Prop := fun σ H Q => ∃ A f s, R W.toWd A f s σ H ∧ GoO W X Rel A f s.objs σ H Q (E s)
abbrev RlV : List Addr → Hp → V → Val → Prop := RepV W.toWd
abbrev RlL : List Addr → Hp → List V → List Val → Prop := PV W.toWd
abbrev RlB : List Addr → Hp → Bool → Bool → Prop := fun _ _ a b => a = b
abbrev tE (E : MS → Out Val) : TE := tO W X (RlV W) E
abbrev tT (E : MS → Out Bool) : TT := tO W X RlB E
abbrev tA (E : MS → Out (List Val)) : TA := tO W X (RlL W) E
variable {W} {X}
theorem GoO.rebase {Rel : List Addr → Hp → α → β → Prop} {A : Addr → Prop} {f f1 : List Addr} {os os1 : List MO} {σ : St} {H H1 : Hp} {Q : α → Hp → Prop} {o : Out β} (h : GoO W X Rel A f os σ H Q o) (e : Ext f os H f1 os1 H1) : GoO W X Rel A f1 os1 σ H1 Q o := by
  cases o with
  | ok b s' => exact fun f' H' a x r q => h f' H' a (e.trans x) r q
  | exc c x s' => exact fun f' H' cls dd z r q => h f' H' cls dd (e.trans z) r q
  | bad => exact h
theorem GoO.imp {Rel : List Addr → Hp → α → β → Prop} {A : Addr → Prop} {f : List Addr} {os : List MO} {σ : St} {H : Hp} {Q Q' : α → Hp → Prop} {o : Out β} (h : GoO W X Rel A f os σ H Q o) (k : ∀ a H, Q a H → Q' a H) : GoO W X Rel A f os σ H Q' o := by
  cases o with
  | ok b s' => exact fun f' H' a x r q => k _ _ (h f' H' a x r q)
  | exc c x s' => exact h
  | bad => exact h
/-- what follows an evaluation -/
theorem GoO.of_bind {Rel : List Addr → Hp → α → β → Prop} {Rel' : List Addr → Hp → γ → δ → Prop} {A : Addr → Prop} {f : List Addr} {os : List MO} {σ : St} {H : Hp} {Q : γ → Hp → Prop} {Q1 : α → Hp → Prop} {o : Out β} {k : β → MS → Out δ}
    (h : GoO W X Rel' A f os σ H Q (o.bind k)) (hk : ∀ b s1 f1 H1 a, o = .ok b s1 → Ext f os H f1 s1.objs H1 → R W.toWd A f1 s1 σ H1 → Rel f1 (hid A f1 s1.objs H1) a b → GoO W X Rel' A f1 s1.objs σ H1 Q (k b s1) → Q1 a H1) : GoO W X Rel A f os σ H Q1 o := by
  cases o with
  | ok b s1 => exact fun f1 H1 a e r q => hk b s1 f1 H1 a rfl e r q ((show GoO W X Rel' A f os σ H Q (k b s1) from h).rebase e)
  | exc c x s' => exact h
  | bad => exact h
theorem tO_bad {Rel : List Addr → Hp → α → β → Prop} {σ : St} {H : Hp} {Q : α → Hp → Prop} : ¬ tO W X Rel (fun _ => .bad) σ H Q := fun ⟨_, _, _, _, h⟩ => h
end
theorem PE_imp {X : Cx} {e : Expr} {t t' : TE} (h : PE X e t) (k : ∀ σ H Q, t' σ H Q → t σ H Q) : PE X e t' := ⟨fun pins s σ H Q I q => h.run pins s σ H Q I (k σ H Q q)⟩
theorem PT_imp {X : Cx} {e : Expr} {t t' : TT} (h : PT X e t) (k : ∀ σ H Q, t' σ H Q → t σ H Q) : PT X e t' := ⟨fun pins s σ H Q I q => h.run pins s σ H Q I (k σ H Q q)⟩
theorem PW_imp {X : Cx} {e : Expr} {t t' : TT} (h : PW X e t) (k : ∀ σ H Q, t' σ H Q → t σ H Q) : PW X e t' := ⟨fun wh pins s σ H Q I q => h.run wh pins s σ H Q I (k σ H Q q)⟩
theorem PA_imp {X : Cx} {es : List Expr} {t t' : TA} (h : PA X es t) (k : ∀ σ H Q, t' σ H Q → t σ H Q) : PA X es t' := ⟨fun ps pins s σ H Q I q => h.run ps pins s σ H Q I (k σ H Q q)⟩
theorem PS_imp {X : Cx} {e : Stmt} {t t' : TS} (h : PS X e t) (k : ∀ D σ H, t' D σ H → t D σ H) : PS X e t' := ⟨fun pins s σ H D I q => h.run pins s σ H D I (k D σ H q)⟩
theorem PSs_imp {X : Cx} {e : List Stmt} {t t' : TS} (h : PSs X e t) (k : ∀ D σ H, t' D σ H → t D σ H) : PSs X e t' := ⟨fun pins s σ H D I q => h.run pins s σ H D I (k D σ H q)⟩
theorem PE_false {X : Cx} {e : Expr} {t : TE} (k : ∀ σ H Q, ¬ t σ H Q) : PE X e t := ⟨fun pins s σ H Q I q => (k σ H Q q).elim⟩
end MI

set_option Elab.async false
set_option linter.all false
set_option maxRecDepth 100000
/-! MI: from the row's tree to MI's own. -/
namespace MI
open PySem

/-- what is fixed of a def's text: its names by slot, its scope (or a comprehension's block's), the module's names -/
structure SC where
  N : List Str
  sc : Scope
  fns : List (Str × Nat)
  cons : List (Str × Nat)
  exn : List (Str × Nat × Bool)
  free : List Str
  fnB : Bool
  rep : Bool
  trys : List (Str × PyData × List (Nat × HR))
  nov : List Nat
  lams : List (LamD × Nat)
/-- a def as calls want it: its parameters, how many are positional, by-ref, keyword-only names with their defaults -/
structure Sig where
  ps : List Str
  br : Bool
  gd : Bool
  kwo : List (Str × PyData)
def slotOf (N : List Str) (x : Str) : Option Nat := N.findIdx? (fun y => decide (y = x))
def nameOk (x : Str) : Bool := !(x == ("__debug__" : Str)) && !(x == ("__classdict__" : Str)) && !decide (x = "__name__")
def isVis (sc : Scope) (x : Str) : Bool := match sc.names.lookup x with
  | some .local => true
  | some .cell => true
  | some .free => true
  | _ => false
def isLoc (sc : Scope) (x : Str) : Bool := match sc.names.lookup x with
  | some .local => true
  | some .cell => true
  | _ => false
def isPlain (sc : Scope) (x : Str) : Bool := match sc.names.lookup x with
  | some .local => true
  | _ => false
def isGl (sc : Scope) (x : Str) : Bool := match sc.names.lookup x with
  | some .globalImplicit => true
  | _ => false
def opOf : Operator → Option Op
  | .Add => some .add
  | .Sub => some .sub
  | .Mult => some .mul
  | .FloorDiv => some .fdiv
  | .Mod => some .mod
  | .Pow => some .pow
  | .LShift => some .shl
  | .RShift => some .shr
  | _ => none
def cmpOf : CmpOp → CO
  | .Lt => .lt
  | .LtE => .le
  | .Gt => .gt
  | .GtE => .ge
  | .Eq => .eq
  | .NotEq => .ne
  | .In => .inn
  | .NotIn => .nin
  | .Is => .is
  | .IsNot => .nis
def notStar : Expr → Bool
  | .Starred _ _ => false
  | _ => true
def plainIxB : Expr → Bool
  | .Slice _ _ _ _ => false
  | _ => true
/-- whether an expression's value may just be dropped -/
def noComp : Expr → Bool
  | .ListComp _ _ _ _ => false
  | .SetComp _ _ _ _ => false
  | .DictComp _ _ _ _ _ => false
  | _ => true
def noSet : Expr → Bool
  | .Set _ _ _ => false
  | _ => true
def noCall0 : Expr → Bool
  | .Call (.Name _ _) [] [] _ => false
  | _ => true
def blt1 : List (Str × Blt) := [("len", .len), ("abs", .abs), ("int", .int), ("sum", .sum), ("any", .any), ("all", .all), ("sorted", .sorted), ("tuple", .tuple), ("list", .list), ("repr", .repr), ("min", .minS), ("max", .maxS)]
def blt2 : List (Str × Blt) := [("max", .max2), ("min", .min2)]
def bltOf (x : Str) (n : Nat) : Option Blt := if n = 1 then blt1.lookup x else if n = 2 then blt2.lookup x else none
def tyNames : List (Str × Ty) := [("int", .int), ("bool", .bool), ("str", .str), ("tuple", .tuple), ("list", .list), ("dict", .dict)]
def tyOfName (x : Str) : Option Ty := tyNames.lookup x
def mths : List ((Str × Nat) × Mth) := [(("append", 1), .append), (("pop", 0), .pop), (("pop", 1), .popAt), (("insert", 2), .insert), (("extend", 1), .extend), (("index", 1), .index), (("get", 2), .get), (("setdefault", 2), .setdefault), (("bit_length", 0), .bitlen)]
def mthOf (m : Str) (n : Nat) : Option Mth := (mths.find? fun p => decide (p.1 = (m, n))).map (·.2)
def compL {α β : Type} (F : α → Option β) : List α → Option (List β)
  | [] => some []
  | a :: r => match F a, compL F r with
    | some b, some s => some (b :: s)
    | _, _ => none
/-- a target -/
def compT (c : SC) : Nat → Expr → Option MT
  | 0, _ => none
  | n + 1, e => match e with
    | .Name x _ => if isPlain c.sc x || (c.fnB && isLoc c.sc x) then (slotOf c.N x).map .n else none
    | .Tuple es _ _ => if es.all notStar then (compL (compT c n) es).map .t else none
    | _ => none
def stepOf : Option Expr → Option Int
  | none => some 1
  | some (.Constant (.int i) _ _) => some i
  | some (.UnaryOp .USub (.Constant (.int i) _ _) _) => some (-i)
  | _ => none
def ownOf (c : SC) (scope : Scope) : Option (List (Str × Nat)) := compL (fun (p : Str × NameKind) => (slotOf c.N p.1).map fun i => (p.1, i)) (scope.names.filter fun p => (match p.2 with
  | .local => true
  | .cell => true
  | _ => false) && c.N.contains p.1)
def unlist {α : Type} : List α → Option α
  | [a] => some a
  | _ => none
mutual
def MT.slots : MT → List Nat
  | .n i => [i]
  | .t xs => MT.slotsL xs
def MT.slotsL : List MT → List Nat
  | [] => []
  | x :: xs => MT.slots x ++ MT.slotsL xs
end
mutual
/-- all the slots of a target are among these -/
def MT.slotsB (own : List Nat) : MT → Bool
  | .n i => own.contains i
  | .t xs => MT.slotsBL own xs
def MT.slotsBL (own : List Nat) : List MT → Bool
  | [] => true
  | x :: xs => MT.slotsB own x && MT.slotsBL own xs
end
/-- some walks want a tuple of names -/
def tgFor (k : ItK) (tg : Expr) : Bool := match k with
  | .enum => isTupE tg
  | .zip => isTupE tg
  | .items => isTupE tg
  | _ => true
where isTupE : Expr → Bool
  | .Tuple _ _ _ => true
  | _ => false
section
variable (S : Nat → Option Sig)
/-- what a loop walks -/
def compIt (F : Expr → Option ME) (c : SC) (e : Expr) : Option (ItK × List ME) := match e with
  | .Call (.Name x _) args [] _ =>
    if isGl c.sc x ∧ c.free.contains x ∧ args.all notStar then
      if x = "range" then match args with
        | [a] => (F a).map fun a' => (.rng1, [a'])
        | [a, b] => match F a, F b with
          | some a', some b' => some (.rng2, [a', b'])
          | _, _ => none
        | _ => none
      else if x = "enumerate" then match args with
        | [a] => (F a).map fun a' => (.enum, [a'])
        | _ => none
      else if x = "zip" then match args with
        | [a, b] => match F a, F b with
          | some a', some b' => some (.zip, [a', b'])
          | _, _ => none
        | _ => none
      else (F e).map fun e' => (.seq, [e'])
    else (F e).map fun e' => (.seq, [e'])
  | .Call (.Attribute o m apos) [] [] pos =>
    if (apos.endLine == pos.line) ∧ noCall0 o then
      if m = "items" then (F o).map fun o' => (.items, [o'])
      else if m = "values" then (F o).map fun o' => (.vals, [o'])
      else (F e).map fun e' => (.seq, [e'])
    else none
  | _ => (F e).map fun e' => (.seq, [e'])
def blkSC (c : SC) (scope : Scope) : SC := { c with sc := L2.relS scope c.sc, fnB := false, trys := [], lams := [] }
def lamSC (c : SC) (scope : Scope) : SC := { c with sc := scope, fnB := false, rep := false, trys := [], lams := [] }
def noArgs : Arguments := ⟨[], [], none, [], [], none, []⟩
/-- whether a lambda has no parameters -/
def noParams (p : Arguments) : Bool := match p with
  | ⟨[], [], none, [], [], none, []⟩ => true
  | _ => false
def isStar : ME → Bool
  | .star _ => true
  | _ => false
/-- an item of a display -/
def compStar (F : Expr → Option ME) : Expr → Option ME
  | .Starred e _ => (F e).map .star
  | e => match F e with
    | some m => if isStar m then none else some m
    | none => none
/-- a def that calls what it gets, within a try -/
def tryCall (F : SC → Expr → Option ME) (c : SC) (x : Str) (args : List Expr) : Option ME := match args with
  | [.Lambda ps body scope _] => if isGl c.sc x && noParams ps && LamX.lamSB c.sc scope then match c.trys.lookup x with
      | some (tag, hs) => (F (lamSC c scope) body).map (.tryl 0 hs tag)
      | none => none
    else none
  | _ => none
def kwArgs (F : Expr → Option ME) : List (Str × PyData) → List Keyword → Option (List ME × List PyData)
  | ks, [] => some ([], ks.map (·.2))
  | (k, _) :: ks, ⟨some x, e, _⟩ :: r => if k = x then match F e, kwArgs F ks r with
      | some e', some (es, ds) => some (e' :: es, ds)
      | _, _ => none
    else none
  | _, _ => none
/-- a call of a local name -/
def cvCall (F : Expr → Option ME) (c : SC) (x : Str) (args : List Expr) : Option ME := match args with
  | [] => none
  | a :: r => match slotOf c.N x, compL F (a :: r) with
    | some i, some es => some (.callv i es)
    | _, _ => none
/-- a call of a def that changes its first argument -/
def crCall (F : Expr → Option ME) (c : SC) (g : Nat) (args : List Expr) : Option ME := match args with
  | .Name y _ :: rest => if nameOk y && isVis c.sc y then match slotOf c.N y, compL F rest with
      | some i, some es => some (.callr g i es)
      | _, _ => none
    else none
  | _ => none
def cgCall (F : Expr → Option ME) (g : Nat) (dfl : List PyData) (args : List Expr) : Option ME := (compL F args).map fun es => .call g es dfl
def rngArg (c : SC) (x : Str) (args : List Expr) : Option Expr := match args with
  | [.Call (.Name y _) [a] [] _] => if x = "list" ∧ y = "range" ∧ isGl c.sc y ∧ c.free.contains y ∧ notStar a then some a else none
  | _ => none
def isiCall (F : Expr → Option ME) (c : SC) (args : List Expr) : Option ME := match args with
  | [a, .Name t _] => if isGl c.sc t && c.free.contains t then match F a, tyOfName t with
      | some a', some t' => some (.isi a' t')
      | _, _ => none
    else none
  | _ => none
def gbCall (rep : Bool) (F : Expr → Option ME) (x : Str) (args : List Expr) : Option ME := match args with
  | [] => none
  | a :: r => match bltOf x (a :: r).length, compL F (a :: r) with
    | some b, some es => if rep || !decide (b = .repr) then some (.blt b es) else none
    | _, _ => none
/-- min(o.values()) -/
def minvArg (x : Str) (args : List Expr) : Option Expr := match args with
  | [.Call (.Attribute o m apos) [] [] mpos] => if x = "min" ∧ m = "values" ∧ noCall0 o ∧ (apos.endLine == mpos.line) = true then some o else none
  | _ => none
def bltCall (F : Expr → Option ME) (c : SC) (x : Str) (args : List Expr) : Option ME :=
  if x = "isinstance" then isiCall F c args
  else match minvArg x args with
  | some o => (F o).map .minv
  | none =>
    match rngArg c x args with
    | some a => (F a).map fun a' => .blt .range1 [a']
    | none => gbCall c.rep F x args
def compCall (F : Expr → Option ME) (c : SC) (x : Str) (args : List Expr) : Option ME :=
  if isVis c.sc x then cvCall F c x args
  else if isGl c.sc x then match c.fns.lookup x with
    | some g => match S g with
      | some sg => if (!sg.br || sg.kwo.isEmpty) && (c.rep || !sg.gd) then (if sg.br then crCall F c g args else cgCall F g (sg.kwo.map (·.2)) args) else none
      | none => none
    | none => if c.free.contains x then bltCall F c x args else none
  else none
/-- a call with its one keyword-only parameter named -/
def kwCall (F : Expr → Option ME) (c : SC) (x : Str) (args : List Expr) (kws : List Keyword) : Option ME := match args, kws with
  | a :: r, [⟨some kn, ek, _⟩] => if !isVis c.sc x && isGl c.sc x then match c.fns.lookup x with
      | some g => match S g with
        | some sg => match sg.kwo, compL F (a :: r), F ek with
          | [(k, _)], some es, some e' => if decide (k = kn) && (!sg.br && (c.rep || !sg.gd)) then some (.call g (es ++ [e']) []) else none
          | _, _, _ => none
        | none => none
      | none => none
    else none
  | _, _ => none
def comp : Nat → SC → Expr → Option ME
  | 0, _, _ => none
  | n + 1, c, e => match e with
    | .Constant .none _ _ => some (.con .none)
    | .Constant (.bool b) _ _ => some (.con (.bool b))
    | .Constant (.int i) _ _ => some (.con (.int i))
    | .Constant (.str x) _ _ => some (.con (.str x))
    | .Name x _ => if nameOk x then if isVis c.sc x then (slotOf c.N x).map .slot else if isGl c.sc x then (c.cons.lookup x).map .gc else none else none
    | .Tuple es _ _ => if es.all notStar then (compL (comp n c) es).map .tup else none
    | .List es _ => if es.all notStar then (compL (comp n c) es).map .lst else (compL (compStar (comp n c)) es).map .lstS
    | .Dict [] [] _ => some (.dic [] [])
    | .Dict [some k] [v] _ => match comp n c k, comp n c v with
      | some k', some v' => some (.dic [k'] [v'])
      | _, _ => none
    | .Dict [some k, some k2] [v, v2] _ => match comp n c k, comp n c v, comp n c k2, comp n c v2 with
      | some k', some v', some k2', some v2' => some (.dic [k', k2'] [v', v2'])
      | _, _, _, _ => none
    | .BinOp a o b _ => match opOf o, comp n c a, comp n c b with
      | some o', some a', some b' => some (.bin o' a' b')
      | _, _, _ => none
    | .UnaryOp .USub a _ => (comp n c a).map .neg
    | .UnaryOp .Not a _ => (comp n c a).map .nt
    | .BoolOp .And [a] _ => comp n c a
    | .BoolOp .Or [a] _ => comp n c a
    | .BoolOp .And (a :: b :: r) p => match comp n c a, comp n c (.BoolOp .And (b :: r) p) with
      | some a', some b' => some (.an a' b')
      | _, _ => none
    | .BoolOp .Or (a :: b :: r) p => match comp n c a, comp n c (.BoolOp .Or (b :: r) p) with
      | some a', some b' => some (.orr a' b')
      | _, _ => none
    | .IfExp t a b _ => match comp n c t, comp n c a, comp n c b with
      | some t', some a', some b' => some (.ite t' a' b')
      | _, _, _ => none
    | .Compare a [o] [b] _ => if noSet b then match comp n c a, comp n c b with
        | some a', some b' => some (.cmp (cmpOf o) a' b')
        | _, _ => none
      else none
    | .Compare a [o, o2] [b, d] _ => if noSet b ∧ noSet d then match comp n c a, comp n c b, comp n c d with
        | some a', some b', some d' => some (.chn (cmpOf o) (cmpOf o2) a' b' d')
        | _, _, _ => none
      else none
    | .Subscript a (.Slice lo hi st _) _ => match comp n c a, compO (comp n c) lo, compO (comp n c) hi, stepOf st with
      | some a', some l', some h', some k => some (.sl a' l' h' k)
      | _, _, _, _ => none
    | .Subscript a i _ => if plainIxB i then match comp n c a, comp n c i with
        | some a', some i' => some (.ix a' i')
        | _, _ => none
      else none
    | .ListComp elt [⟨tg, it, ifs, 0⟩] scope _ => if noSet it ∧ ifs.length ≤ 1 then match ownOf c scope with
        | some own => if L2.blkC c.N c.sc scope own then match compIt (comp n c) c it, compT (blkSC c scope) 3 tg, compL (comp n (blkSC c scope)) ifs, comp n (blkSC c scope) elt with
            | some (k, es), some tg', some ifs', some elt' => if tgFor k tg && tg'.slotsB (own.map (·.2)) then some (.lc (own.map (·.2)) tg' k es ifs' elt') else none
            | _, _, _, _ => none
          else none
        | none => none
      else none
    | .ListComp elt [⟨tg, it, ifs, 0⟩, ⟨tg2, it2, ifs2, 0⟩] scope _ => if noSet it && noSet it2 && decide (ifs.length ≤ 1) && decide (ifs2.length ≤ 1) then match ownOf c scope with
        | some own => if L2.blkC c.N c.sc scope own then match compIt (comp n c) c it, compT (blkSC c scope) 3 tg, compL (comp n (blkSC c scope)) ifs, compIt (comp n (blkSC c scope)) (blkSC c scope) it2, compT (blkSC c scope) 3 tg2 with
            | some (k, es), some tg', some ifs', some (k2, es2), some tg2' => match compL (comp n (blkSC c scope)) ifs2, comp n (blkSC c scope) elt with
              | some ifs2', some elt' => if tgFor k tg && tgFor k2 tg2 && tg'.slotsB (own.map (·.2)) && tg2'.slotsB (own.map (·.2)) then some (.lc2 (own.map (·.2)) tg2'.slots tg' k es ifs' tg2' k2 es2 ifs2' elt') else none
              | _, _ => none
            | _, _, _, _, _ => none
          else none
        | none => none
      else none
    | .DictComp ke ve [⟨tg, it, ifs, 0⟩] scope _ => if noSet it && decide (ifs.length ≤ 1) then match ownOf c scope with
        | some own => if L2.blkC c.N c.sc scope own then match compIt (comp n c) c it, compT (blkSC c scope) 3 tg, compL (comp n (blkSC c scope)) ifs, comp n (blkSC c scope) ke, comp n (blkSC c scope) ve with
            | some (k, es), some tg', some ifs', some ke', some ve' => if tgFor k tg && tg'.slotsB (own.map (·.2)) then some (.dc (own.map (·.2)) tg' k es ifs' ke' ve') else none
            | _, _, _, _, _ => none
          else none
        | none => none
      else none
    | .Call (.Name x _) args kws _ => if nameOk x && kws.isEmpty then (if args.all notStar then match tryCall (comp n) c x args with
        | some m => some m
        | none => compCall S (comp n c) c x args
      else none) else (if nameOk x && args.all notStar then kwCall S (comp n c) c x args kws else none)
    | .Call (.Attribute o m apos) args [] pos => if (apos.endLine == pos.line) ∧ noCall0 o ∧ args.all notStar then match mthOf m args.length, comp n c o, compL (comp n c) args with
        | some m', some o', some es => some (.mth m' o' es)
        | _, _, _ => none
      else none
    | _ => none
where compO (F : Expr → Option ME) : Option Expr → Option ME
  | none => some (.con .none)
  | some e => F e
end
section
variable (S : Nat → Option Sig)
/-- whether a value is none of a tuple's display that is stored from the right -/
def sameLine (ts : List Expr) : Bool := match ts with
  | [] => true
  | t :: r => r.all fun u => decide (u.pos.line = t.pos.line)
def plainName (c : SC) : Expr → Option (Str × Nat)
  | .Name x _ => if isPlain c.sc x then (slotOf c.N x).map fun i => (x, i) else none
  | _ => none
/-- a, b = x, y of plain names, stored from the right -/
def parOf (c : SC) (ts es : List Expr) : Option (List (Str × Nat)) :=
  if (ts.length == 2 || ts.length == 3) && decide (es.length = ts.length) && es.all notStar && sameLine ts && !es.all (foldedForSure 8) && !es.all (constantsAlone 8) then match compL (plainName c) ts with
    | some ps => if decide (ps.map (·.2)).Nodup then some ps else none
    | none => none
  else none
/-- no swap -/
def noPar (ts es : List Expr) (c : SC) : Bool := !(ts.length == 2 || ts.length == 3) || decide (es.length ≠ ts.length) || es.all (foldedForSure 8) || ts.any fun
  | .Name x _ => !isPlain c.sc x
  | _ => true
def isTupD1 : Expr → Bool
  | .Tuple _ _ _ => true
  | _ => false
def plainAsg (c : SC) (tg e : Expr) : Bool := match tg, e with
  | .Tuple ts _ _, .Tuple es _ _ => noPar ts es c && es.all notStar
  | .Tuple _ _ _, _ => true
  | .Name _ _, _ => true
  | _, _ => false
/-- a comprehension stored into a plain name of its own line -/
def swapsB (c : SC) (tg e : Expr) : Bool := match tg, e with
  | .Name t p, .ListComp _ _ s p2 => isPlain c.sc t && (p.line == p2.line) && !(s.names.any fun (n, k) => n == t && (k == .local || k == .cell))
  | .Name t p, .DictComp _ _ _ s p2 => isPlain c.sc t && (p.line == p2.line) && !(s.names.any fun (n, k) => n == t && (k == .local || k == .cell))
  | .Name t p, .SetComp _ _ s p2 => isPlain c.sc t && (p.line == p2.line) && !(s.names.any fun (n, k) => n == t && (k == .local || k == .cell))
  | _, _ => false
def isLc : Expr → Bool
  | .ListComp _ _ _ _ => true
  | .DictComp _ _ _ _ _ => true
  | .SetComp _ _ _ _ => true
  | _ => false
def isLc1 : Expr → Bool
  | .ListComp _ _ _ _ => true
  | _ => false
/-- alike parameters, plain ones -/
def eqL {α β : Type} (f : α → β → Bool) : List α → List β → Bool
  | [], [] => true
  | a :: as, b :: bs => f a b && eqL f as bs
  | _, _ => false
def eqA (a b : Arg) : Bool := decide (a.arg = b.arg) && (decide (a.pos = b.pos) && (a.annotation.isNone && b.annotation.isNone))
def eqAs (x y : Arguments) : Bool := (x.posonlyargs.isEmpty && y.posonlyargs.isEmpty) && ((x.vararg.isNone && y.vararg.isNone) && ((x.kwonlyargs.isEmpty && y.kwonlyargs.isEmpty) && ((x.kw_defaults.isEmpty && y.kw_defaults.isEmpty) && ((x.kwarg.isNone && y.kwarg.isNone) && ((x.defaults.isEmpty && y.defaults.isEmpty) && eqL eqA x.args y.args)))))
/-- alike trees, of names, constants and plain calls -/
def eqE : Nat → Expr → Expr → Bool
  | 0, _, _ => false
  | n + 1, a, b => match a, b with
    | .Name x p, .Name y q => decide (x = y) && decide (p = q)
    | .Constant u k p, .Constant v j q => decide (u = v) && (decide (k = j) && decide (p = q))
    | .Call f as [] p, .Call g bs [] q => eqE n f g && (eqL (eqE n) as bs && decide (p = q))
    | _, _ => false
def fnOf (c : SC) : Expr → Option Nat
  | .Name x _ => if nameOk x && isGl c.sc x then (match c.fns.lookup x with
      | some g => if c.nov.contains g then none else some g
      | none => none) else none
  | .Lambda params body scope _ => (c.lams.find? fun d => eqAs d.1.params params && eqE 5 d.1.body body && decide (d.1.scope = scope)).map (·.2)
  | _ => none
def compAsg (F : Expr → Option ME) (c : SC) (tg e : Expr) : Option MSt := match tg with
  | .Subscript o i _ => if plainIxB i then match F o, F i, F e with
      | some o', some i', some e' => some (.sti o' i' e')
      | _, _, _ => none
    else none
  | _ => if plainAsg c tg e && notStar tg && (!swapsB c tg e || isLc1 e) then match compT c 4 tg, F e with
      | some t, some e' => some (.asg t e')
      | _, _ => none
    else none
def isDisp : Expr → Bool
  | .List _ _ => true
  | .Dict _ _ _ => true
  | _ => false
def locOk (c : SC) (x : Str) : Bool := isPlain c.sc x || (c.fnB && isLoc c.sc x)
/-- a, b = [..], {..} of names that are no plain ones: by a tuple -/
def tupOf (c : SC) (ts es : List Expr) : Option (List Nat) := match ts, es with
  | [.Name x _, .Name y _], [a, b] => if locOk c x && locOk c y && (notStar a && notStar b) && noPar ts es c && (isDisp a || isDisp b) then match slotOf c.N x, slotOf c.N y with
      | some i, some j => some [i, j]
      | _, _ => none
    else none
  | _, _ => none
def compPar (F : Expr → Option ME) (c : SC) (ts es : List Expr) : Option MSt := match parOf c ts es with
  | some ps => (compL F es).map fun ms => .par (ps.map (·.2)) ms
  | none => match tupOf c ts es with
    | some is => (compL F es).map fun ms => .par is ms
    | none => none
def compRaise (F : Expr → Option ME) (c : SC) (x : Str) (a : Expr) : Option MSt := if isGl c.sc x then match c.exn.lookup x with
    | some (k, false) => match a with
      | .Constant (.str _) _ _ => some (.rse k (.con .none))
      | _ => none
    | some (k, true) => if notStar a then (F a).map fun a' => .rse k a' else none
    | none => none
  else none
def compFor (F : Expr → Option ME) (B : List Stmt → Option (List MSt)) (c : SC) (tg it : Expr) (b : List Stmt) : Option MSt :=
  match compIt F c it, compT c 4 tg, B b with
  | some (k, es), some t, some b' => if tgFor k tg && noSet it then some (.fr t k es b') else none
  | _, _, _ => none
def compForf (B : List Stmt → Option (List MSt)) (c : SC) (tg : Expr) (es : List Expr) (b : List Stmt) : Option MSt := match tg with
  | .Name x _ => if (isPlain c.sc x || (c.fnB && isLoc c.sc x)) && decide (es.length ≤ 1000) then match slotOf c.N x, compL (fnOf c) es, B b with
      | some i, some gs, some b' => some (.forf i gs b')
      | _, _, _ => none
    else none
  | _ => none
def orBad (F : Stmt → Option MSt) (st : Stmt) : Option MSt := match F st with
  | some m => some m
  | none => some .bad
def compS (n : Nat) : Nat → SC → Stmt → Option MSt
  | 0, _, _ => none
  | l + 1, c, st => match st with
    | .Expr (.Constant (.str _) _ _) _ => some .pss
    | .Expr e _ => if noComp e then (comp S n c e).map .ex else none
    | .Return none _ => some (.ret (.con .none))
    | .Return (some e) _ => (comp S n c e).map .ret
    | .Pass _ => some .pss
    | .Break _ => some .brk
    | .Continue _ => some .cnt
    | .If t a b _ => match comp S n c t, compL (orBad (compS n l c)) a, compL (orBad (compS n l c)) b with
      | some t', some a', some b' => some (.iff t' a' b')
      | _, _, _ => none
    | .While t b [] _ => match comp S n c t, compL (orBad (compS n l c)) b with
      | some t', some b' => some (.whl t' b')
      | _, _ => none
    | .For tg (.Tuple es k p) b [] _ => match compForf (compL (orBad (compS n l c))) c tg es b with
      | some m => some m
      | none => compFor (comp S n c) (compL (orBad (compS n l c))) c tg (.Tuple es k p) b
    | .For tg it b [] _ => compFor (comp S n c) (compL (orBad (compS n l c))) c tg it b
    | .Assign [.Tuple ts k1 p1] (.Tuple es k2 p2) _ => match compPar (comp S n c) c ts es with
      | some m => some m
      | none => compAsg (comp S n c) c (.Tuple ts k1 p1) (.Tuple es k2 p2)
    | .Assign [tg] e _ => compAsg (comp S n c) c tg e
    | .Assign [t1, t2] e _ => match plainName c t1, plainName c t2, comp S n c e with
      | some (_, i), some (_, j), some e' => if noComp e then some (.asg2 i j e') else none
      | _, _, _ => none
    | .AugAssign (.Name x _) op e _ => if isPlain c.sc x || (c.fnB && isLoc c.sc x) then match opOf op, slotOf c.N x, comp S n c e with
        | some o, some i, some e' => if o = .pow then none else some (.aug i o e')
        | _, _, _ => none
      else none
    | .AugAssign (.Subscript o i _) op e _ => if plainIxB i then match opOf op, comp S n c o, comp S n c i, comp S n c e with
        | some oo, some o', some i', some e' => if oo = .pow then none else some (.augi o' i' oo e')
        | _, _, _, _ => none
      else none
    | .Raise (some (.Call (.Name x _) [a] [] _)) none _ => if nameOk x then compRaise (comp S n c) c x a else none
    | _ => none
end
mutual
def MSt.fine : MSt → Bool
  | .bad => false
  | .iff _ a b => MSt.fineL a && MSt.fineL b
  | .whl _ b => MSt.fineL b
  | .fr _ _ _ b => MSt.fineL b
  | .forf _ _ b => MSt.fineL b
  | _ => true
def MSt.fineL : List MSt → Bool
  | [] => true
  | m :: ms => MSt.fine m && MSt.fineL ms
end
def noBad (o : Option (List MSt)) : Bool := match o with
  | some ms => MSt.fineL ms
  | none => false
end MI

set_option Elab.async false
set_option linter.all false
set_option maxRecDepth 100000
set_option maxHeartbeats 1000000
/-! MI: soundness, the forms of expressions over rules by values. -/
namespace MI
open PySem PySem.Spec L2
open PyProof.Rows hiding St

abbrev FaT := Nat → Option Addr
abbrev CaT := Nat → Option (Addr × Option Str)
/-- the module's facts that MI asks: where defs and classes stand, the tables of code objects -/
structure Fx where
  fa : FaT
  ca : CaT
  T : List (Addr × Str)
  fc : Nat → Option Addr
  la : Nat → Option LamD
abbrev wx (X : Cx) (Φ : Fx) : Wx := ⟨⟨X.prog, X.w, X.K, Φ.fa, Φ.T, Φ.la⟩, Φ.ca, Φ.fc⟩
section
variable {X : Cx} {Φ : Fx} {Z : L2.WX} {pos : Pos}

/-! ### small facts -/
theorem takes0' {X : Cx} : Takes X (fun _ _ _ _ => False) := fun _ _ x => by
  obtain ⟨_, _, _, _, _, _, _, _, _, _, _, _, _, _, _, _, z⟩ := x
  exact z.elim
theorem slotOf_get {N : List Str} {x : Str} {i : Nat} (h : slotOf N x = some i) : N[i]? = some x := by
  unfold slotOf at h
  obtain ⟨h1, h2, _⟩ := List.findIdx?_eq_some_iff_getElem.mp h
  rw [List.getElem?_eq_getElem h1]
  exact congrArg some (of_decide_eq_true h2)
theorem starEach_cons {e : Expr} {es : List Expr} {env : Env} (h : notStar e = true) : starEach (e :: es) env = (false, eval e env) :: starEach es env := by
  cases e <;> first | rfl | cases h
theorem starEach_plain {env : Env} {pos : Pos} : ∀ {es : List Expr}, es.all notStar = true → (backTo pos (starEach es env)).any (·.1) = false
  | [], _ => rfl
  | e :: es, h => by
    rw [List.all_cons, Bool.and_eq_true] at h
    rw [starEach_cons h.1]
    have ih := starEach_plain (env := env) (pos := pos) h.2
    unfold backTo at ih ⊢
    simpa using ih
theorem starEach_all {env : Env} {pos : Pos} : ∀ {es : List Expr}, es.all notStar = true → ((backTo pos (starEach es env)).all fun x => !x.1) = true
  | [], _ => rfl
  | e :: es, h => by
    rw [List.all_cons, Bool.and_eq_true] at h
    rw [starEach_cons h.1]
    have ih := starEach_all (env := env) (pos := pos) h.2
    unfold backTo at ih ⊢
    simpa using ih
theorem nameOk_ok {x : Str} (h : nameOk x = true) : (x == ("__debug__" : Str)) = false ∧ (x == ("__classdict__" : Str)) = false ∧ x ≠ "__name__" := by
  unfold nameOk at h
  simp only [Bool.and_eq_true, Bool.not_eq_true', decide_eq_false_iff_not] at h
  exact ⟨h.1.1, h.1.2, h.2⟩
theorem isVis_ok {sc : Scope} {x : Str} (h : isVis sc x = true) : Vis sc x := by
  unfold isVis at h
  unfold Vis
  split at h
  · rename_i q; exact .inl q
  · rename_i q; exact .inr (.inl q)
  · rename_i q; exact .inr (.inr q)
  · cases h
theorem isLoc_ok {sc : Scope} {x : Str} (h : isLoc sc x = true) : L2.Loc sc x := by
  unfold isLoc at h
  unfold L2.Loc
  split at h
  · rename_i q; exact .inl q
  · rename_i q; exact .inr q
  · cases h
theorem isGl_ok {sc : Scope} {x : Str} (h : isGl sc x = true) : sc.names.lookup x = some .globalImplicit := by
  unfold isGl at h
  split at h
  · assumption
  · cases h
theorem noSet_ok {b : Expr} {op : CmpOp} (h : noSet b = true) : behindInMarks op b = false := by
  cases b <;> first | rfl | cases h
theorem plainIx_ok {b : Expr} (h : plainIxB b = true) : PlainIx b := by
  intro o i
  cases b <;> first | rfl | cases h
theorem attrBase_ok {o : Expr} {f : Str} {env : Env} (h : noCall0 o = true) : attributeBase o f env (eval o env) = eval o env := by
  unfold attributeBase
  split
  · cases h
  · rfl

/-! ### what a reading of data knows -/
theorem rep_bool {A : Addr → Prop} {f : List Addr} {os : List MO} {H H' : Hp} {x : V} {v : Val} {b : Bool} (r : RepV (wx X Φ).toWd f H x v) (h : boolV v = some b) : x = .bl b := by
  cases v with
  | d d =>
    cases d with
    | bool c =>
      cases h
      cases r
      rfl
    | _ => cases h
  | ref n => cases h
  | fn g => cases h

/-! ### forms -/
theorem e_con {e : Expr} {v : V} {d : PyData} (hp : PE X e (tC v)) (hr : ∀ H, Rp X.prog X.w X.K H v d) : PE X e (tE (wx X Φ) Z fun s => .ok (.d d) s) := by
  refine PE_imp hp fun σ H Q h => ?_
  obtain ⟨A, f, s, r, h⟩ := h
  exact h f H v (Ext.refl _ _ _) r (hr _)
theorem e_slot {x : Str} {i : Nat} (hN : X.N[i]? = some x) (hv : Vis X.env.scope x) (hd : (x == ("__debug__" : Str)) = false) (hcd : (x == ("__classdict__" : Str)) = false) :
    PE X (.Name x pos) (tE (wx X Φ) Z fun s => match s.env[i]? with
      | some (some v) => .ok v s
      | _ => .bad) := by
  refine PE_imp (pe_var hN hv hd hcd) fun σ H Q h => ?_
  obtain ⟨A, f, s, r, h⟩ := h
  have key : ∀ v, s.env[i]? = some (some v) → tVar i σ H Q := fun v e => by
    obtain ⟨u, e1, r1⟩ := r.env i v e
    have h' := h
    simp only [e] at h'
    exact ⟨u, e1, h' f H u (Ext.refl _ _ _) r r1⟩
  cases e : s.env[i]? with
  | none => simp only [e] at h; exact h.elim
  | some o =>
    cases o with
    | none => simp only [e] at h; exact h.elim
    | some v => exact key v e
theorem e_list {t : TA} {es : List Expr} {E : MS → Out (List Val)} (hp : PA X es (tA (wx X Φ) Z E)) : PA X es (tA (wx X Φ) Z E) := hp
theorem a_nil : PA X [] (tA (wx X Φ) Z fun s => .ok [] s) := by
  refine PA_imp pa_nil fun σ H Q h => ?_
  obtain ⟨A, f, s, r, h⟩ := h
  exact h f H [] (Ext.refl _ _ _) r .nil
theorem a_cons {e : Expr} {es : List Expr} {E : MS → Out Val} {F : MS → Out (List Val)} (hs : notStar e = true) (h1 : PE X e (tE (wx X Φ) Z E)) (h2 : PA X es (tA (wx X Φ) Z F)) :
    PA X (e :: es) (tA (wx X Φ) Z fun s => (E s).bind fun v s1 => (F s1).bind fun vs s2 => .ok (v :: vs) s2) := by
  refine PA_imp (pa_cons h1 h2 (starEach_cons hs)) fun σ H Q h => ?_
  obtain ⟨A, f, s, r, h⟩ := h
  refine ⟨A, f, s, r, h.of_bind fun v s1 f1 H1 x e1 eX R1 rv h1 => ⟨A, f1, s1, R1, h1.of_bind fun vs s2 f2 H2 xs e2 eY R2 rs h2 => ?_⟩⟩
  exact h2 f2 H2 (x :: xs) (Ext.refl _ _ _) R2 (.cons (rv.ext eY) rs)
/-- a two-place operation by values -/
def rV2 (X : Cx) (Φ : Fx) (Z : L2.WX) (F : Val → Val → MS → Out Val) : R2 := fun x y H Q => ∃ σ A f s v w, R (wx X Φ).toWd A f s σ H ∧ RepV (wx X Φ).toWd f (hid A f s.objs H) x v ∧ RepV (wx X Φ).toWd f (hid A f s.objs H) y w ∧
  GoO (wx X Φ) Z (RlV (wx X Φ)) A f s.objs σ H Q (F v w s)
def rV1 (X : Cx) (Φ : Fx) (Z : L2.WX) (F : Val → MS → Out Val) : V → Hp → VK → Prop := fun x H Q => ∃ σ A f s v, R (wx X Φ).toWd A f s σ H ∧ RepV (wx X Φ).toWd f (hid A f s.objs H) x v ∧
  GoO (wx X Φ) Z (RlV (wx X Φ)) A f s.objs σ H Q (F v s)
def rVn (X : Cx) (Φ : Fx) (Z : L2.WX) (F : List Val → MS → Out Val) : List V → Hp → VK → Prop := fun xs H Q => ∃ σ A f s vs, R (wx X Φ).toWd A f s σ H ∧ PV (wx X Φ).toWd f (hid A f s.objs H) xs vs ∧
  GoO (wx X Φ) Z (RlV (wx X Φ)) A f s.objs σ H Q (F vs s)
def rVm (X : Cx) (Φ : Fx) (Z : L2.WX) (F : Val → List Val → MS → Out Val) : V → List V → Hp → VK → Prop := fun x xs H Q => ∃ σ A f s v vs, R (wx X Φ).toWd A f s σ H ∧ RepV (wx X Φ).toWd f (hid A f s.objs H) x v ∧
  PV (wx X Φ).toWd f (hid A f s.objs H) xs vs ∧ GoO (wx X Φ) Z (RlV (wx X Φ)) A f s.objs σ H Q (F v vs s)
/-- two evaluations in a row -/
theorem t2_of {E F : MS → Out Val} {G : Val → Val → MS → Out Val} {σ : St} {H : Hp} {Q : VK} (h : tE (wx X Φ) Z (fun s => (E s).bind fun v s1 => (F s1).bind fun w s2 => G v w s2) σ H Q) :
    tOp (rV2 X Φ Z G) (tE (wx X Φ) Z E) (tE (wx X Φ) Z F) σ H Q := by
  obtain ⟨A, f, s, r, h⟩ := h
  exact ⟨A, f, s, r, h.of_bind fun v s1 f1 H1 x e1 eX R1 rv h1 => ⟨A, f1, s1, R1, h1.of_bind fun w s2 f2 H2 y e2 eY R2 rw h2 => ⟨σ, A, f2, s2, v, w, R2, rv.ext eY, rw, h2⟩⟩⟩
theorem e_bin {op : Operator} {a b : Expr} {E F : MS → Out Val} {G : Val → Val → MS → Out Val} (ho : OpR X (binaryOp op) (rV2 X Φ Z G)) (ha : PE X a (tE (wx X Φ) Z E)) (hb : PE X b (tE (wx X Φ) Z F)) :
    PE X (.BinOp a op b pos) (tE (wx X Φ) Z fun s => (E s).bind fun v s1 => (F s1).bind fun w s2 => G v w s2) := PE_imp (pe_op ho ha hb) fun _ _ _ h => t2_of h
theorem e_un {op : UnaryOp} {a : Expr} {E : MS → Out Val} {G : Val → MS → Out Val} (ho : UnR X (unaryOp op) (rV1 X Φ Z G)) (ha : PE X a (tE (wx X Φ) Z E)) :
    PE X (.UnaryOp op a pos) (tE (wx X Φ) Z fun s => (E s).bind fun v s1 => G v s1) := by
  refine PE_imp (pe_un ho ha) fun σ H Q h => ?_
  obtain ⟨A, f, s, r, h⟩ := h
  exact ⟨A, f, s, r, h.of_bind fun v s1 f1 H1 x e1 eX R1 rv h1 => ⟨σ, A, f1, s1, v, R1, rv, h1⟩⟩
theorem e_ix {a i : Expr} {E F : MS → Out Val} {G : Val → Val → MS → Out Val} (hr : IxR X (rV2 X Φ Z G)) (hs : PlainIx i) (ha : PE X a (tE (wx X Φ) Z E)) (hb : PE X i (tE (wx X Φ) Z F)) :
    PE X (.Subscript a i pos) (tE (wx X Φ) Z fun s => (E s).bind fun v s1 => (F s1).bind fun w s2 => G v w s2) := PE_imp (pe_ix hr ha hb hs) fun _ _ _ h => t2_of h
/-- a comparison -/
theorem e_cmp {op : CmpOp} {a b : Expr} {E F : MS → Out Val} {G : Val → Val → MS → Out Val} (ho : OpR X (compareOp op) (rV2 X Φ Z G)) (hm : behindInMarks op b = false) (ha : PE X a (tE (wx X Φ) Z E)) (hb : PE X b (tE (wx X Φ) Z F)) :
    PE X (.Compare a [op] [b] pos) (tE (wx X Φ) Z fun s => (E s).bind fun v s1 => (F s1).bind fun w s2 => G v w s2) := PE_imp (pe_cmpR ho ha hb hm) fun _ _ _ h => t2_of h
/-- tests from values -/
theorem tT_of_tE {E : MS → Out Val} {σ : St} {H : Hp} {Q : Bool → Hp → Prop} (h : tT (wx X Φ) Z (fun s => (E s).bind fun v s1 => match boolV v with
    | some b => .ok b s1
    | none => .bad) σ H Q) : tE (wx X Φ) Z E σ H fun x H1 => ∃ k, x = .bl k ∧ Q k H1 := by
  obtain ⟨A, f, s, r, h⟩ := h
  refine ⟨A, f, s, r, h.of_bind fun v s1 f1 H1 x e1 eX R1 rv h1 => ?_⟩
  cases e : boolV v with
  | none =>
    rw [e] at h1
    exact h1.elim
  | some b =>
    rw [e] at h1
    exact ⟨b, rep_bool (A := A) (f := f1) (os := s1.objs) (H' := H1) rv e, h1 f1 H1 b (Ext.refl _ _ _) R1 rfl⟩
theorem tT_tst {E : ME → MS → Out Val} {m : ME} {σ : St} {H : Hp} {Q : Bool → Hp → Prop} (h : tT (wx X Φ) Z (tst E m) σ H Q) : tE (wx X Φ) Z (E m) σ H fun x H1 => ∃ k, x = .bl k ∧ Q k H1 := tT_of_tE h
theorem p_val {e : Expr} {E : ME → MS → Out Val} {m : ME} (hp : PE X e (tE (wx X Φ) Z (E m))) (he : ∀ whole, isTrue e X.env whole = (do let v ← whole; standAt e.pos; holding [v] (truthy v)) := by intro _; rfl) :
    PT X e (tT (wx X Φ) Z (tst E m)) := PT_imp (pt_val hp he) fun _ _ _ h => tT_of_tE h
theorem p_cmp {op : CmpOp} {a b : Expr} {E F : MS → Out Val} {G : Val → Val → MS → Out Val} (ho : OpR X (compareOp op) (rV2 X Φ Z G)) (hm : behindInMarks op b = false) (ha : PE X a (tE (wx X Φ) Z E)) (hb : PE X b (tE (wx X Φ) Z F)) :
    PT X (.Compare a [op] [b] pos) (tT (wx X Φ) Z fun s => ((E s).bind fun v s1 => (F s1).bind fun w s2 => G v w s2).bind fun v s1 => match boolV v with
      | some b => .ok b s1
      | none => .bad) := PT_imp (pt_cmpR ho ha hb hm) fun _ _ _ h => t2_of (tT_of_tE h)
/-- not, and, or, if -/
def bT (o : Out Val) : Out Bool := o.bind fun v s1 => match boolV v with
  | some b => .ok b s1
  | none => .bad
theorem tst_eq (E : ME → MS → Out Val) (m : ME) (s : MS) : tst E m s = bT (E m s) := rfl
theorem p_not {a : Expr} {T : MS → Out Bool} (ha : PT X a (tT (wx X Φ) Z T)) : PT X (.UnaryOp .Not a pos) (tT (wx X Φ) Z fun s => bT ((T s).bind fun b s1 => .ok (.d (.bool (!b))) s1)) := by
  refine PT_imp (pt_not ha) fun σ H Q h => ?_
  obtain ⟨A, f, s, r, h⟩ := h
  refine ⟨A, f, s, r, ?_⟩
  dsimp only at h
  cases e : T s with
  | bad => rw [e] at h; exact h
  | exc c x s1 => rw [e] at h; exact h
  | ok b s1 =>
    rw [e] at h
    intro f1 H1 a' eX R1 ra
    cases ra
    exact h f1 H1 _ eX R1 rfl
/-- what a test told, as a value -/
theorem tE_of_tst {E : ME → MS → Out Val} {m : ME} {k : Bool → MS → Out Val} {σ : St} {H : Hp} {Q : VK} (h : tE (wx X Φ) Z (fun s => (tst E m s).bind k) σ H Q) :
    tE (wx X Φ) Z (E m) σ H fun x H1 => ∃ c, x = .bl c ∧ ∃ A f s, R (wx X Φ).toWd A f s σ H1 ∧ GoO (wx X Φ) Z (RlV (wx X Φ)) A f s.objs σ H1 Q (k c s) := by
  obtain ⟨A, f, s, r, h⟩ := h
  refine ⟨A, f, s, r, ?_⟩
  dsimp only at h
  unfold tst at h
  cases e : E m s with
  | bad => rw [e] at h; exact h
  | exc c x s1 => rw [e] at h; exact h
  | ok v s1 =>
    rw [e] at h
    intro f1 H1 x eX R1 rv
    cases e2 : boolV v with
    | none =>
      simp only [Out.bind, e2] at h
      exact h.elim
    | some b =>
      simp only [Out.bind, e2] at h
      exact ⟨b, rep_bool (A := A) (f := f1) (os := s1.objs) (H' := H1) rv e2, A, f1, s1, R1, GoO.rebase h eX⟩
theorem e_not {a : Expr} {E : ME → MS → Out Val} {m : ME} (ha : PE X a (tE (wx X Φ) Z (E m))) : PE X (.UnaryOp .Not a pos) (tE (wx X Φ) Z fun s => (tst E m s).bind fun b s1 => .ok (.d (.bool (!b))) s1) := by
  refine PE_imp (pe_not ha) fun σ H Q h => ?_
  obtain ⟨A, f, s, r, h⟩ := tE_of_tst h
  exact ⟨A, f, s, r, h.imp fun x H1 ⟨c, e, A', f', s', r', g⟩ => ⟨c, e, g f' H1 (.bl (!c)) (Ext.refl _ _ _) r' (.bl _)⟩⟩
theorem PW_of {op : BoolOp} {es : List Expr} {t : TT} (h : PT X (.BoolOp op es pos) t) : PW X (.BoolOp op es pos) t := ⟨fun _ pins s σ H Q I q => h.run pins s σ H Q I q⟩
def anF (E : ME → MS → Out Val) (a b : ME) (s : MS) : Out Val := (tst E a s).bind fun c s1 => if c then (tst E b s1).bind fun c' s2 => .ok (.d (.bool c')) s2 else .ok (.d (.bool false)) s1
def orF (E : ME → MS → Out Val) (a b : ME) (s : MS) : Out Val := (tst E a s).bind fun c s1 => if c then .ok (.d (.bool true)) s1 else (tst E b s1).bind fun c' s2 => .ok (.d (.bool c')) s2
theorem e_and {a b : Expr} {rest : List Expr} {E : ME → MS → Out Val} {m m' : ME} (ha : PE X a (tE (wx X Φ) Z (E m))) (hb : PE X (.BoolOp .And (b :: rest) pos) (tE (wx X Φ) Z (E m'))) :
    PE X (.BoolOp .And (a :: b :: rest) pos) (tE (wx X Φ) Z (anF E m m')) := by
  refine PE_imp (pe_and ha hb) fun σ H Q h => ?_
  obtain ⟨A, f, s, r, h⟩ := tE_of_tst h
  refine ⟨A, f, s, r, h.imp fun x H1 ⟨c, e, A', f', s', r', g⟩ => ⟨c, e, ?_⟩⟩
  cases c with
  | false => exact g f' H1 (.bl false) (Ext.refl _ _ _) r' (.bl _)
  | true =>
    rw [if_pos rfl]
    obtain ⟨A2, f2, s2, r2, h2⟩ := tE_of_tst (σ := σ) (H := H1) (Q := Q) (X := X) (Φ := Φ) (Z := Z) (E := E) (m := m') (k := fun c' s2 => .ok (.d (.bool c')) s2) ⟨A', f', s', r', g⟩
    exact ⟨A2, f2, s2, r2, h2.imp fun x H3 ⟨c, e, A', f', s', r', g⟩ => by
      subst e
      exact g f' H3 (.bl c) (Ext.refl _ _ _) r' (.bl _)⟩
theorem e_or {a b : Expr} {rest : List Expr} {E : ME → MS → Out Val} {m m' : ME} (ha : PE X a (tE (wx X Φ) Z (E m))) (hb : PE X (.BoolOp .Or (b :: rest) pos) (tE (wx X Φ) Z (E m'))) :
    PE X (.BoolOp .Or (a :: b :: rest) pos) (tE (wx X Φ) Z (orF E m m')) := by
  refine PE_imp (pe_or ha hb) fun σ H Q h => ?_
  obtain ⟨A, f, s, r, h⟩ := tE_of_tst h
  refine ⟨A, f, s, r, h.imp fun x H1 ⟨c, e, A', f', s', r', g⟩ => ⟨c, e, ?_⟩⟩
  cases c with
  | true => exact g f' H1 (.bl true) (Ext.refl _ _ _) r' (.bl _)
  | false =>
    rw [if_neg Bool.false_ne_true]
    obtain ⟨A2, f2, s2, r2, h2⟩ := tE_of_tst (σ := σ) (H := H1) (Q := Q) (X := X) (Φ := Φ) (Z := Z) (E := E) (m := m') (k := fun c' s2 => .ok (.d (.bool c')) s2) ⟨A', f', s', r', g⟩
    exact ⟨A2, f2, s2, r2, h2.imp fun x H3 ⟨c, e, A', f', s', r', g⟩ => by
      subst e
      exact g f' H3 (.bl c) (Ext.refl _ _ _) r' (.bl _)⟩
/-- a test's answer, then a test -/
theorem tT_of_tst {E : ME → MS → Out Val} {m : ME} {k : Bool → MS → Out Bool} {σ : St} {H : Hp} {Q : Bool → Hp → Prop} (h : tT (wx X Φ) Z (fun s => (tst E m s).bind k) σ H Q) :
    tT (wx X Φ) Z (tst E m) σ H fun c H1 => ∃ A f s, R (wx X Φ).toWd A f s σ H1 ∧ GoO (wx X Φ) Z RlB A f s.objs σ H1 Q (k c s) := by
  obtain ⟨A, f, s, r, h⟩ := h
  exact ⟨A, f, s, r, h.of_bind fun b s1 f1 H1 x e1 eX R1 rv h1 => by cases rv; exact ⟨A, f1, s1, R1, h1⟩⟩
theorem bT_an (E : ME → MS → Out Val) (a b : ME) (s : MS) : bT (anF E a b s) = (tst E a s).bind fun c s1 => if c then tst E b s1 else .ok false s1 := by
  unfold anF
  cases e : tst E a s with
  | bad => rfl
  | exc c x s1 => rfl
  | ok c s1 =>
    cases c with
    | false => rfl
    | true =>
      show bT ((tst E b s1).bind fun c' s2 => .ok (.d (.bool c')) s2) = tst E b s1
      cases tst E b s1 <;> rfl
theorem bT_or (E : ME → MS → Out Val) (a b : ME) (s : MS) : bT (orF E a b s) = (tst E a s).bind fun c s1 => if c then .ok true s1 else tst E b s1 := by
  unfold orF
  cases e : tst E a s with
  | bad => rfl
  | exc c x s1 => rfl
  | ok c s1 =>
    cases c with
    | true => rfl
    | false =>
      show bT ((tst E b s1).bind fun c' s2 => .ok (.d (.bool c')) s2) = tst E b s1
      cases tst E b s1 <;> rfl
theorem p_and {a b : Expr} {rest : List Expr} {E : ME → MS → Out Val} {m m' : ME} (ha : PT X a (tT (wx X Φ) Z (tst E m))) (hb : PT X (.BoolOp .And (b :: rest) pos) (tT (wx X Φ) Z (tst E m'))) :
    PT X (.BoolOp .And (a :: b :: rest) pos) (tT (wx X Φ) Z fun s => bT (anF E m m' s)) := by
  refine PT_imp (pw_and ha (PW_of hb)).pt fun σ H Q h => ?_
  have h' : tT (wx X Φ) Z (fun s => (tst E m s).bind fun c s1 => if c then tst E m' s1 else .ok false s1) σ H Q := by
    obtain ⟨A, f, s, r, h⟩ := h
    dsimp only at h
    rw [bT_an] at h
    exact ⟨A, f, s, r, h⟩
  obtain ⟨A, f, s, r, h⟩ := tT_of_tst h'
  refine ⟨A, f, s, r, h.imp fun c H1 ⟨A', f', s', r', g⟩ => ?_⟩
  cases c with
  | false => exact g f' H1 false (Ext.refl _ _ _) r' rfl
  | true => exact ⟨A', f', s', r', g⟩
theorem p_or {a b : Expr} {rest : List Expr} {E : ME → MS → Out Val} {m m' : ME} (ha : PT X a (tT (wx X Φ) Z (tst E m))) (hb : PT X (.BoolOp .Or (b :: rest) pos) (tT (wx X Φ) Z (tst E m'))) :
    PT X (.BoolOp .Or (a :: b :: rest) pos) (tT (wx X Φ) Z fun s => bT (orF E m m' s)) := by
  refine PT_imp (pw_or ha (PW_of hb)).pt fun σ H Q h => ?_
  have h' : tT (wx X Φ) Z (fun s => (tst E m s).bind fun c s1 => if c then .ok true s1 else tst E m' s1) σ H Q := by
    obtain ⟨A, f, s, r, h⟩ := h
    dsimp only at h
    rw [bT_or] at h
    exact ⟨A, f, s, r, h⟩
  obtain ⟨A, f, s, r, h⟩ := tT_of_tst h'
  refine ⟨A, f, s, r, h.imp fun c H1 ⟨A', f', s', r', g⟩ => ?_⟩
  cases c with
  | true => exact g f' H1 true (Ext.refl _ _ _) r' rfl
  | false => exact ⟨A', f', s', r', g⟩
def iteF (E : ME → MS → Out Val) (c a b : ME) (s : MS) : Out Val := (tst E c s).bind fun t s1 => if t then E a s1 else E b s1
theorem tT_tst_bind {E : ME → MS → Out Val} {m : ME} {k : Bool → MS → Out Val} {σ : St} {H : Hp} {Q : VK} (h : tE (wx X Φ) Z (fun s => (tst E m s).bind k) σ H Q) :
    tT (wx X Φ) Z (tst E m) σ H fun c H1 => tE (wx X Φ) Z (k c) σ H1 Q := by
  obtain ⟨A, f, s, r, h⟩ := h
  exact ⟨A, f, s, r, h.of_bind fun b s1 f1 H1 x e1 eX R1 rv h1 => by cases rv; exact ⟨A, f1, s1, R1, h1⟩⟩
theorem e_ite {c a b : Expr} {E : ME → MS → Out Val} {mc ma mb : ME} (hc : PT X c (tT (wx X Φ) Z (tst E mc))) (ha : PE X a (tE (wx X Φ) Z (E ma))) (hb : PE X b (tE (wx X Φ) Z (E mb))) :
    PE X (.IfExp c a b pos) (tE (wx X Φ) Z (iteF E mc ma mb)) := by
  refine PE_imp (pe_ifExp hc ha hb) fun σ H Q h => ?_
  obtain ⟨A, f, s, r, h⟩ := tT_tst_bind h
  refine ⟨A, f, s, r, h.imp fun c H1 g => ?_⟩
  cases c with
  | true => exact g
  | false => exact g
theorem pt_ifE {c a b : Expr} {tc ta tb : TT} (hc : PT X c tc) (ha : PT X a ta) (hb : PT X b tb) : PT X (.IfExp c a b pos) (fun σ H Q => tc σ H fun d H1 => if d = true then ta σ H1 Q else tb σ H1 Q) := by
  refine ⟨fun pins s σ H Q I h => ?_⟩
  show wpAny _ _ (do if ← isTrue c X.env (eval c X.env) then isTrue a X.env (eval a X.env) else isTrue b X.env (eval b X.env)) _ _ _
  refine wpAny_bind (thn (hc.run pins s σ H _ I h) fun d s1 ⟨H1, I1, q1⟩ => ?_)
  cases d with
  | true => exact ha.run pins s1 σ H1 Q I1 q1
  | false => exact hb.run pins s1 σ H1 Q I1 q1
theorem bT_ite (E : ME → MS → Out Val) (c a b : ME) (s : MS) : bT (iteF E c a b s) = (tst E c s).bind fun t s1 => if t then tst E a s1 else tst E b s1 := by
  unfold iteF
  cases e : tst E c s with
  | bad => rfl
  | exc c x s1 => rfl
  | ok c s1 => cases c <;> rfl
theorem p_ite {c a b : Expr} {E : ME → MS → Out Val} {mc ma mb : ME} (hc : PT X c (tT (wx X Φ) Z (tst E mc))) (ha : PT X a (tT (wx X Φ) Z (tst E ma))) (hb : PT X b (tT (wx X Φ) Z (tst E mb))) :
    PT X (.IfExp c a b pos) (tT (wx X Φ) Z fun s => bT (iteF E mc ma mb s)) := by
  refine PT_imp (pt_ifE hc ha hb) fun σ H Q h => ?_
  have h' : tT (wx X Φ) Z (fun s => (tst E mc s).bind fun t s1 => if t then tst E ma s1 else tst E mb s1) σ H Q := by
    obtain ⟨A, f, s, r, h⟩ := h
    dsimp only at h
    rw [bT_ite] at h
    exact ⟨A, f, s, r, h⟩
  obtain ⟨A, f, s, r, h⟩ := tT_of_tst h'
  refine ⟨A, f, s, r, h.imp fun c H1 ⟨A', f', s', r', g⟩ => ?_⟩
  cases c with
  | true => exact ⟨A', f', s', r', g⟩
  | false => exact ⟨A', f', s', r', g⟩
/-- displays -/
theorem e_tupleD {es : List Expr} {k : Nat} {E : MS → Out (List Val)} {G : List Val → MS → Out Val} (ha : PA X es (tA (wx X Φ) Z E))
    (hG : ∀ xs H Q, rVn X Φ Z G xs H Q → xs.length ≤ sizeLine ∧ ∀ p, H p = none → Q (.ref p) (upd H p (.tup xs))) :
    PE X (.Tuple es k pos) (tE (wx X Φ) Z fun s => (E s).bind fun vs s1 => G vs s1) := by
  refine PE_imp (pe_tup ha) fun σ H Q h => ?_
  obtain ⟨A, f, s, r, h⟩ := h
  exact ⟨A, f, s, r, h.of_bind fun vs s1 f1 H1 xs e1 eX R1 rv h1 => hG xs H1 Q ⟨σ, A, f1, s1, vs, R1, rv, h1⟩⟩
theorem e_listD {es : List Expr} {E : MS → Out (List Val)} {G : List Val → MS → Out Val} (ha : PA X es (tA (wx X Φ) Z E))
    (hG : ∀ xs H Q, rVn X Φ Z G xs H Q → xs.length ≤ sizeLine ∧ ∀ p, H p = none → Q (.ref p) (upd H p (.lst xs))) :
    PE X (.List es pos) (tE (wx X Φ) Z fun s => (E s).bind fun vs s1 => G vs s1) := by
  refine PE_imp (pe_lst ha) fun σ H Q h => ?_
  obtain ⟨A, f, s, r, h⟩ := h
  exact ⟨A, f, s, r, h.of_bind fun vs s1 f1 H1 xs e1 eX R1 rv h1 => hG xs H1 Q ⟨σ, A, f1, s1, vs, R1, rv, h1⟩⟩
/-- a built-in, by its name -/
theorem tn_of {E : MS → Out (List Val)} {G : List Val → MS → Out Val} {σ : St} {H : Hp} {Q : VK} (h : tE (wx X Φ) Z (fun s => (E s).bind fun vs s1 => G vs s1) σ H Q) :
    tCB (rVn X Φ Z G) (tA (wx X Φ) Z E) σ H Q := by
  obtain ⟨A, f, s, r, h⟩ := h
  exact ⟨A, f, s, r, h.of_bind fun vs s1 f1 H1 xs e1 eX R1 rv h1 => ⟨σ, A, f1, s1, vs, R1, rv, h1⟩⟩
theorem e_blt {x : Str} {id : String} {p : Pos} {a : Expr} {es : List Expr} {E : MS → Out (List Val)} {G : List Val → MS → Out Val} (hc : CallR X (.builtin id) (rVn X Φ Z G)) (hg : Gl X x) (hm : X.mg x = none)
    (hv : bootBuiltins x = some (.builtin id)) (hn : nameOk x = true) (hs : (a :: es).all notStar = true) (ha : PA X (a :: es) (tA (wx X Φ) Z E)) : PE X (.Call (.Name x p) (a :: es) [] pos) (tE (wx X Φ) Z fun s => (E s).bind fun vs s1 => G vs s1) := by
  rw [List.all_cons, Bool.and_eq_true] at hs
  exact PE_imp (pe_callB hc hg hm hv ha (nameOk_ok hn).2.2 (nameOk_ok hn).1 (starEach_cons hs.1) (starEach_plain hs.2)) fun _ _ _ h => tn_of h
theorem e_bty {x : Str} {id : String} {p : Pos} {a : Expr} {es : List Expr} {E : MS → Out (List Val)} {G : List Val → MS → Out Val} (hc : CallR X (.type id) (rVn X Φ Z G)) (hg : Gl X x) (hm : X.mg x = none)
    (hv : bootBuiltins x = some (.type id)) (hn : nameOk x = true) (hs : (a :: es).all notStar = true) (ha : PA X (a :: es) (tA (wx X Φ) Z E)) : PE X (.Call (.Name x p) (a :: es) [] pos) (tE (wx X Φ) Z fun s => (E s).bind fun vs s1 => G vs s1) := by
  rw [List.all_cons, Bool.and_eq_true] at hs
  exact PE_imp (pe_callTy hc hg hm hv ha (nameOk_ok hn).2.2 (nameOk_ok hn).1 (starEach_cons hs.1) (starEach_plain hs.2)) fun _ _ _ h => tn_of h
end
end MI

set_option Elab.async false
set_option linter.all false
set_option maxRecDepth 100000
set_option maxHeartbeats 1000000
/-! MI: own objects: made, changed, frozen. -/
namespace MI
open PySem PySem.Spec L2
open PyProof.Rows hiding St

section
variable {W : Wd} {A : Addr → Prop} {f : List Addr} {s : MS} {σ : St} {H H' : Hp}
theorem ObjR.mono {f f' : List Addr} {Hh Hh' H H' : Hp} {a : Addr} {o : MO} (hr : ∀ u v, RepV W f Hh u v → RepV W f' Hh' u v) (hs : Same Hh Hh') (ha : H' a = H a) (r : ObjR W f Hh H a o) : ObjR W f' Hh' H' a o := by
  cases o with
  | lst xs l =>
    obtain ⟨vs, h1, h2⟩ := r
    exact ⟨vs, by rw [ha]; exact h1, Paired.mp hr h2⟩
  | dct kvs l =>
    obtain ⟨es, h1, h2, h3, h4⟩ := r
    refine ⟨es, ?_, RpA.same hs h2, h3, Paired.mp hr h4⟩
    unfold DcA at h1 ⊢
    rw [ha]
    exact h1
theorem RepV.mono {f f' : List Addr} {Hh Hh' : Hp} (hs : Same Hh Hh') (hp : ∃ t, f' = f ++ t) (u : V) (v : Val) (r : RepV W f Hh u v) : RepV W f' Hh' u v := by
  cases v with
  | d d => exact Rp.same hs r
  | ref n =>
    obtain ⟨a, h, e⟩ := r
    obtain ⟨t, q⟩ := hp
    refine ⟨a, ?_, e⟩
    rw [q, List.getElem?_append_left (List.getElem?_eq_some_iff.mp h).1, h]
  | fn g =>
    obtain ⟨a, e, h⟩ := r
    refine ⟨a, e, h.imp id ?_⟩
    rintro ⟨D, c, h1, h2, h3⟩
    exact ⟨D, c, h1, hs _ _ h2, hs _ _ h3⟩
/-- what lies at an own address -/
theorem ObjR.there {Hh : Hp} {a : Addr} {o : MO} (r : ObjR W f Hh H a o) : H a ≠ none := by
  cases o with
  | lst xs l =>
    obtain ⟨vs, h1, _⟩ := r
    rw [h1]; simp
  | dct kvs l =>
    obtain ⟨es, h1, _⟩ := r
    obtain ⟨_, _, _, h, _⟩ := h1
    rw [h]; simp
theorem R.at_ (r : R W A f s σ H) {b : Addr} (hb : b ∈ f) : H b ≠ none := by
  obtain ⟨n, hn⟩ := List.getElem?_of_mem hb
  have hl : n < s.objs.length := by rw [← r.len]; exact (List.getElem?_eq_some_iff.mp hn).1
  exact (r.obj n s.objs[n] b (by simp [hl]) hn).there
theorem InU.mem {os : List MO} {b : Addr} (h : InU f os b) : b ∈ f := by
  obtain ⟨n, o, h1, _⟩ := h
  exact List.mem_of_getElem? h1
/-- the heap grows -/
theorem Ext.of_same {os : List MO} (e : Same H H') : Ext f os H f os H' := ⟨⟨[], by simp⟩, fun b o h _ _ => e b o h, fun _ h => .inl h⟩
theorem R.same (r : R W A f s σ H) (e : Same H H') : R W A f s σ H' := by
  have x : Ext f s.objs H f s.objs H' := Ext.of_same e
  refine ⟨r.len, r.nd, r.hA' x, r.disj, fun n o a h1 h2 => ?_, fun i v h => ?_, r.elen, r.tabs.ext e⟩
  · have q := r.obj n o a h1 h2
    refine q.mono (fun u v z => RepV.ext x z) x.same ?_
    cases hq : H a with
    | none => exact absurd hq q.there
    | some u => exact e a u hq
  · obtain ⟨u, h1, h2⟩ := r.env i v h
    exact ⟨u, h1, RepV.ext x h2⟩
theorem same_upd {p : Addr} {o : HO} (h : H p = none) : Same H (upd H p o) := fun b u e => by rw [upd_ne (ne_of_none e h)]; exact e
/-- a new own object -/
theorem Ext.push {os : List MO} {p : Addr} {o : HO} {mo : MO} (hl : f.length = os.length) (h : H p = none) : Ext f os H (f ++ [p]) (os ++ [mo]) (upd H p o) := by
  refine ⟨⟨[p], rfl⟩, fun b u e _ _ => same_upd h b u e, fun b hb => ?_⟩
  · obtain ⟨n, o', h1, h2, h3⟩ := hb
    by_cases hn : n < f.length
    · rw [List.getElem?_append_left hn] at h1
      rw [List.getElem?_append_left (by omega)] at h2
      exact .inl ⟨n, o', h1, h2, h3⟩
    · rw [List.getElem?_append_right (by omega)] at h1
      have : b = p := by
        cases q : n - f.length with
        | zero => rw [q] at h1; simpa using h1.symm
        | succ k => rw [q] at h1; simp at h1
      rw [this]
      exact .inr fun u q => by rw [h] at q; cases q
theorem R.push {p : Addr} {o : HO} {mo : MO} (r : R W A f s σ H) (h : H p = none) (hp : ∀ Hh, Same (hid A f s.objs H) Hh → ObjR W (f ++ [p]) Hh (upd H p o) p mo) :
    R W A (f ++ [p]) { s with objs := s.objs ++ [mo] } σ (upd H p o) := by
  have x : Ext f s.objs H (f ++ [p]) (s.objs ++ [mo]) (upd H p o) := Ext.push r.len h
  have np : p ∉ f := fun z => r.at_ z h
  refine ⟨by simp [r.len], ?_, r.hA' x, fun b hb => ?_, fun n o' a h1 h2 => ?_, fun i v hi => ?_, r.elen, r.tabs.ext (same_upd h)⟩
  · rw [List.nodup_append]
    exact ⟨r.nd, by simp, fun a ha b hb e => np (by simp at hb; rw [← hb, ← e]; exact ha)⟩
  · rcases List.mem_append.mp hb with z | z
    · exact r.disj b z
    · simp at z
      rw [z]
      exact r.nA h
  · by_cases hn : n < f.length
    · rw [List.getElem?_append_left hn] at h2
      rw [List.getElem?_append_left (by rw [← r.len]; exact hn)] at h1
      refine (r.obj n o' a h1 h2).mono (fun u v z => RepV.ext x z) x.same ?_
      exact upd_ne fun e => np (e ▸ List.mem_of_getElem? h2)
    · rw [List.getElem?_append_right (by omega)] at h2
      rw [List.getElem?_append_right (by rw [← r.len]; omega)] at h1
      cases q : n - f.length with
      | zero =>
        rw [q] at h2
        rw [← r.len, q] at h1
        simp at h1 h2
        subst h1 h2
        exact hp _ x.same
      | succ k => rw [q] at h2; simp at h2
  · obtain ⟨u, h1, h2⟩ := r.env i v hi
    exact ⟨u, h1, RepV.ext x h2⟩
/-- an own live object is changed -/
theorem hid_set {os : List MO} {n : Nat} {a : Addr} {o : HO} {mo mo' : MO} (hn : f[n]? = some a) (h1 : os[n]? = some mo) (hl : mo.live = true) (hl' : mo'.live = true) : hid A f (os.set n mo') (upd H a o) = hid A f os H := by
  have hlt : n < os.length := (List.getElem?_eq_some_iff.mp h1).1
  have iff : ∀ b, InU f (os.set n mo') b ↔ InU f os b := fun b => by
    constructor
    · rintro ⟨m, o', q1, q2, q3⟩
      by_cases e : n = m
      · subst e
        exact ⟨n, mo, q1, h1, hl⟩
      · rw [List.getElem?_set_ne e] at q2
        exact ⟨m, o', q1, q2, q3⟩
    · rintro ⟨m, o', q1, q2, q3⟩
      by_cases e : n = m
      · subst e
        exact ⟨n, mo', q1, by simp [hlt], hl'⟩
      · exact ⟨m, o', q1, by rw [List.getElem?_set_ne e]; exact q2, q3⟩
  have ia : InU f os a := ⟨n, mo, hn, h1, hl⟩
  funext b
  unfold hid
  rw [iff b]
  by_cases e : b = a
  · subst e
    rw [if_pos (.inr (.inl ia)), if_pos (.inr (.inl ia))]
  · rw [upd_ne e]
theorem Ext.store {os : List MO} {n : Nat} {a : Addr} {o : HO} {mo mo' : MO} (hn : f[n]? = some a) (h1 : os[n]? = some mo) (hl : mo.live = true) (hl' : mo'.live = true) : Ext f os H f (os.set n mo') (upd H a o) := by
  refine ⟨⟨[], by simp⟩, fun b u e q _ => ?_, fun b hb => .inl ?_⟩
  · rw [upd_ne fun z => q ⟨n, mo, by rw [z]; exact hn, h1, hl⟩]
    exact e
  · obtain ⟨m, o', q1, q2, q3⟩ := hb
    by_cases e : n = m
    · subst e
      exact ⟨n, mo, q1, h1, hl⟩
    · rw [List.getElem?_set_ne e] at q2
      exact ⟨m, o', q1, q2, q3⟩
/-- what lies at an own address is no table, no code object -/
theorem ObjR.noTbl {Hh : Hp} {a : Addr} {o : MO} {u : HO} (r : ObjR W f Hh H a o) (h : H a = some u) : NoTbl u ∧ ∀ q, u ≠ LamX.CodeO a q := by
  cases o with
  | lst xs l =>
    obtain ⟨vs, h1, _⟩ := r
    rw [h1] at h
    cases h
    exact ⟨fun _ z => (by cases z), fun _ z => (by unfold LamX.CodeO at z; cases z)⟩
  | dct kvs l =>
    obtain ⟨es, h1, _⟩ := r
    obtain ⟨ob, ents, ep, h1, _, hd, _⟩ := h1
    rw [h1] at h
    cases h
    refine ⟨fun _ z => (by unfold rawO at z; cases z), fun q z => ?_⟩
    unfold rawO LamX.CodeO at z
    have z' := HO.ext.inj z
    have hx : ∃ g : Heap, g.get? a = some ob := by
      obtain ⟨g, hg⟩ : ∃ g : Heap, g.objs.size = a := ⟨⟨(List.replicate a ob).toArray, default⟩, by simp⟩
      exact ⟨g.push ob, by rw [← hg]; exact Heap.get?_push_size _ (PySem.Obj.isFreed_of_dict hd)⟩
    obtain ⟨g, hg⟩ := hx
    obtain ⟨oc, vs, t, q1, q2, _⟩ := (congrFun z' g).mp hg
    rw [hg] at q1
    cases q1
    rw [hd] at q2
    cases q2
theorem tabs_store {T : List (Addr × Str)} {a : Addr} {o u : HO} (t : LamX.Tabs T H) (h : H a = some u) (n : NoTbl u ∧ ∀ q, u ≠ LamX.CodeO a q) : LamX.Tabs T (upd H a o) := fun p hp => by
  obtain ⟨ps, h1, h2, h3⟩ := t p hp
  refine ⟨ps, ?_, h2, fun pos cv hc => ?_⟩
  · rw [upd_ne fun z => n.1 ps (by rw [z, h] at h1; exact Option.some.inj h1)]
    exact h1
  · obtain ⟨c, e, q⟩ := h3 pos cv hc
    refine ⟨c, e, ?_⟩
    rw [upd_ne fun z => n.2 p.2 (by rw [z, h] at q; exact Option.some.inj q)]
    exact q
theorem R.store {n : Nat} {a : Addr} {o : HO} {mo mo' : MO} (r : R W A f s σ H) (hn : f[n]? = some a) (h1 : s.objs[n]? = some mo) (hl : mo.live = true) (hl' : mo'.live = true) (hp : ObjR W f (hid A f s.objs H) (upd H a o) a mo') :
    R W A f { s with objs := s.objs.set n mo' } σ (upd H a o) := by
  have e : hid A f (s.objs.set n mo') (upd H a o) = hid A f s.objs H := hid_set hn h1 hl hl'
  have x : Ext f s.objs H f (s.objs.set n mo') (upd H a o) := Ext.store hn h1 hl hl'
  refine ⟨by simp [r.len], r.nd, r.hA' x, r.disj, fun m o' b q1 q2 => ?_, fun i v hi => ?_, r.elen, ?_⟩
  rotate_left 2
  · obtain ⟨u, hu⟩ := Option.ne_none_iff_exists'.mp (r.obj n mo a h1 hn).there
    exact tabs_store r.tabs hu ((r.obj n mo a h1 hn).noTbl hu)
  · show ObjR W f (hid A f (s.objs.set n mo') (upd H a o)) (upd H a o) b o'
    rw [e]
    by_cases z : n = m
    · subst z
      rw [hn] at q2
      cases q2
      have q1' : (s.objs.set n mo')[n]? = some o' := q1
      rw [List.getElem?_set_self (List.getElem?_eq_some_iff.mp h1).1] at q1'
      cases q1'
      exact hp
    · have q1' : (s.objs.set n mo')[m]? = some o' := q1
      rw [List.getElem?_set_ne z] at q1'
      refine (r.obj m o' b q1' q2).mono (fun u v z => z) (fun _ _ z => z) ?_
      refine upd_ne fun w => z ?_
      subst w
      have l1 := (List.getElem?_eq_some_iff.mp hn).1
      have l2 := (List.getElem?_eq_some_iff.mp q2).1
      exact (List.getElem_inj r.nd).mp (by rw [(List.getElem?_eq_some_iff.mp hn).2, (List.getElem?_eq_some_iff.mp q2).2])
  · show ∃ u, σ[i]? = some (some u) ∧ RepV W f (hid A f (s.objs.set n mo') (upd H a o)) u v
    rw [e]
    exact r.env i v hi
/-- a slot is set -/
theorem R.slot {i : Nat} {u : V} {v : Val} (r : R W A f s σ H) (rv : RepV W f (hid A f s.objs H) u v) : R W A f (s.setSlot i v) (σ.set i (some u)) H := by
  refine ⟨r.len, r.nd, r.hA, r.disj, r.obj, fun j w hj => ?_, by simp [MS.setSlot, r.elen], r.tabs⟩
  have hj' : (s.env.set i (some v))[j]? = some (some w) := hj
  by_cases e : i = j
  · subst e
    by_cases hi : i < s.env.length
    · rw [List.getElem?_set_self hi] at hj'
      cases hj'
      exact ⟨u, by rw [List.getElem?_set_self (by rw [← r.elen]; exact hi)], rv⟩
    · rw [List.getElem?_eq_none (by simpa using hi)] at hj'
      cases hj'
  · rw [List.getElem?_set_ne e] at hj'
    obtain ⟨u', h1, h2⟩ := r.env j w hj'
    exact ⟨u', by rw [List.getElem?_set_ne e]; exact h1, h2⟩

/-! ### freezing -/
def MO.stl : MO → MO
  | .lst xs _ => .lst xs false
  | .dct kvs _ => .dct kvs false
/-- some objects may not be changed any more -/
def Fz (os os' : List MO) : Prop := os'.length = os.length ∧ ∀ (n : Nat) (o : MO), os[n]? = some o → os'[n]? = some o ∨ os'[n]? = some o.stl
theorem Fz.refl (os : List MO) : Fz os os := ⟨rfl, fun _ _ h => .inl h⟩
theorem stl_stl (o : MO) : o.stl.stl = o.stl := by cases o <;> rfl
theorem stl_live (o : MO) : o.stl.live = false := by cases o <;> rfl
theorem Fz.trans {a b c : List MO} (x : Fz a b) (y : Fz b c) : Fz a c := by
  refine ⟨y.1.trans x.1, fun n o h => ?_⟩
  rcases x.2 n o h with q | q
  · exact y.2 n o q
  · rcases y.2 n _ q with z | z
    · exact .inr z
    · exact .inr (by rw [stl_stl] at z; exact z)
theorem Fz.back {os os' : List MO} (x : Fz os os') {n : Nat} {o' : MO} (h : os'[n]? = some o') : ∃ o, os[n]? = some o ∧ (o' = o ∨ o' = o.stl) := by
  have hl : n < os.length := by rw [← x.1]; exact (List.getElem?_eq_some_iff.mp h).1
  have e : os[n]? = some os[n] := List.getElem?_eq_getElem hl
  refine ⟨os[n], e, ?_⟩
  rcases x.2 n _ e with q | q
  · rw [h] at q; cases q; exact .inl rfl
  · rw [h] at q; cases q; exact .inr rfl
theorem Fz.inU {os os' : List MO} (x : Fz os os') {b : Addr} (h : InU f os' b) : InU f os b := by
  obtain ⟨n, o', h1, h2, h3⟩ := h
  obtain ⟨o, e, q | q⟩ := x.back h2
  · subst q
    exact ⟨n, _, h1, e, h3⟩
  · rw [q, stl_live] at h3
    cases h3
theorem Fz.ext {os os' : List MO} (x : Fz os os') : Ext f os H f os' H := ⟨⟨[], by simp⟩, fun _ _ h _ _ => h, fun _ h => .inl (x.inU h)⟩
theorem ObjR.stl {Hh : Hp} {a : Addr} {o : MO} (r : ObjR W f Hh H a o) : ObjR W f Hh H a o.stl := by cases o <;> exact r
theorem R.fz {os' : List MO} (r : R W A f s σ H) (x : Fz s.objs os') : R W A f { s with objs := os' } σ H := by
  have e : Ext f s.objs H f os' H := x.ext
  refine ⟨r.len.trans x.1.symm, r.nd, r.hA, r.disj, fun n o' a h1 h2 => ?_, fun i v hi => ?_, r.elen, r.tabs⟩
  · obtain ⟨o, q, z | z⟩ := x.back h1
    · subst z
      exact (r.obj n _ a q h2).mono (fun u v z => RepV.ext e z) e.same rfl
    · subst z
      exact ((r.obj n _ a q h2).mono (fun u v z => RepV.ext e z) e.same rfl).stl
  · obtain ⟨u, h1, h2⟩ := r.env i v hi
    exact ⟨u, h1, RepV.ext e h2⟩
theorem Fz.set {os : List MO} {n : Nat} {o : MO} (h : os[n]? = some o) : Fz os (os.set n o.stl) := by
  refine ⟨by simp, fun m o' h' => ?_⟩
  by_cases e : n = m
  · subst e
    rw [h] at h'
    cases h'
    exact .inr (by rw [List.getElem?_set_self (List.getElem?_eq_some_iff.mp h).1])
  · exact .inl (by rw [List.getElem?_set_ne e]; exact h')
/-- what a freezing does: F at some depth -/
def FrzOk (W : Wd) (F : List MO → Val → Option (PyData × List MO)) : Prop := ∀ (A : Addr → Prop) (f : List Addr) (s : MS) (σ : St) (H : Hp) (v : Val) (x : PyData) (os' : List MO) (u : V), F s.objs v = some (x, os') → R W A f s σ H → RepV W f (hid A f s.objs H) u v →
  Fz s.objs os' ∧ W.rp (hid A f os' H) u x
theorem frzL_ok {F : List MO → Val → Option (PyData × List MO)} (hF : FrzOk W F) : ∀ {vs : List Val} {us : List V} {s : MS} {ds : List PyData} {os' : List MO}, frzL F s.objs vs = some (ds, os') → R W A f s σ H → PV W f (hid A f s.objs H) us vs →
    Fz s.objs os' ∧ W.rpA (hid A f os' H) us ds
  | [], us, s, ds, os', h, r, rv => by
    cases rv
    cases h
    exact ⟨Fz.refl _, .nil⟩
  | v :: vs, us, s, ds, os', h, r, rv => by
    cases rv with
    | cons r1 r2 =>
      unfold frzL at h
      split at h
      · cases h
      · rename_i x os1 h1
        split at h
        · cases h
        · rename_i xs os2 h2
          cases h
          obtain ⟨z1, p1⟩ := hF A f s σ H v x os1 _ h1 r r1
          obtain ⟨z2, p2⟩ := frzL_ok hF (s := { s with objs := os1 }) h2 (r.fz z1) (PV.ext z1.ext r2)
          exact ⟨z1.trans z2, .cons (Rp.same (Ext.same (A := A) (z2.ext (f := f) (H := H))) p1) p2⟩
theorem frzK_ok {F : List MO → Val → Option (PyData × List MO)} (hF : FrzOk W F) : ∀ {kvs : List (PyData × Val)} {us : List V} {s : MS} {ds : List (PyData × PyData)} {os' : List MO}, frzK F s.objs kvs = some (ds, os') → R W A f s σ H → PV W f (hid A f s.objs H) us (kvs.map (·.2)) →
    Fz s.objs os' ∧ W.rpA (hid A f os' H) us (ds.map (·.2)) ∧ ds.map (·.1) = kvs.map (·.1)
  | [], us, s, ds, os', h, r, rv => by
    cases rv
    cases h
    exact ⟨Fz.refl _, .nil, rfl⟩
  | (k, v) :: vs, us, s, ds, os', h, r, rv => by
    cases rv with
    | cons r1 r2 =>
      unfold frzK at h
      split at h
      · cases h
      · rename_i x os1 h1
        split at h
        · cases h
        · rename_i xs os2 h2
          cases h
          obtain ⟨z1, p1⟩ := hF A f s σ H v x os1 _ h1 r r1
          obtain ⟨z2, p2, p3⟩ := frzK_ok hF (s := { s with objs := os1 }) h2 (r.fz z1) (PV.ext z1.ext r2)
          exact ⟨z1.trans z2, .cons (Rp.same (Ext.same (A := A) (z2.ext (f := f) (H := H))) p1) p2, by simp [p3]⟩
theorem not_inU_set (r : R W A f s σ H) {os : List MO} {n : Nat} {a : Addr} {o : MO} (hn : f[n]? = some a) (hl : o.live = false) (hk : n < os.length) : ¬ InU f (os.set n o) a := by
  rintro ⟨m, o', q1, q2, q3⟩
  have e : n = m := (List.getElem_inj (h₀ := (List.getElem?_eq_some_iff.mp hn).1) (h₁ := (List.getElem?_eq_some_iff.mp q1).1) r.nd).mp (by rw [(List.getElem?_eq_some_iff.mp hn).2, (List.getElem?_eq_some_iff.mp q1).2])
  subst e
  rw [List.getElem?_set_self hk] at q2
  cases q2
  rw [hl] at q3
  cases q3
theorem DcA.congr {w : World} {H H' : Hp} {a : Addr} {es : List Ent} (e : H' a = H a) (h : DcA w H a es) : DcA w H' a es := by
  unfold DcA at h ⊢
  rw [e]
  exact h
theorem frz_ok : ∀ k : Nat, FrzOk W (frz k)
  | 0 => by
    intro A f s σ H v x os' u h r rv
    cases v with
    | d d =>
      cases h
      exact ⟨Fz.refl _, rv⟩
    | ref n => cases h
    | fn g => cases h
  | k + 1 => by
    intro A f s σ H v x os' u h r rv
    cases v with
    | d d =>
      cases h
      exact ⟨Fz.refl _, rv⟩
    | fn g => cases h
    | ref n =>
      obtain ⟨a, hn, rfl⟩ := rv
      unfold frz at h
      simp only at h
      cases ho : s.objs[n]? with
      | none => rw [ho] at h; cases h
      | some o =>
        have hlen : n < s.objs.length := (List.getElem?_eq_some_iff.mp ho).1
        rw [ho] at h
        have q := r.obj n o a ho hn
        have q0 := q
        cases o with
        | lst xs l =>
          obtain ⟨vs, h1, h2⟩ := q
          simp only at h
          split at h
          · cases h
          · rename_i ds os1 hf
            cases h
            obtain ⟨z, p⟩ := frzL_ok (frz_ok k) hf r h2
            have z2 : Fz os1 (os1.set n (.lst xs false)) := by
              rcases z.2 n _ ho with e | e <;> exact Fz.set e
            have hk : n < os1.length := by rw [z.1]; exact hlen
            refine ⟨z.trans z2, .lst (SqL.of ?_) (RpA.same (Ext.same (A := A) (z2.ext (f := f) (H := H))) p)⟩
            rw [hid_eq (r.disj a (List.mem_of_getElem? hn)) (not_inU_set r hn rfl hk) fun u e => (q0.noTbl e).1]
            exact h1
        | dct kvs l =>
          obtain ⟨es, h1, h2, h3, h4⟩ := q
          simp only at h
          split at h
          · cases h
          · rename_i ds os1 hf
            cases h
            obtain ⟨z, p, pk⟩ := frzK_ok (frz_ok k) hf r h4
            have z2 : Fz os1 (os1.set n (.dct kvs false)) := by
              rcases z.2 n _ ho with e | e <;> exact Fz.set e
            have hk : n < os1.length := by rw [z.1]; exact hlen
            have sm := Ext.same (A := A) (z2.ext (f := f) (H := H))
            have sm1 := Ext.same (A := A) (z.ext (f := f) (H := H))
            refine ⟨z.trans z2, .dct (DcA.congr (hid_eq (r.disj a (List.mem_of_getElem? hn)) (not_inU_set r hn rfl hk) fun u e => (q0.noTbl e).1) h1) (RpA.same sm (RpA.same sm1 h2)) (RpA.same sm p) (by rw [pk, h3])⟩
theorem frzs_ok {vs : List Val} {us : List V} {ds : List PyData} {os' : List MO} (h : frzs s.objs vs = some (ds, os')) (r : R W A f s σ H) (rv : PV W f (hid A f s.objs H) us vs) : Fz s.objs os' ∧ W.rpA (hid A f os' H) us ds :=
  frzL_ok (frz_ok FD) h r rv
theorem snap_ok {v : Val} {u : V} {x : PyData} (h : snap s.objs v = some x) (r : R W A f s σ H) (rv : RepV W f (hid A f s.objs H) u v) : W.rp H u x := by
  unfold snap at h
  split at h
  · rename_i y os' e
    cases h
    exact Rp.same hid_sub (frz_ok FD A f s σ H v _ os' u e r rv).2
  · cases h
theorem still_fz (os : List MO) (v : Val) : Fz os (still os v) := by
  unfold still
  split
  · rename_i n
    split
    · rename_i xs l e
      exact Fz.set e
    · rename_i kvs l e
      exact Fz.set e
    · exact Fz.refl _
  · exact Fz.refl _
/-! ### what is read -/
theorem pures_ok {f : List Addr} {Hh : Hp} : ∀ {vs : List Val} {us : List V} {ds : List PyData}, pures vs = some ds → PV W f Hh us vs → W.rpA Hh us ds
  | [], us, ds, h, r => by
    cases r
    cases h
    exact .nil
  | .d x :: vs, us, ds, h, r => by
    cases r with
    | cons r1 r2 =>
      unfold pures at h
      split at h
      · rename_i xs e
        cases h
        exact .cons r1 (pures_ok e r2)
      · cases h
  | .ref n :: vs, us, ds, h, r => by cases h
  | .fn n :: vs, us, ds, h, r => by cases h
theorem PV_map {f : List Addr} {Hh : Hp} : ∀ {us : List V} {ds : List PyData}, W.rpA Hh us ds → PV W f Hh us (ds.map .d)
  | [], [], _ => .nil
  | _ :: _, _ :: _, .cons r t => .cons r (PV_map t)
/-- the items of a list or tuple -/
theorem items_ok {v : Val} {u : V} {vs : List Val} (h : items s.objs v = some vs) (r : R W A f s σ H) (rv : RepV W f (hid A f s.objs H) u v) :
    ∃ a us, u = .ref a ∧ (SqL W.K H a us ∨ SqT W.K H a us) ∧ PV W f (hid A f s.objs H) us vs := by
  cases v with
  | d d =>
    cases d with
    | tuple xs =>
      cases h
      cases rv with
      | tup h1 h2 => exact ⟨_, _, rfl, .inr (Same.sqT hid_sub h1), PV_map h2⟩
    | list xs =>
      cases h
      cases rv with
      | lst h1 h2 => exact ⟨_, _, rfl, .inl (L2.Same.seq hid_sub h1), PV_map h2⟩
    | _ => cases h
  | ref n =>
    obtain ⟨a, hn, rfl⟩ := rv
    unfold items at h
    simp only at h
    split at h
    · rename_i xs l e
      cases h
      obtain ⟨us, h1, h2⟩ := r.obj n _ a e hn
      exact ⟨a, us, rfl, .inl (SqL.of h1), h2⟩
    · cases h
  | fn g => cases h
end
end MI

set_option Elab.async false
set_option linter.all false
set_option maxRecDepth 100000
set_option maxHeartbeats 1000000
/-! MI: the rules by values: displays, arithmetic, comparisons, subscripts, built-ins. -/
namespace MI
open PySem PySem.Spec L2
open PyProof.Rows hiding St

section
variable {W : Wx} {Z : L2.WX} {A : Addr → Prop} {f : List Addr} {s : MS} {σ : St} {H : Hp} {Q : VK}
theorem hid_new {p : Addr} {o : HO} (r : R W.toWd A f s σ H) (h : H p = none) (n : NoTbl o) : hid A f s.objs (upd H p o) p = some o := hid_at upd_same (r.nA h) (fun z => r.at_ z.mem h) n
/-- pure data handed on -/
theorem go_d {x : PyData} {u : V} (h : GoO W Z (RlV W) A f s.objs σ H Q (.ok (.d x) s)) (r : R W.toWd A f s σ H) (hr : W.rp (hid A f s.objs H) u x) : Q u H := h f H u (Ext.refl _ _ _) r hr
theorem go_scal {x : PyData} {u : V} (h : GoO W Z (RlV W) A f s.objs σ H Q (.ok (.d x) s)) (r : R W.toWd A f s σ H) (hr : ∀ H, W.rp H u x) : Q u H := go_d h r (hr _)
theorem line_eq : sizeLine = 16777216 := sizeLine_eq
theorem go_newLst {xs : List Val} {us : List V} (h : GoO W Z (RlV W) A f s.objs σ H Q (newLst s xs)) (r : R W.toWd A f s σ H) (rv : PV W.toWd f (hid A f s.objs H) us xs) : us.length ≤ sizeLine ∧ ∀ p, H p = none → Q (.ref p) (upd H p (.lst us)) := by
  unfold newLst at h
  split at h
  · rename_i hz
    refine ⟨by rw [Paired.length' rv, line_eq]; exact hz, fun p hp => ?_⟩
    refine h (f ++ [p]) (upd H p (.lst us)) (.ref p) (Ext.push r.len hp) (r.push hp fun Hh e => ⟨us, upd_same, Paired.mp (fun u v z => RepV.mono e ⟨[p], rfl⟩ u v z) rv⟩) ⟨p, ?_, rfl⟩
    rw [← r.len]
    simp
  · exact h.elim
theorem go_tuple {ds : List PyData} {us : List V} {p : Addr} (h : GoO W Z (RlV W) A f s.objs σ H Q (.ok (.d (.tuple ds)) s)) (r : R W.toWd A f s σ H) (rv : W.rpA (hid A f s.objs H) us ds) (hp : H p = none) : Q (.ref p) (upd H p (.tup us)) :=
  h f _ _ (Ext.of_same (same_upd hp)) (r.same (same_upd hp)) (.tup (.inl (.inl (hid_new r hp fun _ z => (by cases z)))) (RpA.same (Ext.same (Ext.of_same (same_upd hp))) rv))
end

section
variable {X : Cx} {Φ : Fx} {Z : L2.WX}
theorem OpR_imp {F : Value → Value → PySem.Sem Value} {r r' : R2} (h : OpR X F r) (k : ∀ x y H Q, r' x y H Q → r x y H Q) : OpR X F r' := fun pins s σ H x y v u Q I rx ry q => h pins s σ H x y v u Q I rx ry (k _ _ _ _ q)
theorem UnR_imp {F : Value → PySem.Sem Value} {r r' : V → Hp → VK → Prop} (h : UnR X F r) (k : ∀ x H Q, r' x H Q → r x H Q) : UnR X F r' := fun pins s σ H x v Q I rx q => h pins s σ H x v Q I rx (k _ _ _ q)
theorem CallR_imp {F : Value} {r r' : List V → Hp → VK → Prop} (h : CallR X F r) (k : ∀ x H Q, r' x H Q → r x H Q) : CallR X F r' := fun pins s σ H xs us Q I rx q => h pins s σ H xs us Q I rx (k _ _ _ q)
theorem IxR_imp {r r' : R2} (h : IxR X r) (k : ∀ x y H Q, r' x y H Q → r x y H Q) : IxR X r' := fun value slice pins s σ H x y v u Q I rx ry q z => h value slice pins s σ H x y v u Q I rx ry (k _ _ _ _ q) z
theorem MtR_imp {id : String} {r r' : V → List V → Hp → VK → Prop} (h : MtR X id r) (k : ∀ x xs H Q, r' x xs H Q → r x xs H Q) : MtR X id r' := fun pins s σ H x xs v us Q I rx rs q => h pins s σ H x xs v us Q I rx rs (k _ _ _ _ q)

/-! ### displays -/
def tupG (vs : List Val) (s1 : MS) : Out Val := match frzs s1.objs vs with
    | some (ds, os) => if sizeOk ds.length then .ok (.d (.tuple ds)) { s1 with objs := os } else .bad
    | none => .bad
theorem d_tup (xs : List V) (H : Hp) (Q : VK) (h : rVn X Φ Z tupG xs H Q) : xs.length ≤ sizeLine ∧ ∀ p, H p = none → Q (.ref p) (upd H p (.tup xs)) := by
  obtain ⟨σ, A, f, s, vs, r, rv, h⟩ := h
  unfold tupG at h
  split at h
  · rename_i ds os e
    split at h
    · rename_i hz
      obtain ⟨z, p⟩ := frzs_ok e r rv
      refine ⟨?_, fun q hq => go_tuple (s := { s with objs := os }) (GoO.rebase h (z.ext)) (r.fz z) p hq⟩
      unfold sizeOk at hz
      rw [RpA.length p, line_eq]
      exact of_decide_eq_true hz
    · exact h.elim
  · exact h.elim
def lstG (vs : List Val) (s1 : MS) : Out Val := if noFns vs then newLst s1 vs else .bad
theorem d_lst (xs : List V) (H : Hp) (Q : VK) (h : rVn X Φ Z lstG xs H Q) : xs.length ≤ sizeLine ∧ ∀ p, H p = none → Q (.ref p) (upd H p (.lst xs)) := by
  obtain ⟨σ, A, f, s, vs, r, rv, h⟩ := h
  unfold lstG at h
  split at h
  · exact go_newLst h r rv
  · exact h.elim

/-! ### arithmetic -/
theorem rep_int {W : Wd} {f : List Addr} {H : Hp} {x : V} {i : Int} (r : RepV W f H x (.d (.int i))) : x = .int i := by cases r; rfl
theorem go_int {W : Wx} {A : Addr → Prop} {f : List Addr} {s : MS} {σ : St} {H : Hp} {Q : VK} {o : Op} {i j : Int} (h : GoO W Z (RlV W) A f s.objs σ H Q (ofO ((intOp o i j).map fun k => .d (.int k)) s)) (r : R W.toWd A f s σ H) : ∃ k, intOp o i j = some k ∧ Q (.int k) H := by
  cases e : intOp o i j with
  | none => rw [e] at h; exact h.elim
  | some k =>
    rw [e] at h
    exact ⟨k, rfl, go_d h r (.int k)⟩
/-- an operator of two whole numbers -/
def rInts (o : Op) : R2 := fun x y H Q => ∃ i j k, x = .int i ∧ y = .int j ∧ intOp o i j = some k ∧ Q (.int k) H
theorem if_some {c : Prop} [Decidable c] {a b : Int} (h : (if c then some a else none) = some b) : c ∧ a = b := by
  split at h
  · rename_i hc
    cases h
    exact ⟨hc, rfl⟩
  · cases h
theorem opI' {F : Value → Value → PySem.Sem Value} {o : Op} (h : ∀ i j t u s k (Q : Value → Shared → Prop), intOp o i j = some k → Q (.int k s.toks) { s with toks := s.toks + 1 } → wpAny (model X.prog X.w) X.A (F (.int i t) (.int j u)) Q X.xe s) : OpR X F (rInts o) := by
  intro pins s σ H x y v u Q I rx ry ⟨i, j, k, e1, e2, e3, q⟩
  subst e1; subst e2
  obtain ⟨t, rfl⟩ := rx
  obtain ⟨t', rfl⟩ := ry
  exact h i j t t' s k _ e3 ⟨.int _, H, I.tok _, ⟨_, rfl⟩, q⟩
theorem mulOk {i j : Int} (h : (Builtin.Int.intBits i : Int) + (Builtin.Int.intBits j : Int) ≤ 134217728) : IntMulOk i j := CMulX.ok h
theorem op_ints (o : Op) (op : Operator) (h : opOf op = some o) : OpR X (binaryOp op) (rInts o) := by
  cases op <;> cases h
  · exact opI' fun i j t u s k Q e q => by cases e; exact add_int q
  · exact opI' fun i j t u s k Q e q => by cases e; exact sub_int q
  · exact opI' fun i j t u s k Q e q => by
      obtain ⟨hc, rfl⟩ := if_some e
      exact mul_int q (mulOk hc)
  · exact opI' fun i j t u s k Q e q => by
      obtain ⟨hc, rfl⟩ := if_some e
      exact mod_int' (by omega) (by rw [Int.fmod_eq_emod_of_nonneg i (by omega)]; exact q)
  · exact opI' fun i j t u s k Q e q => by
      obtain ⟨⟨h0, hc⟩, rfl⟩ := if_some e
      exact pow_int h0 (by omega) q
  · exact opI' fun i j t u s k Q e q => by
      obtain ⟨⟨h0, hc⟩, rfl⟩ := if_some e
      exact lshift_int h0 (by omega) q
  · exact opI' fun i j t u s k Q e q => by
      obtain ⟨h0, rfl⟩ := if_some e
      exact rshift_int h0 (by rw [Int.fdiv_eq_ediv_of_nonneg i (two_pow_nn _)]; exact q)
  · exact opI' fun i j t u s k Q e q => by
      obtain ⟨⟨h0, hc⟩, rfl⟩ := if_some e
      exact floordiv_int (by omega) (by rw [Int.fdiv_eq_ediv_of_nonneg i (by omega)]; exact q) (.inl (PyProof.noPylong_of_log2 hc))
theorem op_intsI (o : Op) (op : Operator) (h : opOf op = some o) (h' : o ≠ .pow) : OpR X (inplaceOp op) (rInts o) := by
  cases op <;> cases h
  · exact opI' fun i j t u s k Q e q => by cases e; exact iadd_int q
  · exact opI' fun i j t u s k Q e q => by cases e; exact isub_int q
  · exact opI' fun i j t u s k Q e q => by
      obtain ⟨hc, rfl⟩ := if_some e
      exact imul_int q (mulOk hc)
  · exact opI' fun i j t u s k Q e q => by
      obtain ⟨hc, rfl⟩ := if_some e
      exact imod_int (by omega) (by rw [Int.fmod_eq_emod_of_nonneg i (by omega)]; exact q)
  · exact absurd rfl h'
  · exact opI' fun i j t u s k Q e q => by
      obtain ⟨⟨h0, hc⟩, rfl⟩ := if_some e
      exact ilshift_int h0 (by omega) q
  · exact opI' fun i j t u s k Q e q => by
      obtain ⟨h0, rfl⟩ := if_some e
      exact irshift_int h0 (by rw [Int.fdiv_eq_ediv_of_nonneg i (two_pow_nn _)]; exact q)
  · exact opI' fun i j t u s k Q e q => by
      obtain ⟨⟨h0, hc⟩, rfl⟩ := if_some e
      exact ifloordiv_int (by omega) (by rw [Int.fdiv_eq_ediv_of_nonneg i (by omega)]; exact q) (.inl (PyProof.noPylong_of_log2 hc))
/-- -a -/
def negG (v : Val) (s : MS) : Out Val := match v with
  | .d (.int i) => .ok (.d (.int (-i))) s
  | _ => .bad
theorem un_negV : UnR X (unaryOp .USub) (rV1 X Φ Z negG) := by
  refine UnR_imp un_neg fun x H Q h => ?_
  obtain ⟨σ, A, f, s, v, r, rv, h⟩ := h
  unfold negG at h
  split at h
  · rename_i i
    exact ⟨i, rep_int rv, go_d h r (.int _)⟩
  · exact h.elim

/-! ### data that can be laid out -/
mutual
theorem rp_dp {P : Program} {w : World} {K : PySem.W.Frag} {H : Hp} : ∀ (d : PyData) (v : V), d.canLay0 = true → Rp P w K H v d → Dp K H v d
  | .none, _, _, h => by cases h; exact .non
  | .bool b, _, _, h => by cases h; exact .bl b
  | .int i, _, _, h => by cases h; exact .int i
  | .str x, _, _, h => by cases h; exact .str x
  | .list ds, _, c, h => by
    cases h with
    | lst hs ha => exact .lst hs (rpA_dp ds _ (by simpa [PyData.canLay0] using c) ha)
  | .tuple ds, _, c, h => by
    cases h with
    | tup hs ha => exact .tup hs (rpA_dp ds _ (by simpa [PyData.canLay0] using c) ha)
  | .dict _, _, c, _ => by simp [PyData.canLay0] at c
theorem rpA_dp {P : Program} {w : World} {K : PySem.W.Frag} {H : Hp} : ∀ (ds : List PyData) (vs : List V), PyData.canLayAll0 ds = true → RpA P w K H vs ds → DpAll K H vs ds
  | [], _, _, h => by cases h; exact .nil
  | d :: ds, _, c, h => by
    cases h with
    | cons h1 h2 =>
      simp only [PyData.canLayAll0, Bool.and_eq_true] at c
      exact .cons (rp_dp d _ c.1 h1) (rpA_dp ds _ c.2 h2)
end
theorem rp_reads {pins : List (Addr × Obj)} {σ : St} {H : Hp} {s : Shared} {d : PyData} {v : V} {u : Value} (I : Inv X pins σ H s) (c : d.canLay0 = true) (h : Rp X.prog X.w X.K H v d) (r : L2.RelV v u) : ∃ as, Reads s.heap u d as :=
  Dp.reads I d v u (rp_dp d v c h) r
theorem rpA_reads {pins : List (Addr × Obj)} {σ : St} {H : Hp} {s : Shared} {ds : List PyData} {vs : List V} {us : List Value} (I : Inv X pins σ H s) (c : PyData.canLayAll0 ds = true) (h : RpA X.prog X.w X.K H vs ds) (r : Vals vs us) : ∃ as, ReadsAll s.heap us ds as :=
  Dp.readsAll I ds vs us (rpA_dp ds vs c h) r
theorem all_lay : ∀ {ds : List PyData}, ds.all SeqAt.shaped = true → PyData.canLayAll0 ds = true ∧ PyData.depthAll ds ≤ 64
  | [], _ => ⟨by simp [PyData.canLayAll0], by simp [PyData.depthAll]⟩
  | d :: ds, h => by
    rw [List.all_cons, Bool.and_eq_true] at h
    obtain ⟨h1, h2⟩ := all_lay h.2
    refine ⟨by simp [PyData.canLayAll0, SeqAt.canLay_of_shaped h.1, h1], ?_⟩
    have := SeqAt.depth_of_shaped h.1
    simp only [PyData.depthAll]
    omega

/-! ### comparisons -/
def rD2 (X : Cx) (f : PyData → PyData → Bool) : R2 := fun x y H Q => ∃ d e, Rp X.prog X.w X.K H x d ∧ Rp X.prog X.w X.K H y e ∧ ordOk d e = true ∧ Q (.bl (f d e)) H
theorem ordOk_of {d e : PyData} (h : ordOk d e = true) : PySem.W.alike d e = true ∧ d ≠ .none ∧ SeqAt.shaped d = true ∧ SeqAt.shaped e = true := by
  unfold ordOk at h
  simp only [Bool.and_eq_true, Bool.not_eq_true'] at h
  obtain ⟨⟨⟨h1, h2⟩, h3⟩, h4⟩ := h
  exact ⟨h1, (fun z => by rw [z] at h2; cases h2), h3, h4⟩
theorem op_ord {F : Value → Value → PySem.Sem Value} {f : PyData → PyData → Bool} (hu : X.A.units + 65 < cLine)
    (rule : ∀ (s : Shared) (a b : Value) (da db : PyData) (as bs : List Addr) (Q : Value → Shared → Prop), Reads s.heap a da as → Reads s.heap b db bs → PySem.W.alike da db = true → da ≠ .none → X.A.units + min da.depth db.depth < cLine → Q (.bool (f da db)) s → wpAny (model X.prog X.w) X.A (F a b) Q X.xe s) : OpR X F (rD2 X f) := by
  intro pins s σ H x y v u Q I rx ry h
  obtain ⟨d, e, hd, he, ho, q⟩ := h
  obtain ⟨h1, h2, h3, h4⟩ := ordOk_of ho
  obtain ⟨as, r1⟩ := rp_reads I (SeqAt.canLay_of_shaped h3) hd rx
  obtain ⟨bs, r2⟩ := rp_reads I (SeqAt.canLay_of_shaped h4) he ry
  refine rule s v u d e as bs _ r1 r2 h1 h2 ?_ ⟨.bl _, H, I, rfl, q⟩
  have := SeqAt.depth_of_shaped h3
  omega
def cmpG (o : CO) (v w : Val) (s : MS) : Out Val := ofO ((cmpV o v w s).map fun t => .d (.bool t)) s
theorem go_cmp {W : Wx} {A : Addr → Prop} {f : List Addr} {s : MS} {σ : St} {H : Hp} {Q : VK} {o : CO} {v w : Val} (h : GoO W Z (RlV W) A f s.objs σ H Q (cmpG o v w s)) (r : R W.toWd A f s σ H) : ∃ t, cmpV o v w s = some t ∧ Q (.bl t) H := by
  unfold cmpG at h
  cases e : cmpV o v w s with
  | none => rw [e] at h; exact h.elim
  | some t =>
    rw [e] at h
    exact ⟨t, rfl, go_d h r (.bl t)⟩
theorem some_if {c : Bool} {b t : Bool} (h : (if c = true then some b else none) = some t) : c = true ∧ b = t := by
  split at h
  · rename_i hc
    cases h
    exact ⟨hc, rfl⟩
  · cases h
/-- in a list or tuple of shaped data -/
theorem op_inSeq (hu : X.A.units + 65 < cLine) : OpR X (compareOp .In) (fun x y H Q => ∃ p us d ds, y = .ref p ∧ (SqL X.K H p us ∨ SqT X.K H p us) ∧ Rp X.prog X.w X.K H x d ∧ RpA X.prog X.w X.K H us ds ∧ SeqAt.shaped d = true ∧ ds.all SeqAt.shaped = true ∧ Q (.bl (ds.any fun z => PyData.eqv z d)) H) := by
  intro pins s σ H x y v u Q I rx ry h
  obtain ⟨p, us, d, ds, rfl, hq, hd, ha, sd, sa, q⟩ := h
  obtain rfl : u = Value.ref p := ry
  obtain ⟨as, r1⟩ := rp_reads I (SeqAt.canLay_of_shaped sd) hd rx
  obtain ⟨c1, c2⟩ := all_lay sa
  have hb : X.A.units + 1 + min (PyData.depthAll ds) d.depth < cLine := by omega
  rcases hq with hq | hq
  · obtain ⟨its, rv, ⟨o, n, ho, hc, _, hdt⟩, _⟩ := I.list hq
    obtain ⟨bs, r2⟩ := rpA_reads I c1 ha rv
    exact SeqAt.in_list_reads (.list ho hc hdt r2) r1 c1 (SeqAt.canLay_of_shaped sd) hb ⟨.bl _, H, I, rfl, q⟩
  · obtain ⟨its, rv, ⟨o, ho, hc, n, hdt⟩, _⟩ := I.tuple hq
    obtain ⟨bs, r2⟩ := rpA_reads I c1 ha rv
    exact SeqAt.in_tuple_reads (.tuple ho hc hdt r2) r1 c1 (SeqAt.canLay_of_shaped sd) hb ⟨.bl _, H, I, rfl, q⟩
theorem op_ninSeq (hu : X.A.units + 65 < cLine) : OpR X (compareOp .NotIn) (fun x y H Q => ∃ p us d ds, y = .ref p ∧ (SqL X.K H p us ∨ SqT X.K H p us) ∧ Rp X.prog X.w X.K H x d ∧ RpA X.prog X.w X.K H us ds ∧ SeqAt.shaped d = true ∧ ds.all SeqAt.shaped = true ∧ Q (.bl (!ds.any fun z => PyData.eqv z d)) H) := by
  intro pins s σ H x y v u Q I rx ry h
  obtain ⟨p, us, d, ds, rfl, hq, hd, ha, sd, sa, q⟩ := h
  obtain rfl : u = Value.ref p := ry
  obtain ⟨as, r1⟩ := rp_reads I (SeqAt.canLay_of_shaped sd) hd rx
  obtain ⟨c1, c2⟩ := all_lay sa
  have hb : X.A.units + 1 + min (PyData.depthAll ds) d.depth < cLine := by omega
  rcases hq with hq | hq
  · obtain ⟨its, rv, ⟨o, n, ho, hc, _, hdt⟩, _⟩ := I.list hq
    obtain ⟨bs, r2⟩ := rpA_reads I c1 ha rv
    exact SeqAt.notIn_list_reads (.list ho hc hdt r2) r1 c1 (SeqAt.canLay_of_shaped sd) hb ⟨.bl _, H, I, rfl, q⟩
  · obtain ⟨its, rv, ⟨o, ho, hc, n, hdt⟩, _⟩ := I.tuple hq
    obtain ⟨bs, r2⟩ := rpA_reads I c1 ha rv
    exact SeqAt.notIn_tuple_reads (.tuple ho hc hdt r2) r1 c1 (SeqAt.canLay_of_shaped sd) hb ⟨.bl _, H, I, rfl, q⟩
end
end MI

set_option Elab.async false
set_option linter.all false
set_option maxRecDepth 100000
set_option maxHeartbeats 1000000
/-! MI: dicts. -/
namespace MI
open PySem PySem.Spec L2
open PyProof.Rows hiding St

/-! ### keys -/
mutual
theorem eqv_key : ∀ (x y : PyData) (n m : Nat), keyB n x = true → keyB m y = true → PyData.eqv x y = NestedKey.beq (toKey x) (toKey y)
  | .int i, .int j, _, _, _, _ => by simp only [PyData.eqv, toKey, NestedKey.beq]; by_cases h : i = j <;> simp [h]
  | .str i, .str j, _, _, _, _ => by simp only [PyData.eqv, toKey, NestedKey.beq]; by_cases h : i = j <;> simp [h]
  | .int i, .str j, _, _, _, _ => by simp [PyData.eqv, toKey, NestedKey.beq]
  | .str i, .int j, _, _, _, _ => by simp [PyData.eqv, toKey, NestedKey.beq]
  | .int i, .tuple j, _, _, _, _ => by simp [PyData.eqv, toKey, NestedKey.beq]
  | .str i, .tuple j, _, _, _, _ => by simp [PyData.eqv, toKey, NestedKey.beq]
  | .tuple i, .int j, _, _, _, _ => by simp [PyData.eqv, toKey, NestedKey.beq]
  | .tuple i, .str j, _, _, _, _ => by simp [PyData.eqv, toKey, NestedKey.beq]
  | .tuple xs, .tuple ys, n, m, h1, h2 => by
    cases n with
    | zero => cases h1
    | succ n =>
      cases m with
      | zero => cases h2
      | succ m =>
        simp only [PyData.eqv, toKey, NestedKey.beq]
        exact eqv_keys xs ys n m h1 h2
  | .none, _, n, _, h, _ => by cases n <;> cases h
  | .bool _, _, n, _, h, _ => by cases n <;> cases h
  | .list _, _, n, _, h, _ => by cases n <;> cases h
  | .dict _, _, n, _, h, _ => by cases n <;> cases h
  | .int _, .none, _, n, _, h => by cases n <;> cases h
  | .int _, .bool _, _, n, _, h => by cases n <;> cases h
  | .int _, .list _, _, n, _, h => by cases n <;> cases h
  | .int _, .dict _, _, n, _, h => by cases n <;> cases h
  | .str _, .none, _, n, _, h => by cases n <;> cases h
  | .str _, .bool _, _, n, _, h => by cases n <;> cases h
  | .str _, .list _, _, n, _, h => by cases n <;> cases h
  | .str _, .dict _, _, n, _, h => by cases n <;> cases h
  | .tuple _, .none, _, n, _, h => by cases n <;> cases h
  | .tuple _, .bool _, _, n, _, h => by cases n <;> cases h
  | .tuple _, .list _, _, n, _, h => by cases n <;> cases h
  | .tuple _, .dict _, _, n, _, h => by cases n <;> cases h
theorem eqv_keys : ∀ (xs ys : List PyData) (n m : Nat), (xs.all (keyB n)) = true → (ys.all (keyB m)) = true → PyData.eqvAll xs ys = NestedKey.beqAll (toKeys xs) (toKeys ys)
  | [], [], _, _, _, _ => by simp only [PyData.eqvAll, toKeys, NestedKey.beqAll]
  | [], _ :: _, _, _, _, _ => by simp only [PyData.eqvAll, toKeys, NestedKey.beqAll]
  | _ :: _, [], _, _, _, _ => by simp only [PyData.eqvAll, toKeys, NestedKey.beqAll]
  | x :: xs, y :: ys, n, m, h1, h2 => by
    rw [List.all_cons, Bool.and_eq_true] at h1 h2
    simp only [PyData.eqvAll, toKeys, NestedKey.beqAll]
    rw [eqv_key x y n m h1.1 h2.1, eqv_keys xs ys n m h1.2 h2.2]
end
theorem eqv_keyD {x y : PyData} (h1 : isKey x = true) (h2 : isKey y = true) : PyData.eqv x y = decide (toKey x = toKey y) := by
  rw [NestedKey.decide_eq]
  exact eqv_key x y 6 6 h1 h2
mutual
theorem depth_key : ∀ (x : PyData) (n : Nat), keyB n x = true → (toKey x).depth ≤ n
  | .int i, _, _ => by simp [toKey, NestedKey.depth]
  | .str i, _, _ => by simp [toKey, NestedKey.depth]
  | .tuple xs, n, h => by
    cases n with
    | zero => cases h
    | succ n =>
      have := depth_keys xs n h
      simp only [toKey, NestedKey.depth]
      omega
  | .none, n, h => by cases n <;> cases h
  | .bool _, n, h => by cases n <;> cases h
  | .list _, n, h => by cases n <;> cases h
  | .dict _, n, h => by cases n <;> cases h
theorem depth_keys : ∀ (xs : List PyData) (n : Nat), (xs.all (keyB n)) = true → NestedKey.depthAll (toKeys xs) ≤ n
  | [], _, _ => by simp [toKeys, NestedKey.depthAll]
  | x :: xs, n, h => by
    rw [List.all_cons, Bool.and_eq_true] at h
    have h1 := depth_key x n h.1
    have h2 := depth_keys xs n h.2
    simp only [toKeys, NestedKey.depthAll]
    omega
end
theorem mix_key {x : PyData} (h : isKey x = true) (ht : isTupD x = false) : ∃ k : Key, x = kD k := by
  cases x with
  | int i => exact ⟨.inl i, rfl⟩
  | str i => exact ⟨.inr i, rfl⟩
  | tuple xs => cases ht
  | none => cases h
  | bool _ => cases h
  | list _ => cases h
  | dict _ => cases h
theorem kD_inj {a b : Key} : (toKey (kD a) = toKey (kD b)) ↔ a = b := by
  cases a <;> cases b <;> simp [kD, toKey]
theorem kD_key (a : Key) : isKey (kD a) = true := by cases a <;> rfl
theorem kD_tup (a : Key) : isTupD (kD a) = false := by cases a <;> rfl

section
variable {X : Cx} {pins : List (Addr × Obj)} {σ : St} {H : Hp} {s : Shared}
theorem rp_kD {P : Program} {w : World} {K : PySem.W.Frag} {H : Hp} {v : V} {k : Key} (h : Rp P w K H v (kD k)) : v = kV k := by
  cases k with
  | inl i => cases h; rfl
  | inr i => cases h; rfl
mutual
theorem nested_of (I : L2.Inv X pins σ H s) : ∀ (d : PyData) (n : Nat) (v : V) (u : Value), keyB n d = true → Rp X.prog X.w X.K H v d → L2.RelV v u → NestedIs s.heap (toKey d) u
  | .int i, _, _, _, _, h, r => by
    cases h
    obtain ⟨t, rfl⟩ := r
    exact .int i t
  | .str i, _, _, _, _, h, r => by
    cases h
    obtain ⟨t, rfl⟩ := r
    exact .text i t
  | .tuple xs, n, _, _, k, h, r => by
    cases n with
    | zero => cases k
    | succ n =>
      cases h with
      | tup hs ha =>
        cases r
        obtain ⟨its, rv, ⟨o, ho, hc, m, hd⟩, _⟩ := I.tuple hs
        exact .tup ho hc hd (nesteds_of I xs n _ its k ha rv)
  | .none, n, _, _, h, _, _ => by cases n <;> cases h
  | .bool _, n, _, _, h, _, _ => by cases n <;> cases h
  | .list _, n, _, _, h, _, _ => by cases n <;> cases h
  | .dict _, n, _, _, h, _, _ => by cases n <;> cases h
theorem nesteds_of (I : L2.Inv X pins σ H s) : ∀ (ds : List PyData) (n : Nat) (vs : List V) (us : List Value), (ds.all (keyB n)) = true → RpA X.prog X.w X.K H vs ds → Vals vs us → NestedAll s.heap (toKeys ds) us
  | [], _, _, _, _, h, r => by
    cases h
    cases r
    exact .nil
  | d :: ds, n, _, _, k, h, r => by
    rw [List.all_cons, Bool.and_eq_true] at k
    cases h with
    | cons h1 h2 =>
      cases r with
      | cons r1 r2 => exact .cons (nested_of I d n _ _ k.1 h1 r1) (nesteds_of I ds n _ _ k.2 h2 r2)
end
theorem rp_tup_ref {P : Program} {w : World} {K : PySem.W.Frag} {H : Hp} {v : V} {d : PyData} (h : Rp P w K H v d) (ht : isTupD d = true) : ∃ b, v = .ref b := by
  cases h <;> first | exact ⟨_, rfl⟩ | cases ht
theorem key_is (I : L2.Inv X pins σ H s) {d : PyData} {v : V} {b : Addr} (hk : isKey d = true) (h : Rp X.prog X.w X.K H v d) (r : v = .ref b) : (nestedKind X.prog X.w).is s.heap (toKey d) b := by
  subst r
  have := depth_key d 6 hk
  exact ⟨nested_of I d 6 _ _ hk h rfl, by omega⟩

/-! ### entries -/
def entAt (es : List Ent) (d : PyData) : Option V := (es.find? fun e => PyData.eqv e.2.1 d).map (·.2.2)
def putE (y : V) (d : PyData) (v : V) : List Ent → List Ent
  | [] => [(y, d, v)]
  | e :: r => if PyData.eqv e.2.1 d = true then (e.1, e.2.1, v) :: r else e :: putE y d v r
theorem entAt_nil {d : PyData} : entAt [] d = none := rfl
theorem entAt_pos {e : Ent} {es : List Ent} {d : PyData} (h : PyData.eqv e.2.1 d = true) : entAt (e :: es) d = some e.2.2 := by simp [entAt, List.find?_cons, h]
theorem entAt_neg {e : Ent} {es : List Ent} {d : PyData} (h : PyData.eqv e.2.1 d = false) : entAt (e :: es) d = entAt es d := by simp [entAt, List.find?_cons, h]
theorem entAt_any (d : PyData) : ∀ es : List Ent, (entAt es d).isSome = es.any fun e => PyData.eqv e.2.1 d
  | [] => rfl
  | e :: es => by
    cases h : PyData.eqv e.2.1 d with
    | true => rw [entAt_pos h, List.any_cons, h]; rfl
    | false => rw [entAt_neg h, List.any_cons, h, entAt_any d es]; rfl
theorem entAt_at {d : PyData} {e : Ent} : ∀ {es : List Ent} {k : Nat}, es[k]? = some e → PyData.eqv e.2.1 d = true → (∀ (j : Nat) (e' : Ent), j < k → es[j]? = some e' → PyData.eqv e'.2.1 d = false) → entAt es d = some e.2.2
  | [], _, h, _, _ => by simp at h
  | e0 :: es, 0, h, h2, _ => by
    simp at h
    subst h
    exact entAt_pos h2
  | e0 :: es, k + 1, h, h2, h3 => by
    rw [entAt_neg (h3 0 e0 (by omega) rfl)]
    exact entAt_at (k := k) (by simpa using h) h2 fun j e' hj he => h3 (j + 1) e' (by omega) (by simpa using he)
theorem entAt_look {d : PyData} {P : V → Val → Prop} : ∀ {es : List Ent} {kvs : List (PyData × Val)}, es.map (·.2.1) = kvs.map (·.1) → Paired P (es.map (·.2.2)) (kvs.map (·.2)) →
    (look d kvs = none ∧ entAt es d = none) ∨ ∃ v u, look d kvs = some v ∧ entAt es d = some u ∧ P u v
  | [], [], _, _ => .inl ⟨rfl, rfl⟩
  | [], _ :: _, h, _ => by cases h
  | _ :: _, [], h, _ => by cases h
  | e :: es, (k', v') :: kvs, hk, hp => by
    simp only [List.map_cons, List.cons.injEq] at hk
    simp only [List.map_cons] at hp
    cases hp with
    | cons p1 p2 =>
      cases hc : PyData.eqv e.2.1 d with
      | true =>
        refine .inr ⟨v', e.2.2, ?_, entAt_pos hc, p1⟩
        unfold look
        rw [← hk.1, if_pos hc]
      | false =>
        rw [entAt_neg hc]
        have : look d ((k', v') :: kvs) = look d kvs := by
          rw [look, ← hk.1, if_neg (by rw [hc]; exact Bool.false_ne_true)]
        rw [this]
        exact entAt_look hk.2 p2
theorem putE_keys {y v : V} {d : PyData} {w : Val} : ∀ {es : List Ent} {kvs : List (PyData × Val)}, es.map (·.2.1) = kvs.map (·.1) → (putE y d v es).map (·.2.1) = (put d w kvs).map (·.1)
  | [], [], _ => rfl
  | [], _ :: _, h => by cases h
  | _ :: _, [], h => by cases h
  | e :: es, (k', v') :: kvs, h => by
    simp only [List.map_cons, List.cons.injEq] at h
    unfold putE put
    rw [h.1]
    split
    · simp [h.2]
    · rw [List.map_cons, List.map_cons, putE_keys (es := es) h.2, h.1]
theorem putE_vals {y v : V} {d : PyData} {w : Val} {P : V → Val → Prop} (hv : P v w) : ∀ {es : List Ent} {kvs : List (PyData × Val)}, es.map (·.2.1) = kvs.map (·.1) → Paired P (es.map (·.2.2)) (kvs.map (·.2)) → Paired P ((putE y d v es).map (·.2.2)) ((put d w kvs).map (·.2))
  | [], [], _, _ => .cons hv .nil
  | [], _ :: _, h, _ => by cases h
  | _ :: _, [], h, _ => by cases h
  | e :: es, (k', v') :: kvs, h, hp => by
    simp only [List.map_cons, List.cons.injEq] at h
    simp only [List.map_cons] at hp
    cases hp with
    | cons p1 p2 =>
      unfold putE put
      rw [h.1]
      split
      · exact .cons hv p2
      · exact .cons p1 (putE_vals hv h.2 p2)
theorem putE_rpA {P : Program} {w : World} {K : PySem.W.Frag} {Hh : Hp} {y v : V} {d : PyData} (hy : Rp P w K Hh y d) : ∀ {es : List Ent}, RpA P w K Hh (es.map (·.1)) (es.map (·.2.1)) → RpA P w K Hh ((putE y d v es).map (·.1)) ((putE y d v es).map (·.2.1))
  | [], _ => .cons hy .nil
  | e :: es, h => by
    simp only [List.map_cons] at h
    cases h with
    | cons h1 h2 =>
      unfold putE
      split
      · exact .cons h1 h2
      · exact .cons h1 (putE_rpA hy h2)
theorem putE_ne {y v : V} {d : PyData} : ∀ {es : List Ent}, putE y d v es ≠ []
  | [] => by simp [putE]
  | e :: es => by
    unfold putE
    split <;> simp
theorem length_putE {y v : V} {d : PyData} : ∀ {es : List Ent}, (putE y d v es).length ≤ es.length + 1
  | [] => by simp [putE]
  | e :: es => by
    unfold putE
    split
    · simp
    · have := length_putE (y := y) (v := v) (d := d) (es := es)
      simp only [List.length_cons]
      omega

/-! ### the two shapes -/
/-- entries by keys of tuples -/
def RawR (x : Ent) (q : NestedKey × Addr × Value) : Prop := q.1 = toKey x.2.1 ∧ x.1 = .ref q.2.1 ∧ L2.RelV x.2.2 q.2.2 ∧ isTupD x.2.1 = true
/-- entries by ints and texts -/
def MixR (x : Ent) (q : Key × Value) : Prop := x.2.1 = kD q.1 ∧ x.1 = kV q.1 ∧ L2.RelV x.2.2 q.2
theorem kD_eqv {a b : Key} : PyData.eqv (kD a) (kD b) = decide (a = b) := by
  rw [eqv_keyD (kD_key _) (kD_key _)]
  exact decide_eq_decide.mpr kD_inj
theorem valueAt_mix (k : Key) : ∀ {es : List Ent} {vs : List (Key × Value)}, Paired MixR es vs → RelO (entAt es (kD k)) (valueAt vs k)
  | _, _, .nil => True.intro
  | e :: es, x :: vs, .cons h t => by
    obtain ⟨h1, h2, h3⟩ := h
    have hq : PyData.eqv e.2.1 (kD k) = decide (x.1 = k) := by rw [h1, kD_eqv]
    by_cases q : x.1 = k
    · rw [entAt_pos (by rw [hq]; exact decide_eq_true q)]
      have b : valueAt (x :: vs) k = some x.2 := by simp [valueAt, List.find?_cons, q]
      rw [b]
      exact h3
    · rw [entAt_neg (by rw [hq]; exact decide_eq_false q)]
      have b : valueAt (x :: vs) k = valueAt vs k := by simp [valueAt, List.find?_cons, q]
      rw [b]
      exact valueAt_mix k t
theorem stored_rec {κ : Type} [DecidableEq κ] (k : κ) (v : Value) (x : κ × Value) (xs : List (κ × Value)) (h : ((x :: xs).map (·.1)).Nodup) : stored (x :: xs) k v = if x.1 = k then (x.1, v) :: xs else x :: stored xs k v := by
  rw [List.map_cons, List.nodup_cons] at h
  unfold stored
  by_cases e : x.1 = k
  · rw [if_pos e, if_pos (by simp [e]), List.map_cons, if_pos e]
    congr 1
    conv => rhs; rw [← List.map_id xs]
    refine List.map_congr_left fun q hq => ?_
    rw [if_neg]
    · rfl
    · intro z
      exact h.1 (by rw [e, ← z]; exact List.mem_map.mpr ⟨q, hq, rfl⟩)
  · rw [if_neg e, List.any_cons, decide_eq_false e, Bool.false_or]
    split
    · rw [List.map_cons, if_neg e]
    · rfl
theorem put_mix {k : Key} {v : V} {u : Value} (rv : L2.RelV v u) : ∀ {es : List Ent} {vs : List (Key × Value)}, Paired MixR es vs → (vs.map (·.1)).Nodup → Paired MixR (putE (kV k) (kD k) v es) (stored vs k u)
  | [], _, .nil, _ => .cons ⟨rfl, rfl, rv⟩ .nil
  | e :: es, x :: vs, .cons h t, hn => by
    rw [stored_rec _ _ _ _ hn]
    rw [List.map_cons, List.nodup_cons] at hn
    obtain ⟨h1, h2, h3⟩ := h
    have hq : PyData.eqv e.2.1 (kD k) = decide (x.1 = k) := by rw [h1, kD_eqv]
    unfold putE
    rw [hq]
    by_cases q : x.1 = k
    · rw [if_pos (decide_eq_true q), if_pos q]
      exact .cons ⟨h1, h2, rv⟩ t
    · rw [if_neg (by simpa using q), if_neg q]
      exact .cons ⟨h1, h2, h3⟩ (put_mix rv t hn.2)
theorem atKey_raw {d : PyData} (hd : isKey d = true) : ∀ {es : List Ent} {xs : List (NestedKey × Addr × Value)}, Paired RawR es xs → (es.all fun e => keyFit d e.2.1) = true → RelO (entAt es d) ((atKey xs (toKey d)).map (·.2))
  | [], _, .nil, _ => True.intro
  | e :: es, x :: xs, .cons h t, hk => by
    rw [List.all_cons, Bool.and_eq_true] at hk
    obtain ⟨h1, h2, h3, h4⟩ := h
    have hkf := hk.1
    unfold keyFit at hkf
    rw [Bool.and_eq_true] at hkf
    have hq : PyData.eqv e.2.1 d = decide (x.1 = toKey d) := by rw [eqv_keyD hkf.1 hd, h1]
    by_cases q : x.1 = toKey d
    · rw [entAt_pos (by rw [hq]; exact decide_eq_true q)]
      have b : atKey (x :: xs) (toKey d) = some x.2 := by simp [atKey, List.find?_cons, q]
      rw [b]
      exact h3
    · rw [entAt_neg (by rw [hq]; exact decide_eq_false q)]
      have b : atKey (x :: xs) (toKey d) = atKey xs (toKey d) := by simp [atKey, List.find?_cons, q]
      rw [b]
      exact atKey_raw hd t hk.2
theorem storedH_rec {κ : Type} [DecidableEq κ] (k : κ) (a : Addr) (v : Value) (x : κ × Addr × Value) (xs : List (κ × Addr × Value)) (h : ((x :: xs).map (·.1)).Nodup) : storedH (x :: xs) k a v = if x.1 = k then (x.1, x.2.1, v) :: xs else x :: storedH xs k a v := by
  rw [List.map_cons, List.nodup_cons] at h
  by_cases e : x.1 = k
  · rw [if_pos e]
    have b : atKey (x :: xs) k = some x.2 := by simp [atKey, List.find?_cons, e]
    rw [storedH_old b, List.map_cons, putAt, if_pos e]
    congr 1
    conv => rhs; rw [← List.map_id xs]
    refine List.map_congr_left fun q hq => ?_
    rw [putAt, if_neg]
    · rfl
    · intro z
      exact h.1 (by rw [e, ← z]; exact List.mem_map.mpr ⟨q, hq, rfl⟩)
  · rw [if_neg e]
    have b : atKey (x :: xs) k = atKey xs k := by simp [atKey, List.find?_cons, e]
    cases c : atKey xs k with
    | none => rw [storedH_new (by rw [b, c]), storedH_new c]; rfl
    | some p => rw [storedH_old (by rw [b, c]), storedH_old c, List.map_cons, putAt, if_neg e]
theorem put_raw {d : PyData} {y v : V} {b : Addr} {u : Value} (hd : isKey d = true) (hy : y = .ref b) (ht : isTupD d = true) (rv : L2.RelV v u) : ∀ {es : List Ent} {xs : List (NestedKey × Addr × Value)}, Paired RawR es xs → (xs.map (·.1)).Nodup → (es.all fun e => keyFit d e.2.1) = true →
    Paired RawR (putE y d v es) (storedH xs (toKey d) b u)
  | [], _, .nil, _, _ => .cons ⟨rfl, hy, rv, ht⟩ .nil
  | e :: es, x :: xs, .cons h t, hn, hk => by
    rw [List.all_cons, Bool.and_eq_true] at hk
    rw [storedH_rec _ _ _ _ _ hn]
    rw [List.map_cons, List.nodup_cons] at hn
    obtain ⟨h1, h2, h3, h4⟩ := h
    have hkf := hk.1
    unfold keyFit at hkf
    rw [Bool.and_eq_true] at hkf
    have hq : PyData.eqv e.2.1 d = decide (x.1 = toKey d) := by rw [eqv_keyD hkf.1 hd, h1]
    unfold putE
    rw [hq]
    by_cases q : x.1 = toKey d
    · rw [if_pos (decide_eq_true q), if_pos q]
      exact .cons ⟨h1, h2, rv, h4⟩ t
    · rw [if_neg (by simpa using q), if_neg q]
      exact .cons ⟨h1, h2, h3, h4⟩ (put_raw hd hy ht rv t hn.2 hk.2)

/-- a dict, for a key -/
inductive DView (X : Cx) (H : Hp) (s : Shared) (p : Addr) (es : List Ent) (y : V) (d : PyData) : Prop
  | mix (vs : List (Key × Value)) (k : Key) : Mut (H p) → y = kV k → d = kD k → (p == sysModules) = false → s.heap.DictOf (mixKind X.prog X.w) p vs → Paired MixR es vs → DView X H s p es y d
  | raw (xs : List (NestedKey × Addr × Value)) (b : Addr) : Mut (H p) → y = .ref b → isTupD d = true → (nestedKind X.prog X.w).is s.heap (toKey d) b → (p == sysModules) = false → s.heap.DictOfH (nestedKind X.prog X.w) p xs → Paired RawR es xs → DView X H s p es y d
theorem raw_xs {w : World} : ∀ {ents : List DictEntry} {es : List Ent}, Paired (EntR w) ents es → ∀ {P : Program} {K : PySem.W.Frag} {H : Hp}, RpA P w K H (es.map (·.1)) (es.map (·.2.1)) → (es.all fun e => isTupD e.2.1) = true →
    ∃ xs : List (NestedKey × Addr × Value), ents = xs.map (entryOfKey (nestedKind P w)) ∧ Paired RawR es xs
  | _, _, .nil, _, _, _, _, _ => ⟨[], rfl, .nil⟩
  | e :: ents, x :: es, .cons h t, P, K, H, hp, ht => by
    rw [List.all_cons, Bool.and_eq_true] at ht
    simp only [List.map_cons] at hp
    cases hp with
    | cons p1 p2 =>
      obtain ⟨h1, h2, h3⟩ := h
      obtain ⟨b, hb⟩ := rp_tup_ref p1 ht.1
      obtain ⟨xs, e1, e2⟩ := raw_xs t p2 ht.2
      refine ⟨(toKey x.2.1, b, e.val) :: xs, ?_, .cons ⟨rfl, hb, h3, ht.1⟩ e2⟩
      rw [List.map_cons, ← e1]
      congr 1
      rw [hb] at h1
      have h1' : e.key = .ref b := h1
      cases e
      unfold entryOfKey
      simp only at h1' h2 ⊢
      rw [h1', h2]
      rfl
theorem kD_hash (w : World) (k : Key) : (toKey (kD k)).hash w = keyH w k := by cases k <;> rfl
theorem mix_vs {w : World} : ∀ {ents : List DictEntry} {es : List Ent}, Paired (EntR w) ents es → ∀ {P : Program} {K : PySem.W.Frag} {H : Hp}, RpA P w K H (es.map (·.1)) (es.map (·.2.1)) → (es.all fun e => isKey e.2.1 && !isTupD e.2.1) = true →
    ∃ vs : List (Key × Value), Pairs (mixKind P w) ents vs ∧ (∀ e ∈ ents, ∃ k, (mixKind P w).is k e.key = true ∧ e.hash = (mixKind P w).hash k) ∧ Paired MixR es vs
  | _, _, .nil, _, _, _, _, _ => ⟨[], .nil, (fun e h => by cases h), .nil⟩
  | e :: ents, x :: es, .cons h t, P, K, H, hp, ht => by
    rw [List.all_cons, Bool.and_eq_true, Bool.and_eq_true] at ht
    simp only [List.map_cons] at hp
    cases hp with
    | cons p1 p2 =>
      obtain ⟨h1, h2, h3⟩ := h
      obtain ⟨vs, e1, e2, e3⟩ := mix_vs t p2 ht.2
      obtain ⟨k, hk⟩ := mix_key ht.1.1 (by simpa using ht.1.2)
      rw [hk] at p1
      have hy := rp_kD p1
      rw [hy] at h1
      have hi : (mixKind P w).is k e.key = true := kV_is h1
      have hh : e.hash = (mixKind P w).hash k := by rw [h2, hk, kD_hash]; rfl
      refine ⟨(k, e.val) :: vs, .cons hi rfl e1, fun q hq => ?_, .cons ⟨hk, hy, h3⟩ e3⟩
      rcases List.mem_cons.mp hq with z | z
      · rw [z]; exact ⟨k, hi, hh⟩
      · exact e2 q z
theorem raw_keys {es : List Ent} {xs : List (NestedKey × Addr × Value)} (h : Paired RawR es xs) : xs.map (·.1) = es.map fun x => toKey x.2.1 := by
  induction h with
  | nil => rfl
  | cons h t ih => rw [List.map_cons, List.map_cons, ih, h.1]
theorem mix_keys {es : List Ent} {vs : List (Key × Value)} (h : Paired MixR es vs) : (es.map fun x => toKey x.2.1) = vs.map fun q => toKey (kD q.1) := by
  induction h with
  | nil => rfl
  | cons h t ih => rw [List.map_cons, List.map_cons, ih, h.1]
theorem toKey_nodup {vs : List (Key × Value)} : (vs.map fun q => toKey (kD q.1)).Nodup ↔ (vs.map (·.1)).Nodup := by
  induction vs with
  | nil => simp
  | cons v vs ih =>
    simp only [List.map_cons, List.nodup_cons, ih]
    refine and_congr_left fun _ => not_congr ?_
    simp only [List.mem_map]
    constructor
    · rintro ⟨q, h1, h2⟩
      exact ⟨q, h1, kD_inj.mp h2⟩
    · rintro ⟨q, h1, h2⟩
      exact ⟨q, h1, by rw [h2]⟩
theorem raw_is (I : L2.Inv X pins σ H s) : ∀ {es : List Ent} {xs : List (NestedKey × Addr × Value)}, Paired RawR es xs → RpA X.prog X.w X.K H (es.map (·.1)) (es.map (·.2.1)) → (es.all fun e => isKey e.2.1) = true → ∀ x ∈ xs, (nestedKind X.prog X.w).is s.heap x.1 x.2.1
  | _, _, .nil, _, _ => fun x hx => nomatch hx
  | e :: es, x :: xs, .cons h t, hp, hk => by
    rw [List.all_cons, Bool.and_eq_true] at hk
    simp only [List.map_cons] at hp
    cases hp with
    | cons p1 p2 =>
      intro q hq
      rcases List.mem_cons.mp hq with z | z
      · subst z
        rw [h.1]
        exact key_is I hk.1 p1 h.2.1
      · exact raw_is I t p2 hk.2 q z
theorem dct_view (I : L2.Inv X pins σ H s) {p : Addr} {es : List Ent} {y : V} {d : PyData} (h : DcA X.w H p es) (hp : RpA X.prog X.w X.K H (es.map (·.1)) (es.map (·.2.1))) (hy : Rp X.prog X.w X.K H y d) (hk : isKey d = true) (hks : (es.all fun e => keyFit d e.2.1) = true) : DView X H s p es y d := by
  obtain ⟨o, ents, ep, h, h1, h2, h3, h4, h5, h6, h7⟩ := h
  have hx : s.heap.get? p = some o := (I.hok p _ h).1
  have mu : Mut (H p) := by rw [h]; exact True.intro
  by_cases ht : isTupD d = true
  · have ht' : (es.all fun e => isTupD e.2.1) = true := by
      rw [List.all_eq_true] at hks ⊢
      intro z hz
      have := hks z hz
      unfold keyFit at this
      rw [Bool.and_eq_true, ht] at this
      simpa using this.2
    obtain ⟨xs, e1, e2⟩ := raw_xs h4 hp ht'
    obtain ⟨b, hb⟩ := rp_tup_ref hy ht
    refine .raw xs b mu hb ht (key_is I hk hy hb) h3 ⟨o, ents, ep, hx, h1, h2, e1, raw_is I e2 hp h6, ?_⟩ e2
    rw [raw_keys e2]
    exact h5
  · have ht0 : isTupD d = false := by simpa using ht
    have ht' : (es.all fun e => isKey e.2.1 && !isTupD e.2.1) = true := by
      rw [List.all_eq_true] at hks ⊢
      intro z hz
      have := hks z hz
      unfold keyFit at this
      rw [Bool.and_eq_true, ht0] at this
      rw [Bool.and_eq_true]
      exact ⟨this.1, by simpa using this.2⟩
    obtain ⟨vs, e1, e2, e3⟩ := mix_vs h4 hp ht'
    obtain ⟨k, rfl⟩ := mix_key hk ht0
    refine .mix vs k mu (rp_kD hy) rfl h3 ⟨o, ents, ep, hx, h1, h2, fun e he => e2 e (Array.mem_toList_iff.mpr he), e1, ?_⟩ e3
    rw [← toKey_nodup, ← mix_keys e3]
    exact h5
theorem room_nested {P : Program} {w : World} {A : Around} (h : A.units + 9 < cLine) : (nestedKind P w).room A.in1 := by
  show A.in1.units + 8 < cLine
  have : A.in1.units ≤ A.units + 1 := by first | exact Nat.le_refl _ | (simp [Around.in1, Around.units])
  omega

/-! ### the operations -/
variable {E : Value → Shared → Prop} {p : Addr} {es : List Ent} {y : V} {d : PyData} {u : Value}
theorem rel_ref {b : Addr} {u : Value} (r : L2.RelV (.ref b) u) : u = .ref b := r
theorem raw_in {A : Around} {Q : Value → Shared → Prop} (hu : A.units + 9 < cLine) (I : L2.Inv X pins σ H s) (g : DView X H s p es y d) (hd : isKey d = true) (hks : (es.all fun e => keyFit d e.2.1) = true) (ry : L2.RelV y u) (h : ∀ s', L2.Inv X pins σ H s' → Q (.bool (es.any fun e => PyData.eqv e.2.1 d)) s') :
    wpAny (model X.prog X.w) A (compareOp .In u (.ref p)) Q E s := by
  rw [← entAt_any] at h
  cases g with
  | mix vs k mu e1 e2 hp dd rel =>
    subst e1 e2
    refine wpAny_in_of (kV_is ry) hp dd.mapOf ?_
    rw [← (valueAt_mix k rel).isSome_eq]
    exact h _ (I.tok _)
  | raw xs b mu e1 ht ki hp dd rel =>
    subst e1
    obtain rfl := rel_ref ry
    refine wpAny_in_heap (room_nested hu) ki hp dd ?_
    have := (atKey_raw hd rel hks).isSome_eq
    rw [Option.isSome_map] at this
    rw [← this]
    exact h _ (I.tok _)
theorem raw_nin {A : Around} {Q : Value → Shared → Prop} (hu : A.units + 9 < cLine) (I : L2.Inv X pins σ H s) (g : DView X H s p es y d) (hd : isKey d = true) (hks : (es.all fun e => keyFit d e.2.1) = true) (ry : L2.RelV y u) (h : ∀ s', L2.Inv X pins σ H s' → Q (.bool (!es.any fun e => PyData.eqv e.2.1 d)) s') :
    wpAny (model X.prog X.w) A (compareOp .NotIn u (.ref p)) Q E s := by
  rw [← entAt_any] at h
  cases g with
  | mix vs k mu e1 e2 hp dd rel =>
    subst e1 e2
    refine wpAny_notIn_of (kV_is ry) hp dd.mapOf ?_
    rw [← (valueAt_mix k rel).isSome_eq]
    exact h _ (I.tok _)
  | raw xs b mu e1 ht ki hp dd rel =>
    subst e1
    obtain rfl := rel_ref ry
    refine wpAny_notIn_heap (room_nested hu) ki hp dd ?_
    have := (atKey_raw hd rel hks).isSome_eq
    rw [Option.isSome_map] at this
    rw [← this]
    exact h _ (I.tok _)
theorem raw_getItem {A : Around} {Q : Value → Shared → Prop} {v : V} (hu : A.units + 9 < cLine) (I : L2.Inv X pins σ H s) (g : DView X H s p es y d) (hd : isKey d = true) (hks : (es.all fun e => keyFit d e.2.1) = true) (ry : L2.RelV y u) (hv : entAt es d = some v) (h : ∀ w' s', L2.Inv X pins σ H s' → L2.RelV v w' → Q w' s') :
    wpAny (model X.prog X.w) A (getItem (.ref p) u) Q E s := by
  cases g with
  | mix vs k mu e1 e2 hp dd rel =>
    subst e1 e2
    obtain ⟨w', hw, rw'⟩ := RelO.some_of (by rw [← hv]; exact valueAt_mix k rel)
    exact wpAny_getItem_of (kV_is ry) dd.mapOf hw (h w' _ (I.tok _) rw')
  | raw xs b mu e1 ht ki hp dd rel =>
    subst e1
    obtain rfl := rel_ref ry
    have q := atKey_raw hd rel hks
    rw [hv] at q
    obtain ⟨w', hw, rw'⟩ := RelO.some_of q
    obtain ⟨z, hz, hz2⟩ := Option.map_eq_some_iff.mp hw
    refine wpAny_getItem_heap (room_nested hu) ki dd hz ?_
    rw [hz2]
    exact h w' _ (I.tok _) rw'
theorem raw_get {A : Around} {Q : Value → Shared → Prop} {x : V} {r : Value} (hu : A.units + 9 < cLine) (I : L2.Inv X pins σ H s) (g : DView X H s p es y d) (hd : isKey d = true) (hks : (es.all fun e => keyFit d e.2.1) = true) (ry : L2.RelV y u) (rx : L2.RelV x r) (h : ∀ w' s', L2.Inv X pins σ H s' → L2.RelV ((entAt es d).getD x) w' → Q w' s') :
    wpAny (model X.prog X.w) A (call (.builtin "dict.get") [.ref p, u, r]) Q E s := by
  cases g with
  | mix vs k mu e1 e2 hp dd rel =>
    subst e1 e2
    exact call_meetsIn PySem.F.slot_dict_get dd.typeIs PySem.F.entry_dict_get (PySem.F.args_dict_get_3 _ _ _) (meets_dict_get_default (mixKind X.prog X.w) p (kV_is ry) hp r) ⟨_, dd.mapOf, h _ _ (I.tok _) ((valueAt_mix k rel).getD rx)⟩
  | raw xs b mu e1 ht ki hp dd rel =>
    subst e1
    obtain rfl := rel_ref ry
    refine call_meetsIn PySem.F.slot_dict_get dd.typeIs PySem.F.entry_dict_get (PySem.F.args_dict_get_3 _ _ _) (meetsH_dict_get_default (nestedKind X.prog X.w) p b hp r) ⟨room_nested hu, _, xs, ki, dd, h _ _ (I.tok _) ?_⟩
    exact (atKey_raw hd rel hks).getD rx
/-- the object behind a store -/
theorem raw_ent {w : World} {P : Program} : ∀ {es : List Ent} {xs : List (NestedKey × Addr × Value)}, Paired RawR es xs → Paired (EntR w) (xs.map (entryOfKey (nestedKind P w))) es
  | _, _, .nil => .nil
  | e :: es, x :: xs, .cons h t => by
    obtain ⟨h1, h2, h3, h4⟩ := h
    refine .cons ⟨by rw [h2]; exact rfl, ?_, h3⟩ (raw_ent t)
    rw [← h1]
    rfl
theorem raw_new {h' : Heap} {t' : Nat} {xs : List (NestedKey × Addr × Value)} (I : L2.Inv X pins σ H s) (mu : Mut (H p)) (hs : Heap.SameBut p s.heap h') (hp : (p == sysModules) = false) (dd : h'.DictOfH (nestedKind X.prog X.w) p xs) (rel : Paired RawR es xs) (hall : (es.all fun x => isKey x.2.1) = true) (hz : es.length ≤ sizeLine) :
    ∃ o : Obj, L2.Inv X pins σ (upd H p (rawO p o)) { s with heap := h', toks := t' } ∧ ∀ H' : Hp, H' p = some (rawO p o) → DcA X.w H' p es := by
  obtain ⟨o, ents, ep, h1, h2, h3, h4, h5, h6⟩ := dd
  refine ⟨o, d_write I mu hs ⟨o, h1⟩ ⟨h1, ⟨o, h1⟩, fun g g' q k => k _ q⟩, fun H' e => ⟨o, ents, ep, e, h2, h3, hp, ?_, ?_, hall, hz⟩⟩
  · rw [h4]
    exact raw_ent rel
  · rw [← raw_keys rel]
    exact h6
theorem mix_ent {w : World} {P : Program} : ∀ {ents : List DictEntry} {vs : List (Key × Value)}, Pairs (mixKind P w) ents vs → (∀ e ∈ ents, ∃ k, (mixKind P w).is k e.key = true ∧ e.hash = (mixKind P w).hash k) → ∀ {es : List Ent}, Paired MixR es vs → Paired (EntR w) ents es
  | _, _, .nil, _, _, h => by cases h; exact .nil
  | e :: ents, v :: vs, .cons h1 h2 t, hk, es, h => by
    cases h with
    | @cons x _ es' _ hx ht =>
      obtain ⟨q1, q2, q3⟩ := hx
      refine .cons ⟨?_, ?_, by rw [h2]; exact q3⟩ (mix_ent t (fun e he => hk e (List.mem_cons_of_mem _ he)) ht)
      · rw [q2]
        exact relV_key h1
      · obtain ⟨k, k1, k2⟩ := hk e (List.mem_cons_self ..)
        have : k = v.1 := (mixKind P w).inj _ _ _ k1 h1
        rw [k2, this, q1, kD_hash]
        rfl
theorem mix_new {h' : Heap} {t' : Nat} {vs : List (Key × Value)} (I : L2.Inv X pins σ H s) (mu : Mut (H p)) (hs : Heap.SameBut p s.heap h') (hp : (p == sysModules) = false) (dd : h'.DictOf (mixKind X.prog X.w) p vs) (rel : Paired MixR es vs) (hall : (es.all fun x => isKey x.2.1) = true) (hz : es.length ≤ sizeLine) :
    ∃ o : Obj, L2.Inv X pins σ (upd H p (rawO p o)) { s with heap := h', toks := t' } ∧ ∀ H' : Hp, H' p = some (rawO p o) → DcA X.w H' p es := by
  obtain ⟨o, ents, ep, h1, h2, h3, h4, h5, h6⟩ := dd
  refine ⟨o, d_write I mu hs ⟨o, h1⟩ ⟨h1, ⟨o, h1⟩, fun g g' q k => k _ q⟩, fun H' e => ⟨o, ents, ep, e, h2, h3, hp, ?_, ?_, hall, hz⟩⟩
  · exact mix_ent h5 (fun e he => h4 e (Array.mem_toList_iff.mp he)) rel
  · rw [mix_keys rel, toKey_nodup]
    exact h6
theorem raw_len {xs : List (NestedKey × Addr × Value)} (h : Paired RawR es xs) : xs.length = es.length := (Paired.length h).symm
theorem mix_len {xs : List (Key × Value)} (h : Paired MixR es xs) : xs.length = es.length := (Paired.length h).symm
theorem fit_all (hks : (es.all fun e => keyFit d e.2.1) = true) : (es.all fun x => isKey x.2.1) = true := by
  rw [List.all_eq_true] at hks ⊢
  intro z hz
  have := hks z hz
  unfold keyFit at this
  rw [Bool.and_eq_true] at this
  exact this.1
theorem putE_all {v : V} (hd : isKey d = true) : ∀ {es : List Ent}, (es.all fun x => isKey x.2.1) = true → ((putE y d v es).all fun x => isKey x.2.1) = true
  | [], _ => by simp [putE, hd]
  | e :: es, h => by
    rw [List.all_cons, Bool.and_eq_true] at h
    unfold putE
    split
    · rw [List.all_cons, Bool.and_eq_true]
      exact h
    · rw [List.all_cons, Bool.and_eq_true]
      exact ⟨h.1, putE_all hd h.2⟩
theorem dictOf_nodup {P : Program} {w : World} {h : Heap} {vs : List (Key × Value)} (dd : h.DictOf (mixKind P w) p vs) : (vs.map (·.1)).Nodup := by
  obtain ⟨_, _, _, _, _, _, _, _, q⟩ := dd
  exact q
theorem dictOfH_nodup {P : Program} {w : World} {h : Heap} {vs : List (NestedKey × Addr × Value)} (dd : h.DictOfH (nestedKind P w) p vs) : (vs.map (·.1)).Nodup := by
  obtain ⟨_, _, _, _, _, _, _, _, q⟩ := dd
  exact q
/-- d[y] = v -/
theorem raw_setItem {A : Around} {Q : Unit → Shared → Prop} {v : V} {r : Value} (hu : A.units + 9 < cLine) (I : L2.Inv X pins σ H s) (g : DView X H s p es y d) (hd : isKey d = true) (hks : (es.all fun e => keyFit d e.2.1) = true) (hz : es.length < sizeLine) (ry : L2.RelV y u) (rv : L2.RelV v r)
    (h : ∀ (o : Obj) s', L2.Inv X pins σ (upd H p (rawO p o)) s' → (∀ H' : Hp, H' p = some (rawO p o) → DcA X.w H' p (putE y d v es)) → Q () s') :
    wpAny (model X.prog X.w) A (setItem (.ref p) u r) Q E s := by
  cases g with
  | mix vs k mu e1 e2 hp dd rel =>
    subst e1 e2
    refine wpAny_setItem_pairs (hsz := by rw [mix_len rel]; omega) (kV_is ry) dd fun h' dd' hs => ?_
    obtain ⟨o, I', q⟩ := mix_new I mu hs hp dd' (put_mix rv rel (dictOf_nodup dd)) (putE_all hd (fit_all hks)) (Nat.le_trans length_putE hz)
    exact h _ _ I' q
  | raw xs b mu e1 ht ki hp dd rel =>
    subst e1
    obtain rfl := rel_ref ry
    refine wpAny_setItem_heap (hsz := by rw [raw_len rel]; omega) (room_nested hu) ki dd fun h' dd' hs => ?_
    obtain ⟨o, I', q⟩ := raw_new I mu hs hp dd' (put_raw hd rfl ht rv rel (dictOfH_nodup dd) hks) (putE_all hd (fit_all hks)) (Nat.le_trans length_putE hz)
    exact h _ _ I' q
/-- d.setdefault(y, v) -/
theorem raw_setdefault {A : Around} {Q : Value → Shared → Prop} {v : V} {r : Value} (hu : A.units + 9 < cLine) (I : L2.Inv X pins σ H s) (g : DView X H s p es y d) (hd : isKey d = true) (hks : (es.all fun e => keyFit d e.2.1) = true) (hz : es.length < sizeLine) (ry : L2.RelV y u) (rv : L2.RelV v r)
    (h1 : ∀ v' w' s', entAt es d = some v' → L2.Inv X pins σ H s' → L2.RelV v' w' → Q w' s')
    (h2 : entAt es d = none → ∀ (o : Obj) s', L2.Inv X pins σ (upd H p (rawO p o)) s' → (∀ H' : Hp, H' p = some (rawO p o) → DcA X.w H' p (putE y d v es)) → Q r s') :
    wpAny (model X.prog X.w) A (call (.builtin "dict.setdefault") [.ref p, u, r]) Q E s := by
  cases g with
  | mix vs k mu e1 e2 hp dd rel =>
    subst e1 e2
    have hr := valueAt_mix k rel
    refine call_meetsIn PySem.F.slot_dict_setdefault dd.typeIs PySem.F.entry_dict_setdefault (PySem.F.args_dict_setdefault_3 _ _ _) (kt_meets_setdefault (mixKind X.prog X.w) p (kV_is ry) hp r) ⟨vs, dd, by rw [mix_len rel]; omega, fun v' hv => ?_, fun hn h' dd' hs => ?_⟩
    · rw [hv] at hr
      cases hq : entAt es (kD k) with
      | none => rw [hq] at hr; exact hr.elim
      | some v'' => rw [hq] at hr; exact h1 v'' v' _ hq (I.tok _) hr
    · rw [hn] at hr
      cases hq : entAt es (kD k) with
      | some v'' => rw [hq] at hr; exact hr.elim
      | none =>
        obtain ⟨o, I', z⟩ := mix_new I mu hs hp dd' (put_mix rv rel (dictOf_nodup dd)) (putE_all hd (fit_all hks)) (Nat.le_trans length_putE hz)
        exact h2 hq _ _ I' z
  | raw xs b mu e1 ht ki hp dd rel =>
    subst e1
    obtain rfl := rel_ref ry
    have q := atKey_raw hd rel hks
    refine call_setdefault_heap (hsz := by rw [raw_len rel]; omega) (room_nested hu) ki hp dd (fun z hz => ?_) fun hn' h' dd' hs => ?_
    · rw [hz] at q
      cases hq : entAt es d with
      | none => rw [hq] at q; exact q.elim
      | some v' => rw [hq] at q; exact h1 v' _ _ hq (I.tok _) q
    · rw [hn'] at q
      cases hq : entAt es d with
      | some v' => rw [hq] at q; exact q.elim
      | none =>
        obtain ⟨o, I', z⟩ := raw_new I mu hs hp dd' (put_raw hd rfl ht rv rel (dictOfH_nodup dd) hks) (putE_all hd (fit_all hks)) (Nat.le_trans length_putE hz)
        exact h2 hq _ _ I' z
theorem dview_type (I : L2.Inv X pins σ H s) (g : DView X H s p es y d) : s.TypeIs (.ref p) "dict" := by
  cases g with
  | mix vs k mu e1 e2 hp dd rel => exact dd.typeIs
  | raw xs b mu e1 ht ki hp dd rel => exact dd.typeIs
/-- the object itself -/
theorem dct_obj (I : L2.Inv X pins σ H s) (h : DcA X.w H p es) : ∃ (o : Obj) (ents : Array DictEntry) (ep : Nat), H p = some (rawO p o) ∧ s.heap.get? p = some o ∧ o.ExactDict ∧ o.data = .dict ents ep ∧ (p == sysModules) = false ∧ Paired (EntR X.w) ents.toList es ∧ ents.size = es.length ∧ es.length ≤ sizeLine := by
  obtain ⟨o, ents, ep, h, h1, h2, h3, h4, h5, h6, h7⟩ := h
  exact ⟨o, ents, ep, h, (I.hok p _ h).1, h1, h2, h3, h4, by rw [← Array.length_toList]; exact Paired.length h4, h7⟩
/-- a new dict -/
theorem dct_empty (I : L2.Inv X pins σ (upd H p (.dK [])) s) : ∃ o : Obj, L2.Inv X pins σ (upd H p (rawO p o)) s ∧ ∀ H' : Hp, H' p = some (rawO p o) → DcA X.w H' p [] := by
  obtain ⟨z, hd, vs, rel, dd⟩ := dk_rd I.hok (.inl (by exact upd_same))
  cases rel
  have mu : Mut (upd H p (.dK []) p) := by rw [upd_same]; exact True.intro
  obtain ⟨o, ents, ep, h1, h2, h3, h4, h5, h6⟩ := dd
  have e0 : ents.toList = [] := by
    cases hq : ents.toList with
    | nil => rfl
    | cons a r => rw [hq] at h5; cases h5
  have J := d_write (h' := s.heap) (t' := s.toks) I mu (ob := rawO p o) ⟨rfl, fun b hb => rfl⟩ ⟨o, h1⟩ ⟨h1, ⟨o, h1⟩, fun g g' q k => k _ q⟩
  rw [upd_upd] at J
  exact ⟨o, J, fun H' e => ⟨o, ents, ep, e, h2, h3, hd, by rw [e0]; exact .nil, List.nodup_nil, rfl, Nat.zero_le _⟩⟩
/-- dictSet, as a display and a comprehension make it -/
theorem raw_dictSet {A : Around} {Q : Unit → Shared → Prop} {v : V} {r : Value} (hu : A.units + 9 < cLine) (I : L2.Inv X pins σ H s) (g : DView X H s p es y d) (hd : isKey d = true) (hks : (es.all fun e => keyFit d e.2.1) = true) (hz : es.length < sizeLine) (ry : L2.RelV y u) (rv : L2.RelV v r)
    (h : ∀ (o : Obj) s', L2.Inv X pins σ (upd H p (rawO p o)) s' → (∀ H' : Hp, H' p = some (rawO p o) → DcA X.w H' p (putE y d v es)) → Q () s') :
    wpAny (model X.prog X.w) A (dictSet p u r) Q E s := by
  cases g with
  | mix vs k mu e1 e2 hp dd rel =>
    subst e1 e2
    refine wpAny_dictSet_pairs (hsz := by rw [mix_len rel]; omega) (kV_is ry) dd fun h' dd' hs => ?_
    obtain ⟨o, I', q⟩ := mix_new I mu hs hp dd' (put_mix rv rel (dictOf_nodup dd)) (putE_all hd (fit_all hks)) (Nat.le_trans length_putE hz)
    exact h _ _ I' q
  | raw xs b mu e1 ht ki hp dd rel =>
    subst e1
    obtain rfl := rel_ref ry
    refine wpAny_dictSet_heap (hsz := by rw [raw_len rel]; omega) (by have := room_nested (P := X.prog) (w := X.w) hu; show A.units + 8 < cLine; omega) ki dd fun h' dd' hs => ?_
    obtain ⟨o, I', q⟩ := raw_new I mu hs hp dd' (put_raw hd rfl ht rv rel (dictOfH_nodup dd) hks) (putE_all hd (fit_all hks)) (Nat.le_trans length_putE hz)
    exact h _ _ I' q
end

/-! ### an object under way: hidden, then one's own -/
section
variable {W : Wd} {A B : Addr → Prop} {f : List Addr} {s : MS} {σ : St} {H : Hp}
/-- p is hidden too -/
def plusA (A : Addr → Prop) (p : Addr) : Addr → Prop := fun b => A b ∨ b = p
theorem hid_sub_of {os : List MO} (h : ∀ b, A b → B b) : Same (hid B f os H) (hid A f os H) := fun b o e => by
  obtain ⟨h1, h2, h3, h4⟩ := hid_of e
  exact hid_at h1 (fun z => h2 (h b z)) h3 h4
/-- less is hidden -/
theorem R.less (r : R W B f s σ H) (h : ∀ b, A b → B b) : R W A f s σ H := by
  have hs : Same (hid B f s.objs H) (hid A f s.objs H) := hid_sub_of h
  refine ⟨r.len, r.nd, fun b hb => r.hA b (h b hb), fun b hb z => r.disj b hb (h b z), fun n o a h1 h2 => ?_, fun i v hi => ?_, r.elen, r.tabs⟩
  · exact (r.obj n o a h1 h2).mono (fun u v z => RepV.mono hs ⟨[], by simp⟩ u v z) hs rfl
  · obtain ⟨u, h1, h2⟩ := r.env i v hi
    exact ⟨u, h1, RepV.mono hs ⟨[], by simp⟩ u v h2⟩
theorem hid_plus {os : List MO} {p : Addr} {o : HO} (h : H p = none) : hid (plusA A p) f os (upd H p o) = hid A f os H := by
  funext b
  by_cases e : b = p
  · subst e
    have h1 : hid A f os H b = none := by
      cases q : hid A f os H b with
      | none => rfl
      | some u => rw [(hid_of q).1] at h; cases h
    rw [h1]
    unfold hid
    rw [if_pos (.inl (.inr rfl))]
  · unfold hid
    rw [upd_ne e]
    have : plusA A p b ↔ A b := ⟨fun z => z.elim id fun q => absurd q e, .inl⟩
    rw [this]
/-- a new object, hidden -/
theorem R.hide {p : Addr} {o : HO} (r : R W A f s σ H) (h : H p = none) (no : NoTbl o ∧ ∀ q, o ≠ LamX.CodeO p q) : R W (plusA A p) f s σ (upd H p o) := by
  have np : p ∉ f := fun z => r.at_ z h
  refine ⟨r.len, r.nd, fun b hb => ?_, fun b hb z => ?_, fun n u a h1 h2 => ?_, fun i v hi => ?_, r.elen, r.tabs.ext (same_upd h)⟩
  · rcases hb with z | z
    · rw [upd_ne fun e => r.nA h (by rw [← e]; exact z)]
      exact r.hA b z
    · exact ⟨o, by rw [z, upd_same], by rw [z]; exact no⟩
  · rcases z with z | z
    · exact r.disj b hb z
    · exact np (z ▸ hb)
  · rw [hid_plus h]
    exact (r.obj n u a h1 h2).mono (fun u v z => z) (fun _ _ e => e) (upd_ne fun e => np (e ▸ List.mem_of_getElem? h2))
  · obtain ⟨u, h1, h2⟩ := r.env i v hi
    exact ⟨u, h1, by rw [hid_plus h]; exact h2⟩
theorem hid_claim {os : List MO} {p : Addr} {o : HO} {mo : MO} (hl : f.length = os.length) (nt : ∀ u, H p = some u → NoTbl u) : Same (hid (plusA A p) f os H) (hid A (f ++ [p]) (os ++ [mo]) (upd H p o)) := fun b u e => by
  obtain ⟨h1, h2, h3, h4⟩ := hid_of e
  have hne : b ≠ p := fun z => h2 (.inr z)
  refine hid_at (by rw [upd_ne hne]; exact h1) (fun z => h2 (.inl z)) (fun ⟨n, mo', q1, q2, q3⟩ => ?_) h4
  by_cases hn : n < f.length
  · rw [List.getElem?_append_left hn] at q1
    rw [List.getElem?_append_left (by omega)] at q2
    exact h3 ⟨n, mo', q1, q2, q3⟩
  · rw [List.getElem?_append_right (by omega)] at q1
    cases q : n - f.length with
    | zero => rw [q] at q1; simp at q1; exact hne q1.symm
    | succ k => rw [q] at q1; simp at q1
/-- a hidden object is changed and becomes one's own -/
theorem R.claim {p : Addr} {o u : HO} {mo : MO} (r : R W (plusA A p) f s σ H) (hA : ¬ A p) (h : H p = some u) (hn : NoTbl u ∧ ∀ q, u ≠ LamX.CodeO p q) (hp : ∀ Hh, Same (hid (plusA A p) f s.objs H) Hh → ObjR W (f ++ [p]) Hh (upd H p o) p mo) :
    R W A (f ++ [p]) { s with objs := s.objs ++ [mo] } σ (upd H p o) := by
  have np : p ∉ f := fun z => r.disj p z (.inr rfl)
  have hs : Same (hid (plusA A p) f s.objs H) (hid A (f ++ [p]) (s.objs ++ [mo]) (upd H p o)) := hid_claim r.len fun w e => by rw [h] at e; cases e; exact hn.1
  have hm : ∀ u v, RepV W f (hid (plusA A p) f s.objs H) u v → RepV W (f ++ [p]) (hid A (f ++ [p]) (s.objs ++ [mo]) (upd H p o)) u v := fun u v z => RepV.mono hs ⟨[p], rfl⟩ u v z
  refine ⟨by simp [r.len], ?_, fun b hb => ?_, fun b hb => ?_, fun n o' a h1 h2 => ?_, fun i v hi => ?_, r.elen, tabs_store r.tabs h hn⟩
  · rw [List.nodup_append]
    exact ⟨r.nd, by simp, fun a ha b hb e => np (by simp at hb; rw [← hb, ← e]; exact ha)⟩
  · by_cases e : b = p
    · exact absurd (e ▸ hb) hA
    · rw [upd_ne e]; exact r.hA b (.inl hb)
  · rcases List.mem_append.mp hb with z | z
    · exact fun q => r.disj b z (.inl q)
    · simp at z
      rw [z]
      exact hA
  · by_cases hn : n < f.length
    · rw [List.getElem?_append_left hn] at h2
      rw [List.getElem?_append_left (by rw [← r.len]; exact hn)] at h1
      exact (r.obj n o' a h1 h2).mono hm hs (upd_ne fun e => np (e ▸ List.mem_of_getElem? h2))
    · rw [List.getElem?_append_right (by omega)] at h2
      rw [List.getElem?_append_right (by rw [← r.len]; omega)] at h1
      cases q : n - f.length with
      | zero =>
        rw [q] at h2
        rw [← r.len, q] at h1
        simp at h1 h2
        subst h1 h2
        exact hp _ hs
      | succ k => rw [q] at h2; simp at h2
  · obtain ⟨w, h1, h2⟩ := r.env i v hi
    exact ⟨w, h1, hm _ _ h2⟩
theorem Ext.claim {H0 : Hp} {f0 : List Addr} {os0 os : List MO} {p : Addr} {o : HO} {mo : MO} (x : Ext f0 os0 H0 f os H) (hl : f.length = os.length) (h0 : H0 p = none) : Ext f0 os0 H0 (f ++ [p]) (os ++ [mo]) (upd H p o) := by
  refine ⟨?_, fun b u e ni nt => ?_, fun b hb => ?_⟩
  · obtain ⟨t, e⟩ := x.pre
    exact ⟨t ++ [p], by rw [e, List.append_assoc]⟩
  · rw [upd_ne fun z => by rw [z, h0] at e; cases e]
    exact x.keep b u e ni nt
  · obtain ⟨n, o', h1, h2, h3⟩ := hb
    by_cases hn : n < f.length
    · rw [List.getElem?_append_left hn] at h1
      rw [List.getElem?_append_left (by omega)] at h2
      exact x.newU b ⟨n, o', h1, h2, h3⟩
    · rw [List.getElem?_append_right (by omega)] at h1
      have : b = p := by
        cases q : n - f.length with
        | zero => rw [q] at h1; simpa using h1.symm
        | succ k => rw [q] at h1; simp at h1
      rw [this]
      exact .inr fun u q => by rw [h0] at q; cases q
theorem ExcR.same {W : Wd} {ca : Nat → Option (Addr × Option Str)} {H H' : Hp} {cls : Value} {dd : Option Addr} {c : Nat} {x : PyData} (hs : Same H H') (h : ExcR W ca H cls dd c x) : ExcR W ca H' cls dd c x := by
  obtain ⟨a, k, h1, h2, h3⟩ := h
  refine ⟨a, k, h1, h2, ?_⟩
  cases k with
  | none => exact h3
  | some z =>
    obtain ⟨d, v, q1, q2, q3⟩ := h3
    exact ⟨d, v, q1, hs _ _ q2, Rp.same hs q3⟩
/-- an answer asked with more hidden -/
theorem GoO.more {W : Wx} {A B : Addr → Prop} {X : WX} {α β : Type} {Rel : List Addr → Hp → α → β → Prop} {os : List MO} {Q : α → Hp → Prop} {o : Out β} (h : GoO W X Rel A f os σ H Q o) (hAB : ∀ b, A b → B b) (hr : ∀ f H H' a b, Same H H' → Rel f H a b → Rel f H' a b) : GoO W X Rel B f os σ H Q o := by
  cases o with
  | ok b s' => exact fun f' H' a x r q => h f' H' a x (r.less hAB) (hr _ _ _ _ _ (hid_sub_of hAB) q)
  | exc c x s' => exact fun f' H' cls dd z r q => h f' H' cls dd z (r.less hAB) (ExcR.same (hid_sub_of hAB) q)
  | bad => exact h
theorem GoO.of_bindA {W : Wx} {A B : Addr → Prop} {X : WX} {α β γ δ : Type} {Rel : List Addr → Hp → α → β → Prop} {Rel' : List Addr → Hp → γ → δ → Prop} {os os0 : List MO} {f0 : List Addr} {H0 : Hp} {Q : γ → Hp → Prop} {Q1 : α → Hp → Prop} {o : Out β} {k : β → MS → Out δ}
    (h : GoO W X Rel' A f0 os0 σ H0 Q (o.bind k)) (x0 : Ext f0 os0 H0 f os H) (hAB : ∀ b, A b → B b) (hk : ∀ b s1 f1 H1 a, o = .ok b s1 → Ext f os H f1 s1.objs H1 → R W.toWd B f1 s1 σ H1 → Rel f1 (hid B f1 s1.objs H1) a b → GoO W X Rel' A f0 os0 σ H0 Q (k b s1) → Q1 a H1) : GoO W X Rel B f os σ H Q1 o := by
  cases o with
  | ok b s1 => exact fun f1 H1 a e r q => hk b s1 f1 H1 a rfl e r q h
  | exc c x s' => exact fun f' H' cls dd z r q => h f' H' cls dd (x0.trans z) (r.less hAB) (ExcR.same (hid_sub_of hAB) q)
  | bad => exact h
end
end MI

set_option Elab.async false
set_option linter.all false
set_option maxRecDepth 100000
set_option maxHeartbeats 1000000
/-! MI: the rules by values: comparisons, +, *, subscripts, slices. -/
namespace MI
open PySem PySem.Spec L2
open PyProof.Rows hiding St

section
variable {X : Cx} {Φ : Fx} {Z : L2.WX}
/-! ### in a dict -/
/-- the entry of a key -/
theorem op_inDct (hu : X.A.units + 65 < cLine) : OpR X (compareOp .In) (fun x y H Q => ∃ p es d, y = .ref p ∧ DcA X.w H p es ∧ RpA X.prog X.w X.K H (es.map (·.1)) (es.map (·.2.1)) ∧ Rp X.prog X.w X.K H x d ∧ isKey d = true ∧ (es.all fun e => keyFit d e.2.1) = true ∧ Q (.bl (es.any fun e => PyData.eqv e.2.1 d)) H) := by
  intro pins s σ H x y v u Q I rx ry ⟨p, es, d, e, h1, h2, h3, h4, h5, q⟩
  subst e
  obtain rfl : u = Value.ref p := ry
  exact raw_in (by omega) I (dct_view I h1 h2 h3 h4 h5) h4 h5 rx fun s' I' => ⟨.bl _, H, I', rfl, q⟩
theorem op_ninDct (hu : X.A.units + 65 < cLine) : OpR X (compareOp .NotIn) (fun x y H Q => ∃ p es d, y = .ref p ∧ DcA X.w H p es ∧ RpA X.prog X.w X.K H (es.map (·.1)) (es.map (·.2.1)) ∧ Rp X.prog X.w X.K H x d ∧ isKey d = true ∧ (es.all fun e => keyFit d e.2.1) = true ∧ Q (.bl (!es.any fun e => PyData.eqv e.2.1 d)) H) := by
  intro pins s σ H x y v u Q I rx ry ⟨p, es, d, e, h1, h2, h3, h4, h5, q⟩
  subst e
  obtain rfl : u = Value.ref p := ry
  exact raw_nin (by omega) I (dct_view I h1 h2 h3 h4 h5) h4 h5 rx fun s' I' => ⟨.bl _, H, I', rfl, q⟩
theorem look_any {k : PyData} : ∀ {kvs : List (PyData × Val)}, (look k kvs).isSome = (kvs.map (·.1)).any fun y => PyData.eqv y k
  | [] => rfl
  | (k', v) :: r => by
    unfold look
    by_cases h : PyData.eqv k' k = true
    · simp [h]
    · rw [if_neg h, look_any (kvs := r)]
      simp [h]
variable {A : Addr → Prop} {f : List Addr} {s : MS} {σ : St} {H : Hp}
/-- the entries of a dict -/
theorem kvs_ok {W : Wd} {v : Val} {u : V} {kvs : List (PyData × Val)} (h : kvsOf s.objs v = some kvs) (r : R W A f s σ H) (rv : RepV W f (hid A f s.objs H) u v) :
    ∃ a es, u = .ref a ∧ DcA W.w H a es ∧ W.rpA (hid A f s.objs H) (es.map (·.1)) (es.map (·.2.1)) ∧ es.map (·.2.1) = kvs.map (·.1) ∧ PV W f (hid A f s.objs H) (es.map (·.2.2)) (kvs.map (·.2)) := by
  cases v with
  | d d =>
    cases d with
    | dict ds =>
      cases h
      cases rv with
      | dct h1 h2 h3 h4 =>
        refine ⟨_, _, rfl, DcA.same hid_sub h1, h2, ?_, ?_⟩
        · rw [← h4]
          simp [pureKv]
        · have := PV_map (W := W) (f := f) h3
          simpa [pureKv, Function.comp_def] using this
    | _ => cases h
  | ref n =>
    obtain ⟨a, hn, rfl⟩ := rv
    unfold kvsOf at h
    simp only at h
    split at h
    · rename_i ks l e
      cases h
      obtain ⟨es, h1, h2, h3, h4⟩ := r.obj n _ a e hn
      exact ⟨a, es, rfl, h1, h2, h3, h4⟩
    · cases h
  | fn g => cases h
theorem rp_mono {W : Wd} {v : V} {d : PyData} (h : W.rp (hid A f s.objs H) v d) : W.rp H v d := Rp.same hid_sub h
theorem rpA_mono {W : Wd} {v : List V} {d : List PyData} (h : W.rpA (hid A f s.objs H) v d) : W.rpA H v d := RpA.same hid_sub h

theorem any_map1 (es : List Ent) (kvs : List (PyData × Val)) (h : es.map (·.2.1) = kvs.map (·.1)) (p : PyData → Bool) : (es.any fun e => p e.2.1) = (kvs.map (·.1)).any p := by rw [← h, List.any_map]; rfl
theorem all_map1 (es : List Ent) (kvs : List (PyData × Val)) (h : es.map (·.2.1) = kvs.map (·.1)) (p : PyData → Bool) (hp : (kvs.all fun e => p e.1) = true) : (es.all fun e => p e.2.1) = true := by
  have e : (es.all fun e => p e.2.1) = (es.map (·.2.1)).all p := by rw [List.all_map]; rfl
  rw [e, h, List.all_map]
  exact hp
theorem cmp_in {a b : Val} {x y : V} {t : Bool} (r : R (wx X Φ).toWd A f s σ H) (r1 : RepV (wx X Φ).toWd f (hid A f s.objs H) x a) (r2 : RepV (wx X Φ).toWd f (hid A f s.objs H) y b) (h : cmpV.inV a b s = some t) :
    (∃ p us d ds, y = .ref p ∧ (SqL X.K H p us ∨ SqT X.K H p us) ∧ Rp X.prog X.w X.K H x d ∧ RpA X.prog X.w X.K H us ds ∧ SeqAt.shaped d = true ∧ ds.all SeqAt.shaped = true ∧ t = ds.any fun z => PyData.eqv z d) ∨
    (∃ p es d, y = .ref p ∧ DcA X.w H p es ∧ RpA X.prog X.w X.K H (es.map (·.1)) (es.map (·.2.1)) ∧ Rp X.prog X.w X.K H x d ∧ isKey d = true ∧ (es.all fun e => keyFit d e.2.1) = true ∧ t = es.any fun e => PyData.eqv e.2.1 d) := by
  unfold cmpV.inV at h
  split at h
  · cases h
  · rename_i d e
    have hd := snap_ok e r r1
    split at h
    · rename_i ys ey
      obtain ⟨p, us, rfl, hq, hv⟩ := items_ok ey r r2
      split at h
      · rename_i ds eds
        obtain ⟨hc, rfl⟩ := some_if h
        rw [Bool.and_eq_true] at hc
        exact .inl ⟨p, us, d, ds, rfl, hq, hd, rpA_mono (pures_ok eds hv), hc.1, hc.2, rfl⟩
      · cases h
    · split at h
      · rename_i kvs ek
        obtain ⟨p, es, rfl, h1, h2, h3, h4⟩ := kvs_ok ek r r2
        obtain ⟨hc, rfl⟩ := some_if h
        rw [Bool.and_eq_true] at hc
        exact .inr ⟨p, es, d, rfl, h1, rpA_mono h2, hd, hc.1, all_map1 es kvs h3 (keyFit _) hc.2, by rw [look_any, any_map1 es kvs h3 fun y => PyData.eqv y d]⟩
      · cases h
theorem rp_non {W : Wd} {H : Hp} {x : V} (r : W.rp H x .none) : x = .non := by cases r; rfl
theorem rp_bl {W : Wd} {H : Hp} {x : V} {b : Bool} (r : W.rp H x (.bool b)) : x = .bl b := by cases r; rfl
theorem rep_none {W : Wd} {H : Hp} {f : List Addr} {x : V} {v : Val} (r : RepV W f H x v) : isNoneV v = decide (x = .non) := by
  cases v with
  | d d =>
    cases d with
    | none => cases r; rfl
    | bool b => cases r; rfl
    | int b => cases r; rfl
    | str b => cases r; rfl
    | list b => cases r; rfl
    | tuple b => cases r; rfl
    | dict b => cases r; rfl
  | ref n =>
    obtain ⟨a, _, rfl⟩ := r
    rfl
  | fn g =>
    obtain ⟨a, rfl, _⟩ := r
    rfl
theorem cmp_is {a b : Val} {x y : V} {t : Bool} {W : Wd} {H : Hp} (r1 : RepV W f H x a) (r2 : RepV W f H y b) (h : cmpV.isV a b = some t) : (y = .non ∧ t = decide (x = .non)) ∨ ∃ c d, x = .bl c ∧ y = .bl d ∧ t = decide (c = d) := by
  unfold cmpV.isV at h
  split at h
  · cases h
    exact .inl ⟨rp_non r2, rep_none r1⟩
  · split at h
    · cases h
      exact .inr ⟨_, _, rp_bl r1, rp_bl r2, rfl⟩
    · cases h
  · cases h
theorem map_not {o : Option Bool} {t : Bool} (h : o.map (!·) = some t) : ∃ c, o = some c ∧ t = !c := by
  cases o with
  | none => cases h
  | some c => cases h; exact ⟨c, rfl, rfl⟩
/-- what a comparison wants -/
theorem plain_fit {es : List Ent} {kvs : List (PyData × Val)} (h : es.map (·.2.1) = kvs.map (·.1)) (hk : keysPlain kvs = true) : (es.all fun e => keyFit (.int 0) e.2.1) = true := by
  refine all_map1 es kvs h (fun x => keyFit (.int 0) x) ?_
  unfold keysPlain at hk
  rw [List.all_eq_true] at hk ⊢
  intro q hq
  have z := hk q hq
  simp only [Bool.and_eq_true, Bool.not_eq_true'] at z
  unfold keyFit
  rw [z.1, z.2]
  rfl
/-- dicts of plain keys and unlike lengths -/
theorem op_eqDct (hu : X.A.units + 65 < cLine) {x y : V} {v u : Value} {a b : Val} {k1 k2 : List (PyData × Val)} {pins : List (Addr × Obj)} {σ1 : St} {st : Shared} {Q : VK} (I : L2.Inv X pins σ1 H st) (rx : L2.RelV x v) (ry : L2.RelV y u) (e1 : kvsOf s.objs a = some k1) (e2 : kvsOf s.objs b = some k2) (r : R (wx X Φ).toWd A f s σ H)
    (r1 : RepV (wx X Φ).toWd f (hid A f s.objs H) x a) (r2 : RepV (wx X Φ).toWd f (hid A f s.objs H) y b) (h1 : keysPlain k1 = true) (h2 : keysPlain k2 = true) (hl : k1.length ≠ k2.length) (q : Q (.bl false) H) : wpAny (model X.prog X.w) X.A (compareOp .Eq v u) (EP X pins σ1 Q) X.xe st := by
  obtain ⟨p, es, rfl, d1, p1, q1, _⟩ := kvs_ok e1 r r1
  obtain ⟨p', es', rfl, d2, p2, q2, _⟩ := kvs_ok e2 r r2
  obtain rfl : v = Value.ref p := rx
  obtain rfl : u = Value.ref p' := ry
  have dv := dct_view I d1 (rpA_mono p1) (.int 0) rfl (plain_fit q1 h1)
  have dv' := dct_view I d2 (rpA_mono p2) (.int 0) rfl (plain_fit q2 h2)
  cases dv with
  | raw xs b mu e1 ht ki hp dd rel => cases ht
  | mix vs k mu e1 e2 hs dof rel =>
    cases dv' with
    | raw xs b mu e1 ht ki hp dd rel => cases ht
    | mix vs' k' mu' e1' e2' hs' dof' rel' =>
      have l1 : vs.length = k1.length := by
        rw [mix_len rel]
        simpa using congrArg List.length q1
      have l2 : vs'.length = k2.length := by
        rw [mix_len rel']
        simpa using congrArg List.length q2
      exact PySem.W.keq_eq (knd := mixKind X.prog X.w) (r := true) hs hs' dof dof' (by omega) (fun z => absurd (by rw [← l1, ← l2]; exact z) hl) (fin_bl I q (by simp [l1, l2, hl]))
def rCmp (X : Cx) (Φ : Fx) (o : CO) : R2 := fun x y H Q => ∃ σ A f s v w t, R (wx X Φ).toWd A f s σ H ∧ RepV (wx X Φ).toWd f (hid A f s.objs H) x v ∧ RepV (wx X Φ).toWd f (hid A f s.objs H) y w ∧ cmpV o v w s = some t ∧ Q (.bl t) H
theorem op_cmpT (hu : X.A.units + 65 < cLine) (op : CmpOp) : OpR X (compareOp op) (rCmp X Φ (cmpOf op)) := by
  intro pins st σ1 H x y v u Q I rx ry ⟨σ, A, f, s, a, b, t, r, r1, r2, e, q⟩
  cases op
  case Lt =>
    unfold cmpV cmpOf at e
    simp only at e
    split at e
    · cases e
      exact op_lt pins st σ1 H _ _ v u Q I rx ry ⟨_, _, rep_int r1, rep_int r2, q⟩
    · obtain ⟨hc, rfl⟩ := some_if e
      exact op_ord hu (fun s a b da db as bs Q ra rb h hn hu hq => PySem.W.lt_data ra rb h hn hu hq) pins st σ1 H _ _ v u Q I rx ry ⟨_, _, rp_mono r1, rp_mono r2, hc, q⟩
    · cases e
  case LtE =>
    unfold cmpV cmpOf at e
    simp only at e
    split at e
    · cases e
      exact op_le pins st σ1 H _ _ v u Q I rx ry ⟨_, _, rep_int r1, rep_int r2, q⟩
    · obtain ⟨hc, rfl⟩ := some_if e
      exact op_ord (f := fun x y => !PySem.W.dataLt y x) hu (fun s a b da db as bs Q ra rb h hn hu hq => PySem.W.le_data ra rb h hn hu hq) pins st σ1 H _ _ v u Q I rx ry ⟨_, _, rp_mono r1, rp_mono r2, hc, q⟩
    · cases e
  case Gt =>
    unfold cmpV cmpOf at e
    simp only at e
    split at e
    · cases e
      exact op_gt pins st σ1 H _ _ v u Q I rx ry ⟨_, _, rep_int r1, rep_int r2, q⟩
    · obtain ⟨hc, rfl⟩ := some_if e
      exact op_ord (f := fun x y => PySem.W.dataLt y x) hu (fun s a b da db as bs Q ra rb h hn hu hq => PySem.W.gt_data ra rb h hn hu hq) pins st σ1 H _ _ v u Q I rx ry ⟨_, _, rp_mono r1, rp_mono r2, hc, q⟩
    · cases e
  case GtE =>
    unfold cmpV cmpOf at e
    simp only at e
    split at e
    · cases e
      exact op_ge pins st σ1 H _ _ v u Q I rx ry ⟨_, _, rep_int r1, rep_int r2, q⟩
    · obtain ⟨hc, rfl⟩ := some_if e
      exact op_ord (f := fun x y => !PySem.W.dataLt x y) hu (fun s a b da db as bs Q ra rb h hn hu hq => PySem.W.ge_data ra rb h hn hu hq) pins st σ1 H _ _ v u Q I rx ry ⟨_, _, rp_mono r1, rp_mono r2, hc, q⟩
    · cases e
  case Eq =>
    unfold cmpV cmpOf at e
    simp only at e
    split at e
    · rename_i k1 k2 e1 e2
      obtain ⟨hc, rfl⟩ := some_if e
      simp only [Bool.and_eq_true, decide_eq_true_eq] at hc
      exact op_eqDct hu I rx ry e1 e2 r r1 r2 hc.1.1 hc.1.2 hc.2 q
    split at e
    · rename_i d d' e1 e2
      obtain ⟨hc, rfl⟩ := some_if e
      rw [Bool.and_eq_true] at hc
      exact op_eqD (by omega) pins st σ1 H _ _ v u Q I rx ry ⟨d, d', rp_dp d _ (SeqAt.canLay_of_shaped hc.1) (snap_ok e1 r r1), rp_dp d' _ (SeqAt.canLay_of_shaped hc.2) (snap_ok e2 r r2), hc.1, hc.2, q⟩
    · cases e
  case NotEq =>
    unfold cmpV cmpOf at e
    simp only at e
    split at e
    · rename_i d d' e1 e2
      obtain ⟨c, e', rfl⟩ := map_not e
      obtain ⟨hc, rfl⟩ := some_if e'
      rw [Bool.and_eq_true] at hc
      exact op_neD (by omega) pins st σ1 H _ _ v u Q I rx ry ⟨d, d', rp_dp d _ (SeqAt.canLay_of_shaped hc.1) (snap_ok e1 r r1), rp_dp d' _ (SeqAt.canLay_of_shaped hc.2) (snap_ok e2 r r2), hc.1, hc.2, q⟩
    · cases e
  case Is =>
    rcases cmp_is r1 r2 e with ⟨rfl, rfl⟩ | ⟨c, d, rfl, rfl, rfl⟩
    · exact op_isN pins st σ1 H _ _ v u Q I rx ry ⟨rfl, q⟩
    · exact op_isBl pins st σ1 H _ _ v u Q I rx ry ⟨c, d, rfl, rfl, q⟩
  case IsNot =>
    obtain ⟨c, e', rfl⟩ := map_not e
    rcases cmp_is r1 r2 e' with ⟨rfl, rfl⟩ | ⟨c, d, rfl, rfl, rfl⟩
    · exact op_notN pins st σ1 H _ _ v u Q I rx ry ⟨rfl, q⟩
    · exact op_notBl pins st σ1 H _ _ v u Q I rx ry ⟨c, d, rfl, rfl, q⟩
  case In =>
    rcases cmp_in r r1 r2 e with ⟨p, us, d, ds, h1, h2, h3, h4, h5, h6, rfl⟩ | ⟨p, es, d, h1, h2, h3, h4, h5, h6, rfl⟩
    · exact op_inSeq hu pins st σ1 H _ _ v u Q I rx ry ⟨p, us, d, ds, h1, h2, h3, h4, h5, h6, q⟩
    · exact op_inDct hu pins st σ1 H _ _ v u Q I rx ry ⟨p, es, d, h1, h2, h3, h4, h5, h6, q⟩
  case NotIn =>
    obtain ⟨c, e', rfl⟩ := map_not e
    rcases cmp_in r r1 r2 e' with ⟨p, us, d, ds, h1, h2, h3, h4, h5, h6, rfl⟩ | ⟨p, es, d, h1, h2, h3, h4, h5, h6, rfl⟩
    · exact op_ninSeq hu pins st σ1 H _ _ v u Q I rx ry ⟨p, us, d, ds, h1, h2, h3, h4, h5, h6, q⟩
    · exact op_ninDct hu pins st σ1 H _ _ v u Q I rx ry ⟨p, es, d, h1, h2, h3, h4, h5, h6, q⟩

theorem op_cmpV (hu : X.A.units + 65 < cLine) (op : CmpOp) : OpR X (compareOp op) (rV2 X Φ Z (cmpG (cmpOf op))) := OpR_imp (op_cmpT (Φ := Φ) hu op) fun x y H Q ⟨σ, A, f, s, a, b, r, r1, r2, g⟩ => by
  obtain ⟨t, e, q⟩ := go_cmp g r
  exact ⟨σ, A, f, s, a, b, t, r, r1, r2, e, q⟩

/-! ### + and *, by values -/
theorem items_list {W : Wd} {v : Val} {u : V} {vs : List Val} (h : items s.objs v = some vs) (ht : tyOf s.objs v = some .list) (r : R W A f s σ H) (rv : RepV W f (hid A f s.objs H) u v) :
    ∃ a us, u = .ref a ∧ SqL W.K H a us ∧ PV W f (hid A f s.objs H) us vs := by
  cases v with
  | d d =>
    cases d with
    | list xs =>
      cases h
      cases rv with
      | lst h1 h2 => exact ⟨_, _, rfl, L2.Same.seq hid_sub h1, PV_map h2⟩
    | tuple xs => cases ht
    | _ => cases h
  | ref n =>
    obtain ⟨a, hn, rfl⟩ := rv
    unfold items at h
    simp only at h
    split at h
    · rename_i xs l e
      cases h
      obtain ⟨us, h1, h2⟩ := r.obj n _ a e hn
      exact ⟨a, us, rfl, SqL.of h1, h2⟩
    · cases h
  | fn g => cases h
theorem items_ref {W : Wd} {v : Val} {u : V} {vs : List Val} (h : items s.objs v = some vs) (hr : isRef v = true) (r : R W A f s σ H) (rv : RepV W f (hid A f s.objs H) u v) :
    ∃ a us, u = .ref a ∧ H a = some (.lst us) ∧ PV W f (hid A f s.objs H) us vs := by
  cases v with
  | d d => cases hr
  | ref n =>
    obtain ⟨a, hn, rfl⟩ := rv
    unfold items at h
    simp only at h
    split at h
    · rename_i xs l e
      cases h
      obtain ⟨us, h1, h2⟩ := r.obj n _ a e hn
      exact ⟨a, us, rfl, h1, h2⟩
    · cases h
  | fn g => cases hr
theorem items_tuple {W : Wd} {v : Val} {u : V} {vs : List Val} (h : items s.objs v = some vs) (ht : tyOf s.objs v = some .tuple) (r : R W A f s σ H) (rv : RepV W f (hid A f s.objs H) u v) :
    ∃ a us ds, v = .d (.tuple ds) ∧ vs = ds.map .d ∧ u = .ref a ∧ SqT W.K H a us ∧ W.rpA (hid A f s.objs H) us ds := by
  cases v with
  | d d =>
    cases d with
    | list xs => cases ht
    | tuple xs =>
      cases h
      cases rv with
      | tup h1 h2 => exact ⟨_, _, _, rfl, rfl, rfl, Same.sqT hid_sub h1, h2⟩
    | _ => cases h
  | ref n =>
    unfold tyOf at ht
    simp only at ht
    split at ht <;> cases ht
  | fn g => cases h
theorem Paired.app {α β : Type} {F : α → β → Prop} : ∀ {l l' : List α} {m m' : List β}, Paired F l m → Paired F l' m' → Paired F (l ++ l') (m ++ m')
  | _, _, _, _, .nil, t => t
  | _, _, _, _, .cons r s, t => .cons r (Paired.app s t)
theorem length_rep {α : Type} (k : Nat) (xs : List α) : (List.replicate k xs).flatten.length = xs.length * k := by
  rw [List.length_flatten, List.map_replicate, List.sum_replicate_nat, Nat.mul_comm]
theorem Paired.rep {α β : Type} {F : α → β → Prop} {l : List α} {m : List β} (h : Paired F l m) : ∀ k : Nat, Paired F (List.replicate k l).flatten (List.replicate k m).flatten
  | 0 => .nil
  | k + 1 => by
    rw [List.replicate_succ, List.replicate_succ, List.flatten_cons, List.flatten_cons]
    exact Paired.app h (Paired.rep h k)
theorem sizeOk_of {n : Nat} (h : sizeOk n = true) : n ≤ sizeLine := by
  rw [line_eq]
  exact of_decide_eq_true h
theorem op_addV {op : Operator} (ho : opOf op = some .add) : OpR X (binaryOp op) (rV2 X Φ Z (binV .add)) := by
  have hop : op = .Add := by cases op <;> first | rfl | cases ho
  subst hop
  intro pins st σ1 H x y v u Q I rx ry ⟨σ, A, f, s, a, b, r, r1, r2, g⟩
  unfold binV at g
  split at g
  · obtain ⟨k, e, q⟩ := go_int g r
    exact op_ints .add .Add rfl pins st σ1 H _ _ v u Q I rx ry ⟨_, _, k, rep_int r1, rep_int r2, e, q⟩
  · dsimp only at g
    split at g
    · rename_i xs ys _
      split at g
      · rename_i hz
        cases r1 with
        | @tup a1 us1 _ ha hxs =>
          cases r2 with
          | @tup b1 us2 _ hb hys =>
            have l1 := RpA.length hxs
            have l2 := RpA.length hys
            have hz := sizeOk_of hz
            refine op_catA pins st σ1 H _ _ v u Q I rx ry ⟨a1, b1, us1, us2, rfl, rfl, Same.sqT hid_sub ha, Same.sqT hid_sub hb, by omega, fun e => ?_, fun _ e => ?_, fun _ _ p hp => ?_⟩
            · subst e
              cases hxs
              exact go_d g r (.tup hb hys)
            · subst e
              cases hys
              rw [List.append_nil] at g
              exact go_d g r (.tup ha hxs)
            · exact go_tuple g r (RpA.append hxs hys) hp
      · exact g.elim
    · split at g
      · rename_i xs ys e1 e2
        split at g
        · rename_i t1 t2
          split at g
          · rename_i hz
            simp only [Bool.and_eq_true] at hz
            obtain ⟨⟨hr1, hr2⟩, hz⟩ := hz
            have hz := sizeOk_of hz
            obtain ⟨p1, us1, rfl, h1, v1⟩ := items_ref e1 hr1 r r1
            obtain ⟨p2, us2, rfl, h2, v2⟩ := items_ref e2 hr2 r r2
            obtain ⟨_, q⟩ := go_newLst g r (Paired.app v1 v2)
            have l1 := Paired.length' v1
            have l2 := Paired.length' v2
            exact op_cat pins st σ1 H _ _ v u Q I rx ry ⟨p1, p2, us1, us2, rfl, rfl, h1, h2, by omega, q⟩
          · exact g.elim
        · exact g.elim
      · exact g.elim
theorem op_mulV {op : Operator} (ho : opOf op = some .mul) : OpR X (binaryOp op) (rV2 X Φ Z (binV .mul)) := by
  have hop : op = .Mult := by cases op <;> first | rfl | cases ho
  subst hop
  intro pins st σ1 H x y v u Q I rx ry ⟨σ, A, f, s, a, b, r, r1, r2, g⟩
  unfold binV at g
  split at g
  · obtain ⟨k, e, q⟩ := go_int g r
    exact op_ints .mul .Mult rfl pins st σ1 H _ _ v u Q I rx ry ⟨_, _, k, rep_int r1, rep_int r2, e, q⟩
  · dsimp only at g
    split at g
    · rename_i k _
      split at g
      · rename_i xs t1 e1
        split at g
        · rename_i hc
          obtain ⟨hr1, hc⟩ := hc
          obtain ⟨p1, us1, rfl, h1, v1⟩ := items_ref e1 hr1 r r1
          obtain ⟨_, q⟩ := go_newLst g r (Paired.rep v1 k.toNat)
          have l1 := Paired.length' v1
          exact op_rep pins st σ1 H _ _ v u Q I rx ry ⟨p1, k, us1, rfl, rep_int r2, h1, by omega, by omega, by rw [l1, line_eq]; exact hc.2.2, q⟩
        · exact g.elim
      · rename_i xs t1 e1
        split at g
        · rename_i hc
          obtain ⟨p1, us1, ds, rfl, rfl, rfl, h1, v1⟩ := items_tuple e1 t1 r r1
          split at g
          · rename_i es ep
            have l1 := RpA.length v1
            have hl : (ds.map Val.d).length = us1.length := by rw [List.length_map, l1]
            refine op_repT pins st σ1 H _ _ v u Q I rx ry ⟨p1, k, us1, rfl, rep_int r2, h1, ?_, hc.1, hc.2.1, by omega, fun p hp => ?_⟩
            · intro z
              rw [z] at hl
              simp only [List.length_nil] at hl
              omega
            · exact go_tuple g r (pures_ok (f := f) ep (Paired.rep (PV_map v1) k.toNat)) hp
          · exact g.elim
        · exact g.elim
      · exact g.elim
    · exact g.elim
theorem op_binV {o : Op} {op : Operator} (ho : opOf op = some o) : OpR X (binaryOp op) (rV2 X Φ Z (binV o)) := by
  by_cases h1 : o = .add
  · subst h1; exact op_addV ho
  by_cases h2 : o = .mul
  · subst h2; exact op_mulV ho
  intro pins st σ1 H x y v u Q I rx ry ⟨σ, A, f, s, a, b, r, r1, r2, g⟩
  unfold binV at g
  split at g
  · obtain ⟨k, e, q⟩ := go_int g r
    exact op_ints o op ho pins st σ1 H _ _ v u Q I rx ry ⟨_, _, k, rep_int r1, rep_int r2, e, q⟩
  · split at g
    · exact absurd rfl h1
    · exact absurd rfl h2
    · exact g.elim

/-! ### subscripts -/
def ixG (v i : Val) (s : MS) : Out Val := ofO (ixV v i s) s
theorem ix_dctR (hu : X.A.units + 65 < cLine) : IxR X (fun x y H Q => ∃ (p : Addr) (es : List Ent) (d : PyData) (k : Nat) (e : Ent), x = .ref p ∧ DcA X.w H p es ∧ RpA X.prog X.w X.K H (es.map (·.1)) (es.map (·.2.1)) ∧ Rp X.prog X.w X.K H y d ∧ isKey d = true ∧ (es.all fun e => keyFit d e.2.1) = true ∧
    es[k]? = some e ∧ PyData.eqv e.2.1 d = true ∧ (∀ (j : Nat) (e' : Ent), j < k → es[j]? = some e' → PyData.eqv e'.2.1 d = false) ∧ Q e.2.2 H) := by
  intro value slice pins s σ H x y v u Q I rx ry ⟨p, es, d, k, e, ex, h1, h2, h3, h4, h5, q1, q2, q3, q⟩ hs
  subst ex
  obtain rfl : v = Value.ref p := rx
  have g := dct_view I h1 h2 h3 h4 h5
  exact tail_any (dview_type I g) PySem.F.slot_dict_getitem.lookup (raw_getItem (by omega) I g h4 h5 ry (entAt_at q1 q2 q3) fun w' s' I' rw' => ⟨_, H, I', rw', q⟩) hs
theorem look_at {d : PyData} : ∀ {es : List Ent} {kvs : List (PyData × Val)} {v : Val} {P : V → Val → Prop}, look d kvs = some v → es.map (·.2.1) = kvs.map (·.1) → Paired P (es.map (·.2.2)) (kvs.map (·.2)) →
    ∃ (k : Nat) (e : Ent), es[k]? = some e ∧ PyData.eqv e.2.1 d = true ∧ (∀ (j : Nat) (e' : Ent), j < k → es[j]? = some e' → PyData.eqv e'.2.1 d = false) ∧ P e.2.2 v
  | [], [], _, _, h, _, _ => by cases h
  | [], _ :: _, _, _, _, h, _ => by cases h
  | _ :: _, [], _, _, _, h, _ => by cases h
  | e :: es, (k', v') :: kvs, v, P, h, hk, hp => by
    simp only [List.map_cons, List.cons.injEq] at hk
    simp only [List.map_cons] at hp
    cases hp with
    | cons p1 p2 =>
      unfold look at h
      split at h
      · rename_i hc
        cases h
        exact ⟨0, e, rfl, by rw [hk.1]; exact hc, fun j e' hj => absurd hj (Nat.not_lt_zero _), p1⟩
      · rename_i hc
        obtain ⟨k, e1, h1, h2, h3, h4⟩ := look_at h hk.2 p2
        refine ⟨k + 1, e1, by simpa using h1, h2, fun j e' hj he => ?_, h4⟩
        cases j with
        | zero =>
          simp at he
          subst he
          rw [hk.1]
          simpa using hc
        | succ j => exact h3 j e' (by omega) (by simpa using he)
theorem place_atI {us : List V} {i : Int} {k n : Nat} {x : V} (h : place n i = some k) (hn : us.length = n) (hk : us[k]? = some x) : atI us i = some x := by
  subst hn
  unfold place at h
  unfold atI ixN
  split at h
  · rename_i h0
    split at h
    · rename_i h1
      cases h
      simp only [if_pos h0, if_pos h1, Option.bind_some]
      exact hk
    · cases h
  · rename_i h0
    split at h
    · rename_i h1
      cases h
      simp only [if_neg h0, if_pos h1, Option.bind_some]
      exact hk
    · cases h
theorem ix_V (hu : X.A.units + 65 < cLine) : IxR X (rV2 X Φ Z ixG) := by
  intro value slice pins st σ1 H x y v u Q I rx ry ⟨σ, A, f, s, a, b, r, r1, r2, g⟩ hs
  unfold ixG ixV at g
  split at g
  · rename_i d
    split at g
    · rename_i xs e1
      split at g
      · rename_i j
        split at g
        · rename_i k ek
          cases e2 : xs[k]? with
          | none => rw [e2] at g; exact g.elim
          | some z =>
            rw [e2] at g
            obtain ⟨p, us, rfl, hq, hv⟩ := items_ok e1 r r1
            obtain ⟨w, hw, rw_⟩ := Paired.getR hv e2
            have ha := place_atI ek (Paired.length' hv) hw
            have q : Q w H := g f H w (Ext.refl _ _ _) r rw_
            rcases hq with hq | hq
            · exact ix_list value slice pins st σ1 H _ _ v u Q I rx ry ⟨p, us, j, w, rfl, rep_int r2, hq, ha, q⟩ hs
            · exact ix_tup value slice pins st σ1 H _ _ v u Q I rx ry ⟨p, us, j, w, rfl, rep_int r2, hq, ha, q⟩ hs
        · exact g.elim
      · exact g.elim
    · split at g
      · rename_i kvs ek
        split at g
        · rename_i hc
          rw [Bool.and_eq_true] at hc
          cases e2 : look d kvs with
          | none => rw [e2] at g; exact g.elim
          | some z =>
            rw [e2] at g
            obtain ⟨p, es, rfl, h1, h2, h3, h4⟩ := kvs_ok ek r r1
            obtain ⟨k, e, q1, q2, q3, q4⟩ := look_at e2 h3 h4
            exact ix_dctR hu value slice pins st σ1 H _ _ v u Q I rx ry ⟨p, es, d, k, e, rfl, h1, rpA_mono h2, rp_mono r2, hc.1, all_map1 es kvs h3 (keyFit _) hc.2, q1, q2, q3, g f H _ (Ext.refl _ _ _) r q4⟩ hs
        · exact g.elim
      · exact g.elim
  · exact g.elim
end
end MI

set_option Elab.async false
set_option linter.all false
set_option maxRecDepth 100000
set_option maxHeartbeats 1000000
/-! MI: sorted, least and greatest of data, a dict's keys in a list. -/
namespace MI
open PySem PySem.Spec L2
open PyProof.Rows hiding St

/-! ### insertion is the stable sort -/
section
variable {α : Type} (le : α → α → Bool)
def insA (x : α) : List α → List α
  | [] => [x]
  | y :: ys => if le x y = true then x :: y :: ys else y :: insA x ys
def srtA : List α → List α
  | [] => []
  | x :: xs => insA le x (srtA xs)
theorem insA_mem (x z : α) : ∀ ys : List α, z ∈ insA le x ys → z = x ∨ z ∈ ys
  | [], h => by
    unfold insA at h
    exact .inl (List.mem_singleton.mp h)
  | y :: ys, h => by
    unfold insA at h
    split at h
    · rcases List.mem_cons.mp h with e | e
      · exact .inl e
      · exact .inr e
    · rcases List.mem_cons.mp h with e | e
      · exact .inr (by rw [e]; exact List.mem_cons_self ..)
      · rcases insA_mem x z ys e with q | q
        · exact .inl q
        · exact .inr (List.mem_cons_of_mem _ q)
theorem insA_sorted (h : PySem.W.TotalLe le) (x : α) : ∀ ys : List α, ys.Pairwise (fun a b => le a b = true) → (insA le x ys).Pairwise (fun a b => le a b = true)
  | [], _ => List.pairwise_singleton _ _
  | y :: ys, hp => by
    obtain ⟨h1, h2⟩ := List.pairwise_cons.mp hp
    unfold insA
    split
    · rename_i hc
      refine List.pairwise_cons.mpr ⟨fun z hz => ?_, hp⟩
      rcases List.mem_cons.mp hz with e | e
      · rw [e]; exact hc
      · exact h.trans _ _ _ hc (h1 z e)
    · rename_i hc
      have hyx : le y x = true := (h.total y x).elim id fun q => absurd q hc
      refine List.pairwise_cons.mpr ⟨fun z hz => ?_, insA_sorted h x ys h2⟩
      rcases insA_mem le x z ys hz with e | e
      · rw [e]; exact hyx
      · exact h1 z e
theorem insA_rank (h : PySem.W.TotalLe le) (c x : α) : ∀ ys : List α, (insA le x ys).filter (PySem.W.sameRank le c) = (x :: ys).filter (PySem.W.sameRank le c)
  | [] => rfl
  | y :: ys => by
    unfold insA
    split
    · rfl
    · rename_i hc
      rw [List.filter_cons, insA_rank h c x ys, List.filter_cons, List.filter_cons, List.filter_cons]
      by_cases qy : PySem.W.sameRank le c y = true
      · by_cases qx : PySem.W.sameRank le c x = true
        · exfalso
          unfold PySem.W.sameRank at qx qy
          rw [Bool.and_eq_true] at qx qy
          exact hc (h.trans _ _ _ qx.2 qy.1)
        · simp [qx]
      · simp [qy]
theorem srtA_eq (h : PySem.W.TotalLe le) (l : List α) : srtA le l = l.mergeSort le := by
  have hs : ∀ l : List α, (srtA le l).Pairwise (fun a b => le a b = true) := fun l => by
    induction l with
    | nil => exact List.Pairwise.nil
    | cons x xs ih => exact insA_sorted le h x _ ih
  refine PySem.W.sort_unique h (hs l) fun c => ?_
  induction l with
  | nil => rfl
  | cons x xs ih =>
    show (insA le x (srtA le xs)).filter _ = _
    rw [insA_rank le h, List.filter_cons, List.filter_cons, ih]
end
abbrev leP : (V × PyData) → (V × PyData) → Bool := PySem.W.dataLe false fun p : V × PyData => p.2
theorem leP_eq (p q : V × PyData) : leP p q = !PySem.W.dataLt q.2 p.2 := by
  unfold leP
  rw [PySem.W.dataLe_eq]
  rfl
theorem leP_total : PySem.W.TotalLe leP := PySem.W.sortLe_total _ _ _
theorem ins_snd (p : V × PyData) : ∀ ps : List (V × PyData), (insA leP p ps).map (·.2) = ins2 p.2 (ps.map (·.2))
  | [] => rfl
  | q :: ps => by
    rw [List.map_cons]
    unfold insA ins2
    rw [leP_eq]
    cases PySem.W.dataLt q.2 p.2 with
    | true =>
      rw [if_neg (by simp), if_pos rfl, List.map_cons, ins_snd p ps]
    | false =>
      rw [if_pos (by simp), if_neg (by simp)]
      rfl
theorem srt_snd : ∀ ps : List (V × PyData), (srtA leP ps).map (·.2) = sortD (ps.map (·.2))
  | [] => rfl
  | p :: ps => by
    show (insA leP p (srtA leP ps)).map (·.2) = _
    rw [ins_snd, srt_snd ps]
    rfl

section
variable {X : Cx} {pins : List (Addr × Obj)} {σ : St} {H : Hp} {s : Shared}
/-- values, data, readings side by side -/
def RsR (P : Program) (w : World) (K : PySem.W.Frag) (Hh : Hp) (v : Value) (p : V × PyData) : Prop := L2.RelV p.1 v ∧ Rp P w K Hh p.1 p.2
theorem each_of {P : Program} {w : World} {K : PySem.W.Frag} {Hh : Hp} : ∀ {vs : List Value} {us : List V} {ds : List PyData}, Vals us vs → RpA P w K Hh us ds → PySem.W.EachIs (RsR P w K Hh) vs (us.zip ds)
  | _, _, _, .nil, .nil => .nil
  | _, _, _, .cons r t, .cons h k => .cons ⟨r, h⟩ (each_of t k)
theorem of_each {P : Program} {w : World} {K : PySem.W.Frag} {Hh : Hp} : ∀ {vs : List Value} {ps : List (V × PyData)}, PySem.W.EachIs (RsR P w K Hh) vs ps → Vals (ps.map (·.1)) vs ∧ RpA P w K Hh (ps.map (·.1)) (ps.map (·.2))
  | _, _, .nil => ⟨.nil, .nil⟩
  | _, _, .cons r t => by
    obtain ⟨h1, h2⟩ := of_each t
    exact ⟨.cons r.1 h1, .cons r.2 h2⟩
theorem zip_snd {α β : Type} : ∀ {us : List α} {ds : List β}, us.length = ds.length → (us.zip ds).map (·.2) = ds
  | [], [], _ => rfl
  | u :: us, d :: ds, h => by
    rw [List.zip_cons_cons, List.map_cons, zip_snd (by simpa using h)]
  | [], _ :: _, h => by simp at h
  | _ :: _, [], h => by simp at h
theorem allOrd_ok {ds : List PyData} (h : allOrd ds = true) : (∀ x ∈ ds, x ≠ .none ∧ SeqAt.shaped x = true) ∧ PySem.W.AllAlike ds := by
  unfold allOrd at h
  rw [List.all_eq_true] at h
  constructor
  · intro x hx
    have := h x hx
    simp only [Bool.and_eq_true] at this
    refine ⟨fun e => ?_, this.1.2⟩
    have q := this.1.1
    rw [e] at q
    cases q
  · intro x hx y hy
    have := h x hx
    simp only [Bool.and_eq_true] at this
    exact List.all_eq_true.mp this.2 y hy
theorem sortable_ok {ds : List PyData} (ho : allOrd ds = true) (h : sortable ds = true) : PySem.W.Sortable ds := by
  unfold sortable at h
  rw [Bool.or_eq_true] at h
  rcases h with h | h
  · refine .inl fun d hd => ?_
    have q := List.all_eq_true.mp h d hd
    cases d with
    | tuple xs =>
      cases xs with
      | nil => cases q
      | cons x r => exact ⟨x, r, rfl⟩
    | _ => cases q
  · refine .inr fun d hd => ⟨((allOrd_ok ho).1 d hd).1, fun xs e => ?_⟩
    have q := List.all_eq_true.mp h d hd
    rw [e] at q
    cases q
theorem shaped_all {ds : List PyData} (ho : allOrd ds = true) : ds.all SeqAt.shaped = true := List.all_eq_true.mpr fun x hx => ((allOrd_ok ho).1 x hx).2
/-- what a sort needs -/
structure Srt (X : Cx) (H Hh : Hp) (s : Shared) (vs : List Value) (us : List V) (ds : List PyData) : Prop where
  each : PySem.W.EachIs (RsR X.prog X.w X.K Hh) vs (us.zip ds)
  reads : PySem.W.EachIs (fun v p => ∃ as, Reads s.heap v (Prod.snd p) as) vs (us.zip ds)
  alike : PySem.W.AllAlike ((us.zip ds).map Prod.snd)
  kind : PySem.W.Sortable ((us.zip ds).map Prod.snd)
  deep : ∀ p ∈ us.zip ds, p.2.depth ≤ 64
theorem srt_of {Hh : Hp} {vs : List Value} {us : List V} {ds : List PyData} (I : L2.Inv X pins σ H s) (sm : Same Hh H) (r : Vals us vs) (hp : RpA X.prog X.w X.K Hh us ds) (ho : allOrd ds = true) (hs : sortable ds = true) : Srt X H Hh s vs us ds := by
  have hz := zip_snd (RpA.length hp)
  have e := each_of r hp
  obtain ⟨h1, h2⟩ := allOrd_ok ho
  have hm : ∀ p ∈ us.zip ds, p.2 ∈ ds := fun p hp => by
    have : p.2 ∈ (us.zip ds).map Prod.snd := List.mem_map.mpr ⟨p, hp, rfl⟩
    rwa [show (us.zip ds).map Prod.snd = ds from hz] at this
  refine ⟨e, ?_, by rw [show (us.zip ds).map Prod.snd = ds from hz]; exact h2, by rw [show (us.zip ds).map Prod.snd = ds from hz]; exact sortable_ok ho hs, fun p hp => SeqAt.depth_of_shaped (h1 _ (hm p hp)).2⟩
  refine (PySem.W.each_mem e).mono fun v p q => ?_
  exact rp_reads I (SeqAt.canLay_of_shaped (h1 _ (hm p q.2)).2) (Rp.same sm q.1.2) q.1.1
/-- the sorted values -/
theorem srt_out {Hh : Hp} {us : List V} {ds : List PyData} {out : List Value} (hl : us.length = ds.length) (h : PySem.W.EachIs (RsR X.prog X.w X.K Hh) out ((us.zip ds).mergeSort (PySem.W.dataLe false Prod.snd))) :
    ∃ us', Vals us' out ∧ RpA X.prog X.w X.K Hh us' (sortD ds) ∧ us'.length = us.length := by
  rw [show (us.zip ds).mergeSort (PySem.W.dataLe false Prod.snd) = srtA leP (us.zip ds) from (srtA_eq leP leP_total _).symm] at h
  obtain ⟨h1, h2⟩ := of_each h
  rw [srt_snd, zip_snd hl] at h2
  refine ⟨_, h1, h2, ?_⟩
  have hlen := h.length
  have e1 := (List.mergeSort_perm (us.zip ds) leP).length_eq
  rw [← srtA_eq leP leP_total] at e1
  rw [List.length_map, e1, List.length_zip, hl, Nat.min_self]
/-- sorted(xs) of a list -/
theorem sorted_lst {Hh : Hp} {A : Around} {E : Value → Shared → Prop} {Q : Value → Shared → Prop} {a : Addr} {us : List V} {ds : List PyData} (hu : A.units + 70 < cLine) (I : L2.Inv X pins σ H s) (sm : Same Hh H) (hq : SqL X.K H a us) (hp : RpA X.prog X.w X.K Hh us ds) (ho : allOrd ds = true) (hs : sortable ds = true)
    (q : ∀ us' p s', RpA X.prog X.w X.K Hh us' (sortD ds) → H p = none → L2.Inv X pins σ (upd H p (.lst us')) s' → Q (.ref p) s') :
    wpAny (model X.prog X.w) A (call (.builtin "sorted") [.ref a]) Q E s := by
  obtain ⟨its, rv, pl, hz⟩ := I.list hq
  have S := srt_of I sm rv hp ho hs
  have hl := RpA.length hp
  refine PySem.W.sorted_data (by first | exact pl.isList | simpa using pl.isList) S.each S.reads S.alike S.kind (by rw [List.length_zip, hl, Nat.min_self, ← hl]; exact hz) (fun p hp => by have := S.deep p hp; omega) fun out hlen he => ?_
  obtain ⟨us', r', p', hl'⟩ := srt_out hl he
  obtain ⟨c, hc⟩ := PyProof.Rows.sortedAll_at s.heap its out.toArray
  refine q us' _ _ p' (I.hok.fresh (Nat.le_succ _)) (I.laid (t' := s.toks) (fun b o e => PyProof.Rows.sortedAll_old e) (Nat.le_succ _) ⟨by rw [hl']; exact hz, out, c, r', ?_⟩)
  simpa using hc
theorem raw_hint {prog : Program} {w : World} {A : Around} {E : Value → Shared → Prop} {s : Shared} {d : Addr} {Q : Bool → Shared → Prop} (hT : s.TypeIs (.ref d) "dict") (h : Q false s) : wpAny (model prog w) A (Builtin.List.listLengthHint (.ref d)) Q E s := PySem.W.kdl_hint_dict hT h
/-- a dict as a source of its keys -/
theorem src_raw {prog : Program} {w : World} {d : Addr} {es : Array DictEntry} {ep : Nat} (lo : (d == sysModules) = false) : PySem.W.KdlSrc prog w "dict" d d es.size (fun i v => ∃ hi : i < es.size, v = es[i].key) (fun h => h.DictRaw d es ep) where
  type := fun _ hm => hm.typeIs
  there := fun _ hm => let ⟨_, ho, _⟩ := hm; ⟨Heap.lt_size ho, Heap.lt_size ho⟩
  keep := fun _ _ hm hk => hm.at fun o e => hk d (.inl rfl) o e
  notList := by decide
  notTuple := by decide
  hint := fun _ _ _ _ hm hq => raw_hint hm.typeIs hq
  iter := fun _ s hh hm => ⟨_, _, (fun _ _ hq => wpAny_pyIter_dict_raw lo hm hq), Walks.rawKeys hh _ d (by obtain ⟨_, ho, _⟩ := hm; exact Nat.ne_of_lt (Heap.lt_size ho)) es ep, ⟨⟨_, Heap.get?_push_size _ rfl, rfl, rfl⟩, hm.at fun o e => Heap.get?_push_of_some _ e⟩⟩
theorem keys_vals {w : World} : ∀ {ents : List DictEntry} {es : List Ent} {acc : List Value}, Paired (EntR w) ents es → acc.length = ents.length → (∀ (i : Nat) (v : Value), acc[i]? = some v → ∃ e, ents[i]? = some e ∧ v = e.key) → Vals (es.map (·.1)) acc
  | [], _, [], .nil, _, _ => .nil
  | e :: ents, _, v :: acc, .cons h t, hl, hv => by
    obtain ⟨e', e1, e2⟩ := hv 0 v rfl
    simp only [List.getElem?_cons_zero, Option.some.injEq] at e1
    subst e1
    refine .cons (by rw [e2]; exact h.1) (keys_vals t (by simpa using hl) fun i u hu => ?_)
    obtain ⟨e', q1, q2⟩ := hv (i + 1) u (by simpa using hu)
    exact ⟨e', by simpa using q1, q2⟩
  | [], _, _ :: _, _, hl, _ => by simp at hl
  | _ :: _, _, [], _, hl, _ => by simp at hl
theorem acc_keys {w : World} {ents : Array DictEntry} {es : List Ent} {acc : Array Value} (h : Paired (EntR w) ents.toList es) (ha : PySem.ItemsOf (fun i v => ∃ hi : i < ents.size, v = ents[i].key) acc ents.size) : Vals (es.map (·.1)) acc.toList := by
  refine keys_vals h (by rw [Array.length_toList, Array.length_toList]; exact ha.1) fun i v hv => ?_
  obtain ⟨hi, e⟩ := ha.2 i v (by rw [← Array.getElem?_toList]; exact hv)
  exact ⟨ents[i], by rw [Array.getElem?_toList]; exact Array.getElem?_eq_getElem hi, e⟩
/-- list(d) -/
theorem list_dct {A : Around} {E : Value → Shared → Prop} {Q : Value → Shared → Prop} {a : Addr} {es : List Ent} (hh : A.handled = none) (I : L2.Inv X pins σ H s) (h : DcA X.w H a es) (q : ∀ p s', H p = none → L2.Inv X pins σ (upd H p (.lst (es.map (·.1)))) s' → Q (.ref p) s') :
    wpAny (model X.prog X.w) A (call (.type "list") [.ref a]) Q E s := by
  obtain ⟨o, ents, ep, h0, h1, h2, h3, h4, h5, h6, hz⟩ := dct_obj I h
  refine PySem.W.kdl_call (src_raw h4) hh ⟨o, h1, h2, h3⟩ (by rw [h6]; exact hz) fun h' tk acc c hk hS ha => ?_
  refine q _ _ (I.hok.fresh (Nat.le_refl _)) (I.laid (t' := tk) hk (Nat.le_refl _) ⟨by rw [List.length_map]; exact hz, acc.toList, c, acc_keys h5 ha, ?_⟩)
  simpa using hS
/-- sorted(d) -/
theorem sorted_dct {Hh : Hp} {A : Around} {E : Value → Shared → Prop} {Q : Value → Shared → Prop} {a : Addr} {es : List Ent} (hh : A.handled = none) (hu : A.units + 70 < cLine) (I : L2.Inv X pins σ H s) (sm : Same Hh H) (h : DcA X.w H a es) (hp : RpA X.prog X.w X.K Hh (es.map (·.1)) (es.map (·.2.1))) (ho : allOrd (es.map (·.2.1)) = true) (hs : sortable (es.map (·.2.1)) = true)
    (q : ∀ us' p s', RpA X.prog X.w X.K Hh us' (sortD (es.map (·.2.1))) → H p = none → L2.Inv X pins σ (upd H p (.lst us')) s' → Q (.ref p) s') :
    wpAny (model X.prog X.w) A (call (.builtin "sorted") [.ref a]) Q E s := by
  obtain ⟨o, ents, ep, h0, h1, h2, h3, h4, h5, h6, hz⟩ := dct_obj I h
  refine Calls.call_function_entry kind_sorted plain_sorted entry_sorted (args_sorted1 _) ?_
  unfold Builtin.«sorted»
  refine wpAny_bind (m := checkCount "sorted" 1 1 _) (wpAny_pure ?_)
  refine wpAny_bind (PySem.W.kdu_collect (A := A.in1) (src_raw h4) hh ⟨o, h1, h2, h3⟩ (by rw [h6]; exact hz) fun h' tk acc hk ha => ?_)
  have rv := acc_keys h5 ha
  have hl : acc.toList.length = es.length := by rw [← rv.length, List.length_map]
  refine wpAny_bind (wpAny_newList ?_ (by rw [hl]; exact hz))
  have J : L2.Inv X pins σ H { s with heap := h', toks := tk } := I.kept hk
  have S := srt_of J sm rv hp ho hs
  have hlp := RpA.length hp
  let s1 : Shared := { s with heap := h'.push { cls := .type "list", data := .seq acc.toList.toArray }, toks := tk }
  have hob : s1.heap.get? h'.objs.size = some (seqObj "list" acc.toList.toArray 0) := Heap.get?_push_size _ rfl
  have er' : PySem.W.EachIs (fun v p => ∃ as, Reads (PySem.W.sortingHeap s1.heap h'.objs.size acc.toList) v (Prod.snd p) as) acc.toList ((es.map (·.1)).zip (es.map (·.2.1))) :=
    S.reads.mono fun v p ⟨as, r⟩ => ⟨as, PyProof.Rows.Reads.keeps (fun b o e => PySem.W.sortingHeap_old (Nat.ne_of_lt (Heap.lt_size e)) (Heap.get?_push_of_some _ e)) r⟩
  have hlen : acc.toList.length ≤ sizeLine := by rw [hl]; exact hz
  refine wpAny_bind (wpAny_holding (wpAny_call_entry slot_list_sort ⟨_, hob, rfl⟩ entry_list_sort (PySem.W.list_sort_vals (κ := PySem.W.dataKind (PySem.W.sortingHeap s1.heap h'.objs.size acc.toList) (((es.map (·.1)).zip (es.map (·.2.1))).map Prod.snd)) (s := s1) hob
    (PySem.W.SortsAt.data (s := { s1 with heap := PySem.W.sortingHeap s1.heap h'.objs.size acc.toList }) (PySem.W.each_map (R := fun v d => ∃ as, Reads (PySem.W.sortingHeap s1.heap h'.objs.size acc.toList) v d as) Prod.snd er') S.alike S.kind (PySem.W.bound_map (A := A.in1.in1) fun p hp => by have := S.deep p hp; show A.units + 1 + 1 + _ < _; omega)) hlen ?_) (args_list_sort _)))
  refine ⟨.none, rfl, ?_⟩
  refine wpAny_pure ⟨_, rfl, ?_⟩
  obtain ⟨us', r', p', hl'⟩ := srt_out hlp (PySem.W.sortVals_data false S.each er' S.alike)
  obtain ⟨c, hc⟩ := PyProof.Rows.sortedHeap_at (h := s1.heap) (a := h'.objs.size) (vs := acc.toList) (out := (PySem.W.sortVals (PySem.W.dataKind (PySem.W.sortingHeap s1.heap h'.objs.size acc.toList) (((es.map (·.1)).zip (es.map (·.2.1))).map Prod.snd)) false acc.toList acc.toList).toArray) hob
  refine q us' _ _ p' (J.hok.fresh (Nat.le_refl _)) (J.laid (t' := tk) (fun b o e => ?_) (Nat.le_refl _) ⟨by rw [hl', List.length_map]; exact hz, _, c, r', by simpa using hc⟩)
  have hlt : b < h'.objs.size := Heap.lt_size e
  show (sortedHeap s1.heap h'.objs.size acc.toList _).get? b = some o
  rw [PyProof.Rows.sortedHeap_old (Nat.ne_of_lt hlt) (by show b < (h'.push _).objs.size; rw [size_push']; exact Nat.lt_succ_of_lt hlt)]
  exact Heap.get?_push_of_some _ e
theorem minD_mem {x : PyData} : ∀ (xs : List PyData), PySem.W.minD x xs ∈ x :: xs := by
  intro xs
  unfold PySem.W.minD
  induction xs generalizing x with
  | nil => exact List.mem_cons_self ..
  | cons y ys ih =>
    rw [List.foldl_cons]
    rcases List.mem_cons.mp (ih (x := if PySem.W.dataLt y x = true then y else x)) with e | e
    · rw [e]
      split
      · exact List.mem_cons_of_mem _ (List.mem_cons_self ..)
      · exact List.mem_cons_self ..
    · exact List.mem_cons_of_mem _ (List.mem_cons_of_mem _ e)
theorem maxD_mem {x : PyData} : ∀ (xs : List PyData), PySem.W.maxD x xs ∈ x :: xs := by
  intro xs
  unfold PySem.W.maxD
  induction xs generalizing x with
  | nil => exact List.mem_cons_self ..
  | cons y ys ih =>
    rw [List.foldl_cons]
    rcases List.mem_cons.mp (ih (x := if PySem.W.dataLt x y = true then y else x)) with e | e
    · rw [e]
      split
      · exact List.mem_cons_of_mem _ (List.mem_cons_self ..)
      · exact List.mem_cons_self ..
    · exact List.mem_cons_of_mem _ (List.mem_cons_of_mem _ e)
/-- what the least and the greatest need -/
theorem best_of {A : Around} {vs : List Value} {us : List V} {ds : List PyData} (hu : A.units + 70 < cLine) (I : L2.Inv X pins σ H s) (r : Vals us vs) (hp : RpA X.prog X.w X.K H us ds) (ho : allOrd ds = true) :
    (∃ as, ReadsAll s.heap vs ds as) ∧ PySem.W.AlikeAll ds ∧ A.units + 1 + PyData.depthAll ds < cLine := by
  obtain ⟨c1, c2⟩ := all_lay (shaped_all ho)
  obtain ⟨h1, h2⟩ := allOrd_ok ho
  exact ⟨rpA_reads I c1 hp r, ⟨fun x hx y hy => h2 x hx y hy, fun x hx => (h1 x hx).1⟩, by omega⟩
theorem best_at {vs : List Value} {us : List V} {ds : List PyData} {m : PyData} {h' : Heap} {i : Nat} {v : Value} {bs : List Addr} (I : L2.Inv X pins σ H s) (r : Vals us vs) (hp : RpA X.prog X.w X.K H us ds) (ho : allOrd ds = true) (hm : m ∈ ds) (hv : vs[i]? = some v) (hr : Reads h' v m bs) (hk : ∀ b o, s.heap.get? b = some o → h'.get? b = some o) :
    ∃ u, us[i]? = some u ∧ L2.RelV u v ∧ ds[i]? = some m := by
  have hi : i < ds.length := by
    have h1 : i < vs.length := (List.getElem?_eq_some_iff.mp hv).1
    rw [← RpA.length hp, r.length]
    exact h1
  obtain ⟨u, hu, ru⟩ := RpA.get hp (List.getElem?_eq_getElem hi)
  obtain ⟨v', hv', rv'⟩ := r.get hu
  rw [hv] at hv'
  cases hv'
  obtain ⟨as, q⟩ := rp_reads I (SeqAt.canLay_of_shaped ((allOrd_ok ho).1 _ (List.getElem_mem hi)).2) ru rv'
  have e := PySem.W.alike_unique _ _ _ _ _ ((allOrd_ok ho).2 _ (List.getElem_mem hi) _ hm) (PyProof.Rows.Reads.keeps hk q) hr
  exact ⟨u, hu, rv', by rw [← e]; exact List.getElem?_eq_getElem hi⟩
end
end MI

set_option Elab.async false
set_option linter.all false
set_option maxRecDepth 100000
set_option maxHeartbeats 1000000
/-! MI: the rules by values: built-ins. -/
namespace MI
open PySem PySem.Spec L2
open PyProof.Rows hiding St

/-- the built-in behind a name -/
def bltId : Blt → Value
  | .len => .builtin "len"
  | .abs => .builtin "abs"
  | .int => .type "int"
  | .max2 => .builtin "max"
  | .min2 => .builtin "min"
  | .minS => .builtin "min"
  | .maxS => .builtin "max"
  | .sum => .builtin "sum"
  | .any => .builtin "any"
  | .all => .builtin "all"
  | .sorted => .builtin "sorted"
  | .tuple => .type "tuple"
  | .list => .type "list"
  | .range1 => .type "list"
  | .repr => .builtin "repr"
theorem blt1_boot : ∀ p ∈ blt1, bootBuiltins p.1 = some (bltId p.2) := by
  simp only [blt1, List.forall_mem_cons]
  refine ⟨by kernel_rfl, by kernel_rfl, by kernel_rfl, by kernel_rfl, by kernel_rfl, by kernel_rfl, by kernel_rfl, by kernel_rfl, by kernel_rfl, by kernel_rfl, by kernel_rfl, by kernel_rfl, fun _ h => by cases h⟩
theorem blt2_boot : ∀ p ∈ blt2, bootBuiltins p.1 = some (bltId p.2) := by
  simp only [blt2, List.forall_mem_cons]
  refine ⟨by kernel_rfl, by kernel_rfl, fun _ h => by cases h⟩
theorem bltOf_boot {x : Str} {n : Nat} {b : Blt} (h : bltOf x n = some b) : bootBuiltins x = some (bltId b) := by
  unfold bltOf at h
  split at h
  · exact blt1_boot _ (PySem.mem_of_lookup h)
  · split at h
    · exact blt2_boot _ (PySem.mem_of_lookup h)
    · cases h

section
variable {X : Cx} {Φ : Fx} {Z : L2.WX}
variable {A : Addr → Prop} {f : List Addr} {s : MS} {σ : St} {H : Hp}
theorem pv1 {W : Wd} {xs : List V} {v : Val} {Hh : Hp} (r : PV W f Hh xs [v]) : ∃ x, xs = [x] ∧ RepV W f Hh x v := by
  cases r with
  | cons r t => cases t; exact ⟨_, rfl, r⟩
theorem pv2 {W : Wd} {xs : List V} {v w : Val} {Hh : Hp} (r : PV W f Hh xs [v, w]) : ∃ x y, xs = [x, y] ∧ RepV W f Hh x v ∧ RepV W f Hh y w := by
  cases r with
  | cons r t =>
    cases t with
    | cons r2 t2 => cases t2; exact ⟨_, _, rfl, r, r2⟩
/-- an own object or data behind an option -/
theorem go_ofO {W : Wx} {o : Option Val} {Q : VK} (h : GoO W Z (RlV W) A f s.objs σ H Q (ofO o s)) : ∃ v, o = some v ∧ GoO W Z (RlV W) A f s.objs σ H Q (.ok v s) := by
  cases o with
  | none => exact h.elim
  | some v => exact ⟨v, rfl, h⟩
theorem map_some {α β : Type} {o : Option α} {g : α → β} {b : β} (h : o.map g = some b) : ∃ a, o = some a ∧ b = g a := by
  cases o with
  | none => cases h
  | some a => cases h; exact ⟨a, rfl, rfl⟩
/-- len of a dict -/
theorem call_lenDct : CallR X (.builtin "len") (fun xs H Q => ∃ p es, xs = [.ref p] ∧ DcA X.w H p es ∧ Q (.int es.length) H) := by
  intro pins s σ H xs us Q I r ⟨p, es, e, h, q⟩
  subst e
  obtain ⟨u, rfl, rx⟩ := vals1 r
  cases rx
  obtain ⟨o, ents, ep, h0, h1, h2, h3, h4, h5, h6, hz⟩ := dct_obj I h
  have hs : sizeLine = 16777216 := sizeLine_eq
  refine call_len_slot (n := (es.length : Int)) ⟨o, h1, h2.1⟩ PySem.F.slot_dict_len (fun Q' hq => call_len_raw h4 ⟨o, h1, h2, h3⟩ (by rw [h6]; exact hq)) (by omega) (by omega) ⟨.int _, H, I.tok _, ⟨_, rfl⟩, q⟩
theorem cr_len : CallR X (.builtin "len") (rVn X Φ Z lenB) := by
  intro pins st σ1 H us ws Q I rx ⟨σ, A, f, s, vs, r, rv, g⟩
  unfold lenB at g
  split at g
  · rename_i v
    obtain ⟨x, rfl, r1⟩ := pv1 rv
    obtain ⟨y, e0, g1⟩ := go_ofO g
    obtain ⟨n, e, rfl⟩ := map_some e0
    have q : Q (.int n) H := go_d g1 r (.int n)
    unfold lenOf at e
    split at e
    · rename_i xs ei
      cases e
      obtain ⟨a, us, rfl, hq, hv⟩ := items_ok ei r r1
      have hl := Paired.length' hv
      refine call_len pins st σ1 H _ ws Q I rx ⟨_, xs.length, rfl, ?_, q⟩
      rcases hq with hq | hq
      · exact .inl ⟨us, hq, hl.symm⟩
      · exact .inr ⟨us, hq, hl.symm⟩
    · split at e
      · rename_i kvs ek
        cases e
        obtain ⟨a, es, rfl, h1, h2, h3, h4⟩ := kvs_ok ek r r1
        have hl : es.length = kvs.length := by simpa using congrArg List.length h3
        exact call_lenDct pins st σ1 H _ ws Q I rx ⟨a, es, rfl, h1, by rw [hl]; exact q⟩
      · split at e
        · split at e
          · rename_i z _ _ hz
            cases e
            cases r1
            exact call_len pins st σ1 H _ ws Q I rx ⟨_, z.length, rfl, ⟨by rw [line_eq]; exact hz, rfl⟩, q⟩
          · cases e
        · cases e
  · exact g.elim
theorem cr_absV : CallR X (.builtin "abs") (rVn X Φ Z absB) := by
  intro pins st σ1 H us ws Q I rx ⟨σ, A, f, s, vs, r, rv, g⟩
  unfold absB at g
  split at g
  · obtain ⟨x, rfl, r1⟩ := pv1 rv
    obtain rfl := rep_int r1
    exact call_abs pins st σ1 H _ ws Q I rx ⟨_, rfl, go_d g r (.int _)⟩
  · exact g.elim
theorem cr_intV : CallR X (.type "int") (rVn X Φ Z intB) := by
  intro pins st σ1 H us ws Q I rx ⟨σ, A, f, s, vs, r, rv, g⟩
  unfold intB at g
  split at g
  · obtain ⟨x, rfl, r1⟩ := pv1 rv
    obtain rfl := rep_int r1
    exact call_int1 pins st σ1 H _ ws Q I rx (.inl ⟨_, rfl, go_d g r (.int _)⟩)
  · obtain ⟨x, rfl, r1⟩ := pv1 rv
    obtain rfl := rp_bl r1
    exact call_int1 pins st σ1 H _ ws Q I rx (.inr ⟨_, rfl, go_d g r (.int _)⟩)
  · exact g.elim
theorem cr_max2V (hc : X.calm = true) : CallR X (.builtin "max") (rVn X Φ Z max2B) := by
  intro pins st σ1 H us ws Q I rx ⟨σ, A, f, s, vs, r, rv, g⟩
  unfold max2B at g
  split at g
  · obtain ⟨x, y, rfl, r1, r2⟩ := pv2 rv
    obtain rfl := rep_int r1
    obtain rfl := rep_int r2
    exact call_max2 hc pins st σ1 H _ ws Q I rx ⟨_, _, rfl, go_d g r (.int _)⟩
  · exact g.elim
theorem cr_min2V (hc : X.calm = true) : CallR X (.builtin "min") (rVn X Φ Z min2B) := by
  intro pins st σ1 H us ws Q I rx ⟨σ, A, f, s, vs, r, rv, g⟩
  unfold min2B at g
  split at g
  · obtain ⟨x, y, rfl, r1, r2⟩ := pv2 rv
    obtain rfl := rep_int r1
    obtain rfl := rep_int r2
    exact call_min2 hc pins st σ1 H _ ws Q I rx ⟨_, _, rfl, go_d g r (.int _)⟩
  · exact g.elim
theorem pureItems_ok {W : Wd} {v : Val} {u : V} {ds : List PyData} (h : pureItems s.objs v = some ds) (r : R W A f s σ H) (rv : RepV W f (hid A f s.objs H) u v) :
    ∃ a us, u = .ref a ∧ (SqL W.K H a us ∨ SqT W.K H a us) ∧ W.rpA (hid A f s.objs H) us ds := by
  unfold pureItems at h
  split at h
  · rename_i vs e
    obtain ⟨a, us, e1, h1, h2⟩ := items_ok e r rv
    exact ⟨a, us, e1, h1, pures_ok h h2⟩
  · cases h
theorem rpA_ints {P : Program} {w : World} {K : PySem.W.Frag} {H : Hp} : ∀ {ns : List Int} {us : List V}, RpA P w K H us (ns.map .int) → us = ns.map V.int
  | [], _, h => by cases h; rfl
  | n :: ns, _, h => by
    cases h with
    | cons h1 h2 => cases h1; rw [rpA_ints h2]; rfl
theorem sumI_ok : ∀ {ds : List PyData} {j : Int}, sumI ds = some j → ∃ ns : List Int, ds = ns.map .int ∧ j = ns.sum
  | [], j, h => by cases h; exact ⟨[], rfl, rfl⟩
  | .int i :: r, j, h => by
    unfold sumI at h
    split at h
    · rename_i k e
      cases h
      obtain ⟨ns, e1, e2⟩ := sumI_ok e
      exact ⟨i :: ns, by rw [e1]; rfl, by rw [e2]; rfl⟩
    · cases h
  | .none :: _, _, h => by cases h
  | .bool _ :: _, _, h => by cases h
  | .str _ :: _, _, h => by cases h
  | .list _ :: _, _, h => by cases h
  | .tuple _ :: _, _, h => by cases h
  | .dict _ :: _, _, h => by cases h
theorem bools_ok : ∀ {ds : List PyData} {bs : List Bool}, bools ds = some bs → ds = bs.map .bool
  | [], _, h => by cases h; rfl
  | .bool b :: r, _, h => by
    unfold bools at h
    split at h
    · rename_i bs e
      cases h
      rw [bools_ok e]
      rfl
    · cases h
  | .none :: _, _, h => by cases h
  | .int _ :: _, _, h => by cases h
  | .str _ :: _, _, h => by cases h
  | .list _ :: _, _, h => by cases h
  | .tuple _ :: _, _, h => by cases h
  | .dict _ :: _, _, h => by cases h
theorem rpA_bools {P : Program} {w : World} {K : PySem.W.Frag} {H : Hp} : ∀ {ns : List Bool} {us : List V}, RpA P w K H us (ns.map .bool) → us = ns.map V.bl
  | [], _, h => by cases h; rfl
  | n :: ns, _, h => by
    cases h with
    | cons h1 h2 => cases h1; rw [rpA_bools h2]; rfl
theorem cr_sumV (hc : X.calm = true) : CallR X (.builtin "sum") (rVn X Φ Z sumB) := by
  intro pins st σ1 H us ws Q I rx ⟨σ, A, f, s, vs, r, rv, g⟩
  unfold sumB at g
  split at g
  · obtain ⟨x, rfl, r1⟩ := pv1 rv
    split at g
    · exact g.elim
    rename_i ht
    have ht : tyOf s.objs _ = some .list := Classical.byContradiction ht
    split at g
    · rename_i ds e
      obtain ⟨y, e2, g1⟩ := go_ofO g
      obtain ⟨n, e3, rfl⟩ := map_some e2
      obtain ⟨ns, rfl, rfl⟩ := sumI_ok e3
      unfold pureItems at e
      split at e
      rotate_left
      · cases e
      rename_i vs' ei'
      obtain ⟨a, us, rfl, hq, hv⟩ := items_list ei' ht r r1
      have hp := pures_ok e hv
      obtain rfl := rpA_ints hp
      exact L2.cr_sum hc pins st σ1 H _ ws Q I rx ⟨a, ns, rfl, hq, go_d g1 r (.int _)⟩
    · exact g.elim
  · exact g.elim
theorem cr_anyV (hc : X.calm = true) : CallR X (.builtin "any") (rVn X Φ Z anyB) := by
  intro pins st σ1 H us ws Q I rx ⟨σ, A, f, s, vs, r, rv, g⟩
  unfold anyB at g
  split at g
  · obtain ⟨x, rfl, r1⟩ := pv1 rv
    split at g
    · exact g.elim
    rename_i ht
    have ht : tyOf s.objs _ = some .list := Classical.byContradiction ht
    split at g
    · rename_i ds e
      obtain ⟨y, e2, g1⟩ := go_ofO g
      obtain ⟨bs, e3, rfl⟩ := map_some e2
      obtain rfl := bools_ok e3
      unfold pureItems at e
      split at e
      rotate_left
      · cases e
      rename_i vs' ei'
      obtain ⟨a, us, rfl, hq, hv⟩ := items_list ei' ht r r1
      have hp := pures_ok e hv
      obtain rfl := rpA_bools hp
      exact L2.cr_any hc pins st σ1 H _ ws Q I rx ⟨a, bs, rfl, hq, go_d g1 r (.bl _)⟩
    · exact g.elim
  · exact g.elim
theorem cr_allV (hc : X.calm = true) : CallR X (.builtin "all") (rVn X Φ Z allB) := by
  intro pins st σ1 H us ws Q I rx ⟨σ, A, f, s, vs, r, rv, g⟩
  unfold allB at g
  split at g
  · obtain ⟨x, rfl, r1⟩ := pv1 rv
    split at g
    · exact g.elim
    rename_i ht
    have ht : tyOf s.objs _ = some .list := Classical.byContradiction ht
    split at g
    · rename_i ds e
      obtain ⟨y, e2, g1⟩ := go_ofO g
      obtain ⟨bs, e3, rfl⟩ := map_some e2
      obtain rfl := bools_ok e3
      unfold pureItems at e
      split at e
      rotate_left
      · cases e
      rename_i vs' ei'
      obtain ⟨a, us, rfl, hq, hv⟩ := items_list ei' ht r r1
      have hp := pures_ok e hv
      obtain rfl := rpA_bools hp
      exact L2.cr_all hc pins st σ1 H _ ws Q I rx ⟨a, bs, rfl, hq, go_d g1 r (.bl _)⟩
    · exact g.elim
  · exact g.elim
theorem go_rp {W : Wx} {x : PyData} {u : V} {Q : VK} (h : GoO W Z (RlV W) A f s.objs σ H Q (.ok (.d x) s)) (r : R W.toWd A f s σ H) (hr : W.rp (hid A f s.objs H) u x) : Q u H := go_d h r hr
theorem call_minSq (hc : X.calm = true) (hu : X.A.units + 70 < cLine) : CallR X (.builtin "min") (fun vs H Q => ∃ (a : Addr) (us : List V) (d : PyData) (ds : List PyData), vs = [V.ref a] ∧ (SqL X.K H a us ∨ SqT X.K H a us) ∧ RpA X.prog X.w X.K H us (d :: ds) ∧ allOrd (d :: ds) = true ∧ ∀ (k : Nat) (u : V), us[k]? = some u → (d :: ds)[k]? = some (PySem.W.minD d ds) → Q u H) := by
  intro pins s σ H xs us Q I r ⟨a, vs, d, ds, e, hq, hp, ho, q⟩
  subst e
  obtain ⟨u, rfl, rx⟩ := vals1 r
  cases rx
  rcases hq with hq | hq
  · obtain ⟨its, rv, pl, hz⟩ := I.list hq
    obtain ⟨⟨as, hr⟩, ha, hb⟩ := best_of (A := X.A) hu I rv hp ho
    refine PySem.W.min_list_data (I.ok.hd hc) pl.isList (by simpa using hr) ha hb fun i v h' tk bs hv hr' hk => ?_
    obtain ⟨u, h1, h2, h3⟩ := best_at (m := PySem.W.minD d ds) I rv hp ho (minD_mem ds) (by simpa using hv) hr' hk
    exact ⟨u, H, I.kept hk, h2, q i u h1 h3⟩
  · obtain ⟨its, rv, pl, hz⟩ := I.tuple hq
    obtain ⟨⟨as, hr⟩, ha, hb⟩ := best_of (A := X.A) hu I rv hp ho
    refine PySem.W.min_tuple_data (I.ok.hd hc) (show s.heap.IsTuple a its.toArray from pl) (by simpa using hr) ha hb fun i v h' tk bs hv hr' hk => ?_
    obtain ⟨u, h1, h2, h3⟩ := best_at (m := PySem.W.minD d ds) I rv hp ho (minD_mem ds) (by simpa using hv) hr' hk
    exact ⟨u, H, I.kept hk, h2, q i u h1 h3⟩
theorem call_maxSq (hc : X.calm = true) (hu : X.A.units + 70 < cLine) : CallR X (.builtin "max") (fun vs H Q => ∃ (a : Addr) (us : List V) (d : PyData) (ds : List PyData), vs = [V.ref a] ∧ (SqL X.K H a us ∨ SqT X.K H a us) ∧ RpA X.prog X.w X.K H us (d :: ds) ∧ allOrd (d :: ds) = true ∧ ∀ (k : Nat) (u : V), us[k]? = some u → (d :: ds)[k]? = some (PySem.W.maxD d ds) → Q u H) := by
  intro pins s σ H xs us Q I r ⟨a, vs, d, ds, e, hq, hp, ho, q⟩
  subst e
  obtain ⟨u, rfl, rx⟩ := vals1 r
  cases rx
  rcases hq with hq | hq
  · obtain ⟨its, rv, pl, hz⟩ := I.list hq
    obtain ⟨⟨as, hr⟩, ha, hb⟩ := best_of (A := X.A) hu I rv hp ho
    refine PySem.W.max_list_data (I.ok.hd hc) pl.isList (by simpa using hr) ha hb fun i v h' tk bs hv hr' hk => ?_
    obtain ⟨u, h1, h2, h3⟩ := best_at (m := PySem.W.maxD d ds) I rv hp ho (maxD_mem ds) (by simpa using hv) hr' hk
    exact ⟨u, H, I.kept hk, h2, q i u h1 h3⟩
  · obtain ⟨its, rv, pl, hz⟩ := I.tuple hq
    obtain ⟨⟨as, hr⟩, ha, hb⟩ := best_of (A := X.A) hu I rv hp ho
    refine PySem.W.max_tuple_data (I.ok.hd hc) (show s.heap.IsTuple a its.toArray from pl) (by simpa using hr) ha hb fun i v h' tk bs hv hr' hk => ?_
    obtain ⟨u, h1, h2, h3⟩ := best_at (m := PySem.W.maxD d ds) I rv hp ho (maxD_mem ds) (by simpa using hv) hr' hk
    exact ⟨u, H, I.kept hk, h2, q i u h1 h3⟩
theorem cr_minSV (hc : X.calm = true) (hu : X.A.units + 70 < cLine) : CallR X (.builtin "min") (rVn X Φ Z minSB) := by
  intro pins st σ1 H us ws Q I rx ⟨σ, A, f, s, vs, r, rv, g⟩
  unfold minSB at g
  split at g
  · obtain ⟨x, rfl, r1⟩ := pv1 rv
    split at g
    · rename_i d ds e
      split at g
      · rename_i ho
        obtain ⟨a, us, rfl, hq, hp⟩ := pureItems_ok e r r1
        refine call_minSq hc hu pins st σ1 H _ ws Q I rx ⟨a, us, d, ds, rfl, hq, rpA_mono hp, ho, fun k u e1 e2 => ?_⟩
        obtain ⟨u', e3, hr⟩ := RpA.get hp e2
        rw [e1] at e3
        cases e3
        exact go_d g r hr
      · exact g.elim
    · exact g.elim
  · exact g.elim
theorem cr_maxSV (hc : X.calm = true) (hu : X.A.units + 70 < cLine) : CallR X (.builtin "max") (rVn X Φ Z maxSB) := by
  intro pins st σ1 H us ws Q I rx ⟨σ, A, f, s, vs, r, rv, g⟩
  unfold maxSB at g
  split at g
  · obtain ⟨x, rfl, r1⟩ := pv1 rv
    split at g
    · rename_i d ds e
      split at g
      · rename_i ho
        obtain ⟨a, us, rfl, hq, hp⟩ := pureItems_ok e r r1
        refine call_maxSq hc hu pins st σ1 H _ ws Q I rx ⟨a, us, d, ds, rfl, hq, rpA_mono hp, ho, fun k u e1 e2 => ?_⟩
        obtain ⟨u', e3, hr⟩ := RpA.get hp e2
        rw [e1] at e3
        cases e3
        exact go_d g r hr
      · exact g.elim
    · exact g.elim
  · exact g.elim
theorem items_ty {os : List MO} {v : Val} {vs : List Val} (h : items os v = some vs) : tyOf os v = some .list ∨ tyOf os v = some .tuple := by
  cases v with
  | d d => cases d <;> first | exact .inl rfl | exact .inr rfl | cases h
  | ref n =>
    unfold items at h
    unfold tyOf
    simp only at h ⊢
    split at h
    · rename_i e
      rw [e]
      exact .inl rfl
    · cases h
  | fn g => cases h
theorem frzL_data {os : List MO} : ∀ ds : List PyData, frzL (frz FD) os (ds.map .d) = some (ds, os)
  | [] => rfl
  | d :: ds => by
    rw [List.map_cons]
    unfold frzL
    rw [show frz FD os (.d d) = some (d, os) from rfl]
    simp only
    rw [frzL_data ds]
/-- tuple(x) -/
theorem cr_tupleV : CallR X (.type "tuple") (rVn X Φ Z tupleB) := by
  intro pins st σ1 H us ws Q I rx ⟨σ, A, f, s, vs, r, rv, g⟩
  unfold tupleB at g
  split at g
  · rename_i v
    obtain ⟨x, rfl, r1⟩ := pv1 rv
    split at g
    · rename_i xs ei
      split at g
      · rename_i ds os ef
        rcases items_ty ei with ht | ht
        · obtain ⟨a, us, rfl, hq, hv⟩ := items_list ei ht r r1
          obtain ⟨z, hp⟩ := frzs_ok ef r hv
          have g' := GoO.rebase g (z.ext (f := f) (H := H))
          exact call_tuple_of pins st σ1 H _ ws Q I rx ⟨a, us, rfl, .inl ⟨hq, fun l hl => go_tuple (s := { s with objs := os }) g' (r.fz z) hp hl⟩⟩
        · obtain ⟨a, us, es, rfl, rfl, rfl, hq, hp⟩ := items_tuple ei ht r r1
          unfold frzs at ef
          rw [frzL_data] at ef
          cases ef
          exact call_tuple_of pins st σ1 H _ ws Q I rx ⟨a, us, rfl, .inr ⟨hq, go_d g r r1⟩⟩
      · exact g.elim
    · exact g.elim
  · exact g.elim
/-- the list of a dict's keys -/
theorem call_listDct (hc : X.calm = true) : CallR X (.type "list") (fun xs H Q => ∃ p es, xs = [.ref p] ∧ DcA X.w H p es ∧ ∀ l, H l = none → Q (.ref l) (upd H l (.lst (es.map (·.1))))) := by
  intro pins s σ H xs us Q I r ⟨p, es, e, h, q⟩
  subst e
  obtain ⟨u, rfl, rx⟩ := vals1 r
  cases rx
  exact list_dct (I.ok.hd hc) I h fun l s' hl I' => ⟨.ref l, _, I', rfl, q l hl⟩
theorem cr_listV (hc : X.calm = true) : CallR X (.type "list") (rVn X Φ Z listB) := by
  intro pins st σ1 H us ws Q I rx ⟨σ, A, f, s, vs, r, rv, g⟩
  unfold listB at g
  split at g
  · rename_i v
    obtain ⟨x, rfl, r1⟩ := pv1 rv
    split at g
    · rename_i xs ei
      obtain ⟨a, us, rfl, hq, hv⟩ := items_ok ei r r1
      exact call_list_of pins st σ1 H _ ws Q I rx ⟨a, us, rfl, hq, (go_newLst g r hv).2⟩
    · split at g
      · rename_i kvs ek
        obtain ⟨a, es, rfl, h1, h2, h3, h4⟩ := kvs_ok ek r r1
        rw [h3] at h2
        have hv : PV (wx X Φ).toWd f (hid A f s.objs H) (es.map (·.1)) (kvs.map fun p => .d p.1) := by
          have := PV_map (W := (wx X Φ).toWd) (f := f) h2
          simpa [Function.comp_def] using this
        exact call_listDct hc pins st σ1 H _ ws Q I rx ⟨a, es, rfl, h1, (go_newLst g r hv).2⟩
      · exact g.elim
  · exact g.elim
theorem cr_sortedV (hc : X.calm = true) (hu : X.A.units + 70 < cLine) : CallR X (.builtin "sorted") (rVn X Φ Z sortedB) := by
  intro pins st σ1 H us ws Q I rx ⟨σ, A, f, s, vs, r, rv, g⟩
  unfold sortedB at g
  split at g
  · rename_i v
    obtain ⟨x, rfl, r1⟩ := pv1 rv
    obtain ⟨u, rfl, ry⟩ := vals1 rx
    split at g
    · rename_i ds ei
      split at g
      · exact g.elim
      · rename_i ht
        have ht : tyOf s.objs v = some .list := Classical.byContradiction ht
        split at g
        · rename_i ho
          rw [Bool.and_eq_true] at ho
          unfold pureItems at ei
          split at ei
          · rename_i vs' ei'
            obtain ⟨a, us, rfl, hq, hv⟩ := items_list ei' ht r r1
            cases ry
            exact sorted_lst hu I hid_sub (hq) (pures_ok ei hv) ho.1 ho.2 fun us' p s' hp hn I' => ⟨.ref p, _, I', rfl, (go_newLst g r (PV_map hp)).2 p hn⟩
          · cases ei
        · exact g.elim
    · split at g
      · rename_i kvs ek
        split at g
        · rename_i ho
          rw [Bool.and_eq_true] at ho
          obtain ⟨a, es, rfl, h1, h2, h3, h4⟩ := kvs_ok ek r r1
          cases ry
          rw [← h3] at ho g
          exact sorted_dct (I.ok.hd hc) hu I hid_sub h1 h2 ho.1 ho.2 fun us' p s' hp hn I' => ⟨.ref p, _, I', rfl, (go_newLst g r (PV_map hp)).2 p hn⟩
        · exact g.elim
      · exact g.elim
  · exact g.elim
mutual
theorem noDict_of_lay : ∀ d : PyData, d.canLay0 = true → d.hasDict = false
  | .none, _ => by simp [PyData.hasDict]
  | .bool _, _ => by simp [PyData.hasDict]
  | .int _, _ => by simp [PyData.hasDict]
  | .str _, _ => by simp [PyData.hasDict]
  | .list ds, h => by
    simp only [PyData.hasDict]
    exact noDicts_of_lay ds (by simpa [PyData.canLay0] using h)
  | .tuple ds, h => by
    simp only [PyData.hasDict]
    exact noDicts_of_lay ds (by simpa [PyData.canLay0] using h)
  | .dict _, h => by simp [PyData.canLay0] at h
theorem noDicts_of_lay : ∀ ds : List PyData, PyData.canLayAll0 ds = true → PyData.hasDictAll ds = false
  | [], _ => by simp [PyData.hasDictAll]
  | d :: ds, h => by
    simp only [PyData.canLayAll0, Bool.and_eq_true] at h
    simp only [PyData.hasDictAll, noDict_of_lay d h.1, noDicts_of_lay ds h.2, Bool.or_false]
end
theorem cr_reprV (hg : X.A.guards = some []) (hu : X.A.units + 70 < cLine) : CallR X (.builtin "repr") (rVn X Φ Z reprB) := by
  intro pins st σ1 H us ws Q I rx ⟨σ, A, f, s, vs, r, rv, g⟩
  unfold reprB at g
  split at g
  · rename_i v
    obtain ⟨x, rfl, r1⟩ := pv1 rv
    obtain ⟨u, rfl, ry⟩ := vals1 rx
    split at g
    · rename_i d e
      split at g
      · rename_i hz
        simp only [Bool.and_eq_true] at hz
        have hd := snap_ok e r r1
        have hl : d.shown.length ≤ sizeLine := sizeOk_of hz.1.2
        have q : Q (.str d.shown) H := go_d g r (.str _)
        have hs := SeqAt.canLay_of_shaped hz.2
        have dp := SeqAt.depth_of_shaped hz.2
        have cont : ∀ a, x = .ref a → wpAny (model X.prog X.w) X.A (call (.builtin "repr") [u]) (EP X pins σ1 Q) X.xe st := fun a ex => by
          subst ex
          cases ry
          obtain ⟨as, hr⟩ := rp_reads I hs hd rfl
          exact repr_of_reads' hr hz.1.1 (fun z => by rw [noDict_of_lay d hs] at z; cases z) hg (by omega) (fun _ _ e => e) (fun h' u tk hk => ⟨.str _, H, I.kept hk, ⟨_, rfl⟩, q⟩) hl
        cases hd with
        | non => cases ry; exact PySem.P.repr_of_none ⟨.str _, H, I.tok _, ⟨_, rfl⟩, q⟩
        | bl b => cases ry; exact PySem.P.repr_of_bool ⟨.str _, H, I.tok _, ⟨_, rfl⟩, q⟩
        | int i =>
          obtain ⟨t, rfl⟩ := ry
          exact PySem.P.repr_of_int (by simpa [PyData.showable] using hz.1.1) ⟨.str _, H, I.tok _, ⟨_, rfl⟩, q⟩
        | str i =>
          obtain ⟨t, rfl⟩ := ry
          exact PySem.P.repr_of_str ⟨.str _, H, I.tok _, ⟨_, rfl⟩, q⟩ hl
        | lst h1 h2 => exact cont _ rfl
        | tup h1 h2 => exact cont _ rfl
        | dct h1 h2 h3 h4 => exact cont _ rfl
      · exact g.elim
    · exact g.elim
  · exact g.elim
theorem cr_blt (b : Blt) (hg : b = .repr → X.A.guards = some []) (hc : X.calm = true) (hu : X.A.units + 70 < cLine) (h : b ≠ .range1) : CallR X (bltId b) (rVn X Φ Z (bltV b)) := by
  cases b
  case len => exact cr_len
  case abs => exact cr_absV
  case int => exact cr_intV
  case max2 => exact cr_max2V hc
  case min2 => exact cr_min2V hc
  case minS => exact cr_minSV hc hu
  case maxS => exact cr_maxSV hc hu
  case sum => exact cr_sumV hc
  case any => exact cr_anyV hc
  case all => exact cr_allV hc
  case sorted => exact cr_sortedV hc hu
  case tuple => exact cr_tupleV
  case list => exact cr_listV hc
  case range1 => exact absurd rfl h
  case repr => exact cr_reprV (hg rfl) hu
end
end MI

set_option Elab.async false
set_option linter.all false
set_option maxRecDepth 100000
set_option maxHeartbeats 1000000
/-! MI: the rules by values: methods. -/
namespace MI
open PySem PySem.Spec L2
open PyProof.Rows hiding St

section
variable {X : Cx} {Φ : Fx} {Z : L2.WX}
variable {A : Addr → Prop} {f : List Addr} {s : MS} {σ : St} {H : Hp}
theorem pv0 {W : Wd} {xs : List V} {Hh : Hp} (r : PV W f Hh xs []) : xs = [] := by cases r; rfl
/-- an own live list -/
theorem live_lst {W : Wd} {n : Nat} {u : V} {xs : List Val} (e : s.objs[n]? = some (.lst xs true)) (r : R W A f s σ H) (rv : RepV W f (hid A f s.objs H) u (.ref n)) :
    ∃ a us, u = .ref a ∧ f[n]? = some a ∧ H a = some (.lst us) ∧ PV W f (hid A f s.objs H) us xs := by
  obtain ⟨a, hn, rfl⟩ := rv
  obtain ⟨us, h1, h2⟩ := r.obj n _ a e hn
  exact ⟨a, us, rfl, hn, h1, h2⟩
/-- an own live list is changed: what follows -/
theorem go_set {W : Wx} {n : Nat} {a : Addr} {mo mo' : MO} {o : HO} {v : Val} {u : V} {Q : VK} (hn : f[n]? = some a) (h1 : s.objs[n]? = some mo) (hl : mo.live = true) (hl' : mo'.live = true) (r : R W.toWd A f s σ H)
    (hp : ObjR W.toWd f (hid A f s.objs H) (upd H a o) a mo') (rv : RepV W.toWd f (hid A f s.objs H) u v)
    (g : GoO W Z (RlV W) A f s.objs σ H Q (.ok v { s with objs := s.objs.set n mo' })) : Q u (upd H a o) := by
  have e : hid A f (s.objs.set n mo') (upd H a o) = hid A f s.objs H := hid_set hn h1 hl hl'
  refine g f (upd H a o) u (Ext.store hn h1 hl hl') (r.store hn h1 hl hl' hp) ?_
  show RepV W.toWd f (hid A f (s.objs.set n mo') (upd H a o)) u v
  rw [e]
  exact rv
theorem obj_lst {W : Wd} {a : Addr} {us : List V} {xs : List Val} {Hh : Hp} (rv : PV W f Hh us xs) : ObjR W f Hh (upd H a (.lst us)) a (.lst xs true) := ⟨us, upd_same, rv⟩
/-- the object's own shape -/
def rVmP (X : Cx) (Φ : Fx) (Z : L2.WX) (F : Val → List Val → MS → Out Val) : V → List V → Hp → VK → Prop := rVm X Φ Z F
theorem rep_non {W : Wd} {Hh : Hp} : RepV W f Hh .non (.d .none) := Rp.non
theorem mt_appendV : MtR X "list.append" (rVm X Φ Z appendM) := by
  intro pins st σ1 H x xs v us Q I rx rxs ⟨σ, A, f, s, a, vs, r, r1, rs, g⟩
  unfold appendM at g
  split at g
  · split at g
    · rename_i n w _ zs e
      split at g
      · rename_i hc
        simp only [Bool.and_eq_true, decide_eq_true_eq] at hc
        obtain ⟨p, zu, rfl, hn, h1, h2⟩ := live_lst e r r1
        obtain ⟨y, rfl, ry⟩ := pv1 rs
        have hl := Paired.length' h2
        exact mt_append pins st σ1 H _ _ v us Q I rx rxs ⟨p, zu, y, rfl, rfl, h1, by rw [hl, line_eq]; exact hc.1, go_set hn e rfl rfl r (obj_lst (Paired.app h2 (.cons ry .nil))) rep_non g⟩
      · exact g.elim
    · exact g.elim
  · exact g.elim
theorem Paired.dropLast {α β : Type} {F : α → β → Prop} {l : List α} {m : List β} (h : Paired F l m) : Paired F l.dropLast m.dropLast := by
  induction h with
  | nil => exact .nil
  | cons r t ih =>
    cases t with
    | nil => exact .nil
    | cons q t' => exact .cons r ih
theorem Paired.eraseIdx {α β : Type} {F : α → β → Prop} : ∀ {l : List α} {m : List β} (i : Nat), Paired F l m → Paired F (l.eraseIdx i) (m.eraseIdx i)
  | _, _, _, .nil => .nil
  | _, _, 0, .cons _ t => t
  | _, _, i + 1, .cons r t => .cons r (Paired.eraseIdx i t)
theorem Paired.setAt {α β : Type} {F : α → β → Prop} {a : α} {b : β} (h : F a b) : ∀ {l : List α} {m : List β} (i : Nat), Paired F l m → Paired F (l.set i a) (m.set i b)
  | _, _, _, .nil => .nil
  | _, _, 0, .cons _ t => .cons h t
  | _, _, i + 1, .cons r t => .cons r (Paired.setAt h i t)
theorem mt_popV : MtR X "list.pop" (rVm X Φ Z popM) := by
  intro pins st σ1 H x xs v us Q I rx rxs ⟨σ, A, f, s, a, vs, r, r1, rs, g⟩
  unfold popM at g
  split at g
  · split at g
    · rename_i n _ zs e
      split at g
      · rename_i w ew
        obtain ⟨p, zu, rfl, hn, h1, h2⟩ := live_lst e r r1
        obtain rfl := pv0 rs
        rw [List.getLast?_eq_getElem?] at ew
        obtain ⟨y, hy, ry⟩ := Paired.getR h2 ew
        rw [← Paired.length' h2] at hy
        exact mt_pop pins st σ1 H _ _ v us Q I rx rxs ⟨p, zu, y, rfl, rfl, h1, hy, go_set hn e rfl rfl r (obj_lst (Paired.dropLast h2)) ry g⟩
      · exact g.elim
    · exact g.elim
  · exact g.elim
theorem place_seq {n k : Nat} {i : Int} (h : place n i = some k) : seqIndex? i n = some k ∧ k < n ∧ -(n : Int) ≤ i ∧ i < n := ixN_seq h
theorem mt_popAtV : MtR X "list.pop" (rVm X Φ Z popAtM) := by
  intro pins st σ1 H x xs v us Q I rx rxs ⟨σ, A, f, s, a, vs, r, r1, rs, g⟩
  unfold popAtM at g
  split at g
  · split at g
    · rename_i n i _ zs e
      split at g
      · rename_i k ek
        split at g
        · rename_i w ew
          obtain ⟨p, zu, rfl, hn, h1, h2⟩ := live_lst e r r1
          obtain ⟨y, rfl, ry⟩ := pv1 rs
          obtain rfl := rep_int ry
          obtain ⟨z, hz, rz⟩ := Paired.getR h2 ew
          have hl := Paired.length' h2
          rw [← hl] at ek
          obtain ⟨q1, q2, q3, q4⟩ := place_seq ek
          have hs := (I.lstM h1).1
          rw [line_eq] at hs
          exact mt_popAt pins st σ1 H _ _ v us Q I rx rxs ⟨p, zu, i, k, z, rfl, rfl, h1, by omega, by omega, q1, hz, go_set hn e rfl rfl r (obj_lst (Paired.eraseIdx k h2)) rz g⟩
        · exact g.elim
      · exact g.elim
    · exact g.elim
  · exact g.elim
theorem Paired.takeN {α β : Type} {F : α → β → Prop} : ∀ {l : List α} {m : List β} (i : Nat), Paired F l m → Paired F (l.take i) (m.take i)
  | _, _, 0, _ => .nil
  | _, _, _ + 1, .nil => .nil
  | _, _, i + 1, .cons r t => .cons r (Paired.takeN i t)
theorem Paired.dropN {α β : Type} {F : α → β → Prop} : ∀ {l : List α} {m : List β} (i : Nat), Paired F l m → Paired F (l.drop i) (m.drop i)
  | _, _, 0, h => h
  | _, _, _ + 1, .nil => .nil
  | _, _, i + 1, .cons r t => Paired.dropN i t
theorem mt_insertV : MtR X "list.insert" (rVm X Φ Z insertM) := by
  intro pins st σ1 H x xs v us Q I rx rxs ⟨σ, A, f, s, a, vs, r, r1, rs, g⟩
  unfold insertM at g
  split at g
  · split at g
    · rename_i n i w _ zs e
      split at g
      · rename_i hc
        simp only [Bool.and_eq_true, decide_eq_true_eq] at hc
        obtain ⟨p, zu, rfl, hn, h1, h2⟩ := live_lst e r r1
        obtain ⟨y, z, rfl, ry, rz⟩ := pv2 rs
        obtain rfl := rep_int ry
        have hl := Paired.length' h2
        exact L2.mt_insert pins st σ1 H _ _ v us Q I rx rxs ⟨p, zu, i, z, rfl, rfl, h1, by rw [hl, line_eq]; exact hc.1.1, hc.1.2, by omega, go_set hn e rfl rfl r (obj_lst (Paired.app (Paired.app (Paired.takeN i.toNat h2) (.cons rz .nil)) (Paired.dropN i.toNat h2))) rep_non g⟩
      · exact g.elim
    · exact g.elim
  · exact g.elim
theorem mt_extendV : MtR X "list.extend" (rVm X Φ Z extendM) := by
  intro pins st σ1 H x xs v us Q I rx rxs ⟨σ, A, f, s, a, vs, r, r1, rs, g⟩
  unfold extendM at g
  split at g
  · split at g
    · rename_i n w _ _ zs ys e ei
      split at g
      · rename_i hc
        obtain ⟨p, zu, rfl, hn, h1, h2⟩ := live_lst e r r1
        obtain ⟨y, rfl, ry⟩ := pv1 rs
        obtain ⟨b, yu, rfl, h3, h4⟩ := items_ref ei hc.2 r ry
        have l1 := Paired.length' h2
        have l2 := Paired.length' h4
        exact mt_extend pins st σ1 H _ _ v us Q I rx rxs ⟨p, b, zu, yu, rfl, rfl, h1, h3, by rw [l1, l2, line_eq]; exact hc.1, go_set hn e rfl rfl r (obj_lst (Paired.app h2 h4)) rep_non g⟩
      · exact g.elim
    · exact g.elim
  · exact g.elim
theorem indexD_ok {x : PyData} : ∀ {ds : List PyData} {k : Nat}, indexD x ds = some k → ∃ z, ds[k]? = some z ∧ PyData.eqv z x = true ∧ ∀ (m : Nat) (z' : PyData), m < k → ds[m]? = some z' → PyData.eqv z' x = false
  | [], _, h => by cases h
  | y :: ys, k, h => by
    unfold indexD at h
    split at h
    · rename_i hc
      cases h
      exact ⟨y, rfl, hc, fun m z' hm => absurd hm (Nat.not_lt_zero _)⟩
    · rename_i hc
      obtain ⟨j, e, rfl⟩ := map_some h
      obtain ⟨z, h1, h2, h3⟩ := indexD_ok e
      refine ⟨z, by simpa using h1, h2, fun m z' hm hz => ?_⟩
      cases m with
      | zero =>
        simp at hz
        subst hz
        simpa using hc
      | succ m => exact h3 m z' (by omega) (by simpa using hz)
/-- index: of a list -/
theorem mt_indexV (hu : X.A.units + 65 < cLine) : MtR X "list.index" (rVm X Φ Z fun v vs s => if tyOf s.objs v = some .list then indexM v vs s else .bad) := by
  intro pins st σ1 H x xs v us Q I rx rxs ⟨σ, A, f, s, a, vs, r, r1, rs, g⟩
  dsimp only at g
  split at g
  rotate_left
  · exact g.elim
  rename_i ht
  unfold indexM at g
  split at g
  · rename_i w
    split at g
    · rename_i ds d ep ed
      split at g
      · rename_i hc
        rw [Bool.and_eq_true] at hc
        obtain ⟨y, e2, g1⟩ := go_ofO g
        obtain ⟨k, e3, rfl⟩ := map_some e2
        obtain ⟨z, h1, h2, h3⟩ := indexD_ok e3
        unfold pureItems at ep
        split at ep
        · rename_i vs' ei
          obtain ⟨p, zu, rfl, q1, q2⟩ := items_list ei ht r r1
          obtain ⟨y, rfl, ry⟩ := pv1 rs
          have hd := snap_ok ed r ry
          have hp := rpA_mono (pures_ok ep q2)
          have c1 : PyData.canLayAll0 ds = true := by simpa [PyData.canLay0] using SeqAt.canLay_of_shaped hc.2
          refine mt_indexD hu pins st σ1 H _ _ v us Q I rx rxs ⟨p, y, d, ds, k, z, rfl, rfl, .lst (q1) (rpA_dp ds _ c1 hp), rp_dp d _ (SeqAt.canLay_of_shaped hc.1) hd, hc.2, hc.1, h1, h2, h3, go_d g1 r (Rp.int _)⟩
        · cases ep
      · exact g.elim
    · exact g.elim
  · exact g.elim
/-- a dict behind a store -/
theorem obj_dct {W : Wd} {Hh : Hp} {p : Addr} {es : List Ent} {kvs : List (PyData × Val)} {y v : V} {k : PyData} {w : Val} {o : HO} (hd : ∀ H' : Hp, H' p = some o → DcA W.w H' p (putE y k v es)) (h2 : W.rpA Hh (es.map (·.1)) (es.map (·.2.1))) (h3 : es.map (·.2.1) = kvs.map (·.1)) (h4 : PV W f Hh (es.map (·.2.2)) (kvs.map (·.2)))
    (ry : RepV W f Hh y (.d k)) (rv : RepV W f Hh v w) : ObjR W f Hh (upd H p o) p (.dct (put k w kvs) true) :=
  ⟨putE y k v es, hd _ upd_same, putE_rpA ry h2, putE_keys h3, putE_vals rv h3 h4⟩
theorem mt_getV (hu : X.A.units + 65 < cLine) : MtR X "dict.get" (rVm X Φ Z getM) := by
  intro pins st σ1 H x xs v us Q I rx rxs ⟨σ, A, f, s, a, vs, r, r1, rs, g⟩
  unfold getM at g
  split at g
  · split at g
    · rename_i k w _ kvs ek
      split at g
      · rename_i hc
        rw [Bool.and_eq_true] at hc
        obtain ⟨y, z, rfl, ry, rz⟩ := pv2 rs
        obtain ⟨p, es, rfl, h1, h2, h3, h4⟩ := kvs_ok ek r r1
        cases rx
        cases rxs with
        | cons q1 t1 =>
          cases t1 with
          | cons q2 t2 =>
            cases t2
            have hks := all_map1 es kvs h3 (keyFit k) hc.2
            have vw := dct_view I h1 (rpA_mono h2) (rp_mono ry) hc.1 hks
            refine raw_get (x := z) (by omega) I vw hc.1 hks q1 q2 fun w' s' I' rw' => ⟨_, H, I', rw', ?_⟩
            rcases entAt_look (d := k) (P := RepV (wx X Φ).toWd f (hid A f s.objs H)) h3 h4 with ⟨e1, e2⟩ | ⟨v1, u1, e1, e2, e3⟩
            · rw [e1] at g
              rw [e2]
              exact g f H _ (Ext.refl _ _ _) r rz
            · rw [e1] at g
              rw [e2]
              exact g f H _ (Ext.refl _ _ _) r e3
      · exact g.elim
    · exact g.elim
  · exact g.elim
theorem mt_setdefaultV (hu : X.A.units + 65 < cLine) : MtR X "dict.setdefault" (rVm X Φ Z setdefaultM) := by
  intro pins st σ1 H x xs v us Q I rx rxs ⟨σ, A, f, s, a, vs, r, r1, rs, g⟩
  unfold setdefaultM at g
  split at g
  · split at g
    · rename_i n k w _ kvs l eo
      split at g
      · rename_i hc
        simp only [Bool.and_eq_true] at hc
        obtain ⟨y, z, rfl, ry, rz⟩ := pv2 rs
        obtain ⟨p, hn, rfl⟩ := r1
        obtain ⟨es, h1, h2, h3, h4⟩ := r.obj n _ p eo hn
        cases rx
        cases rxs with
        | cons q1 t1 =>
          cases t1 with
          | cons q2 t2 =>
            cases t2
            have hks := all_map1 es kvs h3 (keyFit k) hc.1.1.2
            have hk := hc.1.1.1
            have vw := dct_view I h1 (rpA_mono h2) (rp_mono ry) hk hks
            have hl : es.length = kvs.length := by simpa using congrArg List.length h3
            have hz : es.length < sizeLine := by
              have := sizeOk_of hc.2
              omega
            refine raw_setdefault (v := z) (by omega) I vw hk hks hz q1 q2 (fun v' w' s' e I' rw' => ⟨_, H, I', rw', ?_⟩) fun e o s' I' hd => ⟨z, _, I', q2, ?_⟩
            · rcases entAt_look (d := k) (P := RepV (wx X Φ).toWd f (hid A f s.objs H)) h3 h4 with ⟨e1, e2⟩ | ⟨v1, u1, e1, e2, e3⟩
              · rw [e] at e2; cases e2
              · rw [e] at e2
                cases e2
                rw [e1] at g
                exact g f H _ (Ext.refl _ _ _) r e3
            · rcases entAt_look (d := k) (P := RepV (wx X Φ).toWd f (hid A f s.objs H)) h3 h4 with ⟨e1, e2⟩ | ⟨v1, u1, e1, e2, e3⟩
              · rw [e1] at g
                dsimp only at g
                split at g
                · rename_i hlive
                  subst hlive
                  exact go_set hn eo rfl rfl r (obj_dct hd h2 h3 h4 ry rz) rz g
                · exact g.elim
              · rw [e] at e2; cases e2
      · exact g.elim
    · exact g.elim
  · exact g.elim
theorem mt_bitlenV : MtR X "int.bit_length" (rVm X Φ Z bitlenM) := by
  intro pins st σ1 H x xs v us Q I rx rxs ⟨σ, A, f, s, a, vs, r, r1, rs, g⟩
  unfold bitlenM at g
  split at g
  · obtain rfl := rep_int r1
    obtain rfl := pv0 rs
    cases rxs
    obtain ⟨t, rfl⟩ := rx
    exact call_int_bit_length ⟨.int _, H, I.tok _, ⟨_, rfl⟩, go_d g r (Rp.int _)⟩
  · exact g.elim
end
end MI

set_option Elab.async false
set_option linter.all false
set_option maxRecDepth 100000
set_option maxHeartbeats 1000000
/-! MI: forms: methods, isinstance, chains, slices, dicts. -/
namespace MI
open PySem PySem.Spec L2
open PyProof.Rows hiding St

section
variable {X : Cx} {Φ : Fx} {Z : L2.WX} {pos : Pos}
/-- an object's class, its methods -/
structure MKit (X : Cx) (Φ : Fx) (Z : L2.WX) (name : Str) (m : Mth) (u : Value) (st : Shared) (P : List MO → Val → Prop) (v : Val) : Prop where
  run : ∃ T id, PlainAttrs T ∧ PySem.Slot T name id ∧ typeOf (.builtin id) = pure (.type "method_descriptor") ∧ st.TypeIs u T ∧ (∀ a, u = .ref a → ∃ ob, st.heap.get? a = some ob ∧ ob.dict = none) ∧
    ∀ (pins : List (Addr × Obj)) (s : Shared) (σ1 σ : St) (H : Hp) (A : Addr → Prop) (f : List Addr) (ms : MS) (x : V) (xs : List V) (us : List Value) (vs : List Val) (Q : VK), L2.Inv X pins σ1 H s → L2.RelV x u → Vals xs us →
      R (wx X Φ).toWd A f ms σ H → RepV (wx X Φ).toWd f (hid A f ms.objs H) x v → PV (wx X Φ).toWd f (hid A f ms.objs H) xs vs → GoO (wx X Φ) Z (RlV (wx X Φ)) A f ms.objs σ H Q (mthV m v vs ms) →
      wpAny (model X.prog X.w) X.A (call (.builtin id) (u :: us)) (EP X pins σ1 Q) X.xe s
theorem exactDict_of {P : Program} {w : World} {H : Hp} {h : Heap} {a : Addr} {es : List Ent} (hk : HOk P w H h) (d : DcA w H a es) : ∃ o, h.get? a = some o ∧ o.ExactDict := by
  obtain ⟨o, ents, ep, e, ex, _⟩ := d
  exact ⟨o, (hk a _ e).1, ex⟩
theorem ty_list {W : Wd} {A : Addr → Prop} {f : List Addr} {s : MS} {σ : St} {H : Hp} {v : Val} {x : V} (ht : tyOf s.objs v = some .list) (r : R W A f s σ H) (rv : RepV W f (hid A f s.objs H) x v) : ∃ a us, x = .ref a ∧ SqL W.K H a us := by
  cases v with
  | d d =>
    cases d <;> first | (cases rv; rename_i h _; exact ⟨_, _, rfl, L2.Same.seq hid_sub h⟩) | cases ht
  | ref n =>
    obtain ⟨a, hn, rfl⟩ := rv
    unfold tyOf at ht
    simp only at ht
    split at ht
    · rename_i e
      obtain ⟨us, h1, _⟩ := r.obj n _ a e hn
      exact ⟨a, us, rfl, SqL.of h1⟩
    · cases ht
    · cases ht
  | fn g => cases ht
theorem ty_dict {W : Wd} {A : Addr → Prop} {f : List Addr} {s : MS} {σ : St} {H : Hp} {v : Val} {x : V} (ht : tyOf s.objs v = some .dict) (r : R W A f s σ H) (rv : RepV W f (hid A f s.objs H) x v) : ∃ a es, x = .ref a ∧ DcA W.w H a es := by
  cases v with
  | d d =>
    cases d <;> first | (cases rv; rename_i h _ _ _; exact ⟨_, _, rfl, DcA.same hid_sub h⟩) | cases ht
  | ref n =>
    obtain ⟨a, hn, rfl⟩ := rv
    unfold tyOf at ht
    simp only at ht
    split at ht
    · cases ht
    · rename_i e
      obtain ⟨es, h1, _⟩ := r.obj n _ a e hn
      exact ⟨a, es, rfl, h1⟩
    · cases ht
  | fn g => cases ht
theorem ty_int {W : Wd} {os : List MO} {f : List Addr} {H : Hp} {v : Val} {x : V} (ht : tyOf os v = some .int) (rv : RepV W f H x v) : ∃ i, x = .int i := by
  cases v with
  | d d =>
    cases d <;> first | (cases rv; exact ⟨_, rfl⟩) | cases ht
  | ref n =>
    unfold tyOf at ht
    simp only at ht
    split at ht <;> cases ht
  | fn g => cases ht
theorem mkit {pins : List (Addr × Obj)} {st : Shared} {σ1 σ : St} {H : Hp} {A : Addr → Prop} {f : List Addr} {ms : MS} {x : V} {u : Value} {v : Val} {name : Str} {n : Nat} {m : Mth} (hu : X.A.units + 65 < cLine) (hn : mthOf name n = some m)
    (ok : mthOk m (tyOf ms.objs v) = true) (I : L2.Inv X pins σ1 H st) (rx : L2.RelV x u) (r : R (wx X Φ).toWd A f ms σ H) (rv : RepV (wx X Φ).toWd f (hid A f ms.objs H) x v) : MKit X Φ Z name m u st (fun _ _ => True) v := by
  have hm : ((name, n), m) ∈ mths := by
    obtain ⟨⟨k, m'⟩, e, e2⟩ := map_some (show (mths.find? fun p => decide (p.1 = (name, n))).map (·.2) = some m from hn)
    have h1 := List.find?_some e
    simp only [decide_eq_true_eq] at h1 e2
    rw [e2, ← h1]
    exact List.mem_of_find?_eq_some e
  have lst : tyOf ms.objs v = some .list → st.TypeIs u "list" ∧ ∀ a, u = .ref a → ∃ ob, st.heap.get? a = some ob ∧ ob.dict = none := fun ht => by
    obtain ⟨a, us, rfl, h⟩ := ty_list ht r rv
    exact tyV_is I rx (.inl ⟨rfl, us, h⟩)
  have dct : tyOf ms.objs v = some .dict → st.TypeIs u "dict" ∧ ∀ a, u = .ref a → ∃ ob, st.heap.get? a = some ob ∧ ob.dict = none := fun ht => by
    obtain ⟨a, us, rfl, h⟩ := ty_dict ht r rv
    obtain ⟨o, e, ex⟩ := exactDict_of I.hok h
    cases rx
    exact ⟨⟨o, e, ex.1⟩, fun b z => by cases z; exact ⟨o, e, ex.2.1⟩⟩
  simp only [mths, List.mem_cons, Prod.mk.injEq, List.not_mem_nil, or_false] at hm
  rcases hm with ⟨⟨rfl, rfl⟩, rfl⟩ | ⟨⟨rfl, rfl⟩, rfl⟩ | ⟨⟨rfl, rfl⟩, rfl⟩ | ⟨⟨rfl, rfl⟩, rfl⟩ | ⟨⟨rfl, rfl⟩, rfl⟩ | ⟨⟨rfl, rfl⟩, rfl⟩ | ⟨⟨rfl, rfl⟩, rfl⟩ | ⟨⟨rfl, rfl⟩, rfl⟩ | ⟨⟨rfl, rfl⟩, rfl⟩
  · have ht : tyOf ms.objs v = some .list := of_decide_eq_true ok
    obtain ⟨h1, h2⟩ := lst ht
    exact ⟨"list", _, PySem.F.plainAttrs_list, PySem.F.slot_list_append, PySem.F.type_list_append, h1, h2, fun pins s σ1 σ H A f ms x xs us vs Q I rx rs R1 r1 r2 g => mt_appendV pins s σ1 H x xs u us Q I rx rs ⟨σ, A, f, ms, v, vs, R1, r1, r2, g⟩⟩
  · have ht : tyOf ms.objs v = some .list := of_decide_eq_true ok
    obtain ⟨h1, h2⟩ := lst ht
    exact ⟨"list", _, PySem.F.plainAttrs_list, PySem.F.slot_list_pop, PySem.F.type_list_pop, h1, h2, fun pins s σ1 σ H A f ms x xs us vs Q I rx rs R1 r1 r2 g => mt_popV pins s σ1 H x xs u us Q I rx rs ⟨σ, A, f, ms, v, vs, R1, r1, r2, g⟩⟩
  · have ht : tyOf ms.objs v = some .list := of_decide_eq_true ok
    obtain ⟨h1, h2⟩ := lst ht
    exact ⟨"list", _, PySem.F.plainAttrs_list, PySem.F.slot_list_pop, PySem.F.type_list_pop, h1, h2, fun pins s σ1 σ H A f ms x xs us vs Q I rx rs R1 r1 r2 g => mt_popAtV pins s σ1 H x xs u us Q I rx rs ⟨σ, A, f, ms, v, vs, R1, r1, r2, g⟩⟩
  · have ht : tyOf ms.objs v = some .list := of_decide_eq_true ok
    obtain ⟨h1, h2⟩ := lst ht
    exact ⟨"list", _, PySem.F.plainAttrs_list, PySem.F.slot_list_insert, PySem.F.type_list_insert, h1, h2, fun pins s σ1 σ H A f ms x xs us vs Q I rx rs R1 r1 r2 g => mt_insertV pins s σ1 H x xs u us Q I rx rs ⟨σ, A, f, ms, v, vs, R1, r1, r2, g⟩⟩
  · have ht : tyOf ms.objs v = some .list := of_decide_eq_true ok
    obtain ⟨h1, h2⟩ := lst ht
    exact ⟨"list", _, PySem.F.plainAttrs_list, PySem.F.slot_list_extend, PySem.F.type_list_extend, h1, h2, fun pins s σ1 σ H A f ms x xs us vs Q I rx rs R1 r1 r2 g => mt_extendV pins s σ1 H x xs u us Q I rx rs ⟨σ, A, f, ms, v, vs, R1, r1, r2, g⟩⟩
  · have ht : tyOf ms.objs v = some .list := of_decide_eq_true ok
    obtain ⟨h1, h2⟩ := lst ht
    exact ⟨"list", _, PySem.F.plainAttrs_list, PySem.F.slot_list_index, PySem.F.type_list_index, h1, h2, fun pins s σ1 σ H A f ms2 x xs us vs Q I rx rs R1 r1 r2 g => mt_indexV hu pins s σ1 H x xs u us Q I rx rs ⟨σ, A, f, ms2, v, vs, R1, r1, r2, by
      dsimp only
      split
      · exact g
      · rename_i hn
        have g' : GoO (wx X Φ) Z (RlV (wx X Φ)) A f ms2.objs σ H Q (indexM v vs ms2) := g
        unfold indexM at g'
        split at g'
        · split at g'
          · rename_i ds _ ep _
            unfold pureItems at ep
            split at ep
            · rename_i vs' ei
              rcases items_ty ei with z | z
              · exact absurd z hn
              · cases v with
                | d d => cases d <;> first | (cases z; done) | (cases ht; done)
                | ref k =>
                  unfold tyOf at z
                  simp only at z
                  split at z <;> cases z
                | fn k => cases z
            · cases ep
          · exact g'.elim
        · exact g'.elim⟩⟩
  · have ht : tyOf ms.objs v = some .dict := of_decide_eq_true ok
    obtain ⟨h1, h2⟩ := dct ht
    exact ⟨"dict", _, PySem.F.plainAttrs_dict, PySem.F.slot_dict_get, PySem.F.type_dict_get, h1, h2, fun pins s σ1 σ H A f ms x xs us vs Q I rx rs R1 r1 r2 g => mt_getV hu pins s σ1 H x xs u us Q I rx rs ⟨σ, A, f, ms, v, vs, R1, r1, r2, g⟩⟩
  · have ht : tyOf ms.objs v = some .dict := of_decide_eq_true ok
    obtain ⟨h1, h2⟩ := dct ht
    exact ⟨"dict", _, PySem.F.plainAttrs_dict, PySem.F.slot_dict_setdefault, PySem.F.type_dict_setdefault, h1, h2, fun pins s σ1 σ H A f ms x xs us vs Q I rx rs R1 r1 r2 g => mt_setdefaultV hu pins s σ1 H x xs u us Q I rx rs ⟨σ, A, f, ms, v, vs, R1, r1, r2, g⟩⟩
  · have ht : tyOf ms.objs v = some .int := of_decide_eq_true ok
    obtain ⟨i, rfl⟩ := ty_int ht rv
    obtain ⟨t, rfl⟩ := id rx
    exact ⟨"int", _, PySem.F.plainAttrs_int, PyProof.Rows.slot_int_bit_length, PyProof.Rows.type_int_bit_length, typeIs_int _ _ _, (fun _ e => nomatch e), fun pins s σ1 σ H A f ms x xs us vs Q I rx rs R1 r1 r2 g => mt_bitlenV pins s σ1 H x xs _ us Q I rx rs ⟨σ, A, f, ms, v, vs, R1, r1, r2, g⟩⟩
theorem mth_few {name : Str} {n : Nat} {m : Mth} (hn : mthOf name n = some m) : n < 30 := by
  have hm : ∃ k, ((name, n), k) ∈ mths := by
    obtain ⟨⟨k, m'⟩, e, e2⟩ := map_some (show (mths.find? fun p => decide (p.1 = (name, n))).map (·.2) = some m from hn)
    have h1 := List.find?_some e
    simp only [decide_eq_true_eq] at h1 e2
    exact ⟨m', by rw [← h1]; exact List.mem_of_find?_eq_some e⟩
  obtain ⟨k, hk⟩ := hm
  simp only [mths, List.mem_cons, Prod.mk.injEq, List.not_mem_nil, or_false] at hk
  omega
/-- o.m(..) -/
theorem e_mth {o e : Expr} {es : List Expr} {name : Str} {apos : Pos} {m : Mth} {E : MS → Out Val} {F : MS → Out (List Val)} (hu : X.A.units + 65 < cLine) (hn : mthOf name (e :: es).length = some m) (hb : noCall0 o = true) (hl : (apos.endLine == pos.line) = true) (hs : (e :: es).all notStar = true)
    (ho : PE X o (tE (wx X Φ) Z E)) (ha : PA X (e :: es) (tA (wx X Φ) Z F)) : PE X (.Call (.Attribute o name apos) (e :: es) [] pos) (tE (wx X Φ) Z fun s => (E s).bind fun v s1 => if mthOk m (tyOf s1.objs v) then (F s1).bind fun vs s2 => mthV m v vs s2 else .bad) := by
  refine ⟨fun pins s σ H Q I h => ?_⟩
  obtain ⟨A, f, ms, r, h⟩ := h
  have hlen := mth_few hn
  have hfew : ((backTo pos (starEach (e :: es) X.env)).all (fun x => !x.1) && (backToKw pos (keywordEach [] X.env)).all (fun x => x.1.isSome)
      && decide ((e :: es).length + ([] : List Keyword).length + (if ([] : List Keyword).isEmpty then 0 else 1) < 30)) = true := by
    rw [starEach_all hs, show backToKw pos (keywordEach [] X.env) = [] from rfl]
    simpa using hlen
  have h' : tE (wx X Φ) Z E σ H fun x H1 => ∃ A f s1 v, R (wx X Φ).toWd A f s1 σ H1 ∧ RepV (wx X Φ).toWd f (hid A f s1.objs H1) x v ∧ mthOk m (tyOf s1.objs v) = true ∧ GoO (wx X Φ) Z (RlV (wx X Φ)) A f s1.objs σ H1 Q ((F s1).bind fun vs s2 => mthV m v vs s2) := by
    refine ⟨A, f, ms, r, h.of_bind fun v s1 f1 H1 x e1 eX R1 rv h1 => ?_⟩
    split at h1
    · rename_i hk
      exact ⟨A, f1, s1, v, R1, rv, hk, h1⟩
    · exact h1.elim
  refine wpAny_Call_method_late (attrBase_ok hb) hfew hl rfl (thn (ho.run pins s σ H _ I h') fun v1 s1 ⟨x, H1, I1, r1, A1, f1, m1, v, R1, rv, hk, q1⟩ => ?_)
  obtain ⟨T, id, pa, slot, hty, hT, hd, rule⟩ := (mkit (Z := Z) hu hn hk I1 r1 R1 rv).run
  refine ⟨T, id, pa, slot, hty, hT, hd, ?_⟩
  have h2 : tA (wx X Φ) Z F σ H1 fun xs H2 => ∃ A f s2 vs, R (wx X Φ).toWd A f s2 σ H2 ∧ RepV (wx X Φ).toWd f (hid A f s2.objs H2) x v ∧ PV (wx X Φ).toWd f (hid A f s2.objs H2) xs vs ∧ GoO (wx X Φ) Z (RlV (wx X Φ)) A f s2.objs σ H2 Q (mthV m v vs s2) :=
    ⟨A1, f1, m1, R1, q1.of_bind fun vs s2 f2 H2 xs e2 eY R2 rs h2 => ⟨A1, f2, s2, vs, R2, rv.ext eY, rs, h2⟩⟩
  have hA := ha.run pos pins s1 σ H1 _ I1 h2
  rw [List.all_cons, Bool.and_eq_true] at hs
  rw [starEach_cons hs.1] at hA ⊢
  refine Calls.callWith_builtin (by show (false || (backTo pos (starEach es X.env)).any (·.1)) = false; rw [starEach_plain hs.2] <;> rfl) (Calls.evalArgs_plain ?_)
  exact thn hA fun us s2 ⟨xs, H2, I2, r2, A2, f2, m2, vs, R2, rv2, rs2, q2⟩ => rule pins s2 σ σ H2 A2 f2 m2 x xs us vs Q I2 r1 r2 R2 rv2 rs2 q2
theorem e_mth0 {o : Expr} {name : Str} {apos : Pos} {m : Mth} {E : MS → Out Val} (hu : X.A.units + 65 < cLine) (hn : mthOf name 0 = some m) (hb : noCall0 o = true) (hl : (apos.endLine == pos.line) = true)
    (ho : PE X o (tE (wx X Φ) Z E)) : PE X (.Call (.Attribute o name apos) [] [] pos) (tE (wx X Φ) Z fun s => (E s).bind fun v s1 => if mthOk m (tyOf s1.objs v) then mthV m v [] s1 else .bad) := by
  refine ⟨fun pins s σ H Q I h => ?_⟩
  obtain ⟨A, f, ms, r, h⟩ := h
  have h' : tE (wx X Φ) Z E σ H fun x H1 => ∃ A f s1 v, R (wx X Φ).toWd A f s1 σ H1 ∧ RepV (wx X Φ).toWd f (hid A f s1.objs H1) x v ∧ mthOk m (tyOf s1.objs v) = true ∧ GoO (wx X Φ) Z (RlV (wx X Φ)) A f s1.objs σ H1 Q (mthV m v [] s1) := by
    refine ⟨A, f, ms, r, h.of_bind fun v s1 f1 H1 x e1 eX R1 rv h1 => ?_⟩
    split at h1
    · rename_i hk
      exact ⟨A, f1, s1, v, R1, rv, hk, h1⟩
    · exact h1.elim
  refine wpAny_Call_method0_late (attrBase_ok hb) hl (thn (ho.run pins s σ H _ I h') fun v1 s1 ⟨x, H1, I1, r1, A1, f1, m1, v, R1, rv, hk, q1⟩ => ?_)
  obtain ⟨T, id, pa, slot, hty, hT, hd, rule⟩ := (mkit (Z := Z) hu hn hk I1 r1 R1 rv).run
  exact ⟨T, id, pa, slot, hty, hT, hd, Calls.callWith_builtin rfl (PySem.evalArgs_none (rule pins s1 σ σ H1 A1 f1 m1 x [] [] [] Q I1 r1 .nil R1 rv .nil q1))⟩

/-! ### isinstance -/
def tyId : Ty → String
  | .int => "int"
  | .bool => "bool"
  | .str => "str"
  | .tuple => "tuple"
  | .list => "list"
  | .dict => "dict"
theorem tyNames_boot : ∀ p ∈ tyNames, bootBuiltins p.1 = some (.type (tyId p.2)) ∧ p.1 ≠ "__name__" ∧ (p.1 == ("__debug__" : Str)) = false := by
  simp only [tyNames, List.forall_mem_cons]
  refine ⟨⟨by kernel_rfl, by decide, by decide⟩, ⟨by kernel_rfl, by decide, by decide⟩, ⟨by kernel_rfl, by decide, by decide⟩, ⟨by kernel_rfl, by decide, by decide⟩, ⟨by kernel_rfl, by decide, by decide⟩, ⟨by kernel_rfl, by decide, by decide⟩, fun _ h => by cases h⟩
def isiG (t : Ty) (v : Val) (s1 : MS) : Out Val := if isFn v then .bad else .ok (.d (.bool (isTy s1.objs v t))) s1
theorem kit_all (t' t : Ty) : kitB (tyId t') (tyId t) = some (decide (t' = t) || (decide (t' = .bool) && decide (t = .int))) := by
  cases t' <;> cases t <;> decide +kernel
theorem kit_none (t : Ty) : kitB "NoneType" (tyId t) = some false := by
  cases t <;> decide +kernel
theorem call_isiV (t : Ty) : CallR X (.builtin "isinstance") (fun xs H Q => ∃ x, xs = [x, .ty (tyId t)] ∧ rV1 X Φ Z (isiG t) x H Q) := by
  intro pins st σ1 H us ws Q I rx ⟨x, e0, σ, A, f, s, v, r, r1, g⟩
  subst e0
  unfold isiG at g
  split at g
  · exact g.elim
  rename_i hfn
  have q : Q (.bl (isTy s.objs v t)) H := go_d g r (.bl _)
  have byT : ∀ {t' : Ty}, tyOf s.objs v = some t' → TyX X.K H x (.type (tyId t')) → wpAny (model X.prog X.w) X.A (call (.builtin "isinstance") ws) (EP X pins σ1 Q) X.xe st := fun {t'} ht ty => by
    refine call_isi pins st σ1 H _ ws Q I rx ⟨x, .ty (tyId t), .type (tyId t'), .type (tyId t), isTy s.objs v t, rfl, .ty _, ty, ?_, q⟩
    unfold isTy
    rw [ht]
    exact kit_ty (kit_all t' t)
  have byRaw : ∀ {a : Addr} {es : List Ent}, x = .ref a → tyOf s.objs v = some .dict → DcA X.w H a es → wpAny (model X.prog X.w) X.A (call (.builtin "isinstance") ws) (EP X pins σ1 Q) X.xe st := fun {a es} ex ht d => by
    subst ex
    obtain ⟨o, e, xd⟩ := exactDict_of I.hok d
    obtain ⟨u1, u2, rfl, q1, q2⟩ := vals2 rx
    cases q1
    cases q2
    have hk : PySem.W.kitOne X.K (.type "dict") (.type (tyId t)) = some (isTy s.objs v t) := by
      unfold isTy
      rw [ht]
      exact kit_ty (kit_all .dict t)
    exact PySem.W.kia_one PySem.W.kitx_dict I.kIn ⟨o, e, xd.1⟩ hk (fun z => nomatch z) fun tk => ⟨.bl _, H, I.tok tk, rfl, q⟩
  have byLst : ∀ {a : Addr} {us : List V}, x = .ref a → tyOf s.objs v = some .list → SqL X.K H a us → wpAny (model X.prog X.w) X.A (call (.builtin "isinstance") ws) (EP X pins σ1 Q) X.xe st := fun {a us} ex ht d => by
    subst ex
    obtain ⟨its, _, p, _⟩ := I.list d
    obtain ⟨o, e, hcl, _⟩ := p.isList
    obtain ⟨u1, u2, rfl, q1, q2⟩ := vals2 rx
    cases q1
    cases q2
    have hk : PySem.W.kitOne X.K (.type "list") (.type (tyId t)) = some (isTy s.objs v t) := by
      unfold isTy
      rw [ht]
      exact kit_ty (kit_all .list t)
    exact PySem.W.kia_one PySem.W.kitx_list I.kIn ⟨o, e, hcl⟩ hk (fun z => nomatch z) fun tk => ⟨.bl _, H, I.tok tk, rfl, q⟩
  cases v with
  | fn n => exact absurd rfl hfn
  | ref n =>
    obtain ⟨a, hn, rfl⟩ := r1
    have hl : n < s.objs.length := by rw [← r.len]; exact (List.getElem?_eq_some_iff.mp hn).1
    cases eo : s.objs[n]? with
    | none => rw [List.getElem?_eq_none_iff] at eo; omega
    | some o =>
      have ob := r.obj n o a eo hn
      cases o with
      | lst xs l =>
        obtain ⟨us, h1, _⟩ := ob
        exact byT (t' := .list) (by unfold tyOf; simp only [eo]) (.base (.lst h1))
      | dct kvs l =>
        obtain ⟨es, h1, _⟩ := ob
        exact byRaw rfl (by unfold tyOf; simp only [eo]) h1
  | d d =>
    cases d with
    | none =>
      obtain rfl := rp_non r1
      exact call_isi pins st σ1 H _ ws Q I rx ⟨.non, .ty (tyId t), .type "NoneType", .type (tyId t), false, rfl, .ty _, .base .non, kit_ty (kit_none t), q⟩
    | bool b =>
      obtain rfl := rp_bl r1
      exact byT (t' := .bool) rfl (.base (.bl b))
    | int i =>
      obtain rfl := rep_int r1
      exact byT (t' := .int) rfl (.base (.int i))
    | str z =>
      cases r1
      exact byT (t' := .str) rfl (.base (.str z))
    | tuple xs =>
      cases r1 with
      | @tup a us _ h1 h2 =>
        have h1 := Same.sqT hid_sub h1
        rcases h1 with (h1 | ⟨o, h1⟩) | ⟨o, its, n, h1, h2, _⟩
        · exact byT (t' := .tuple) rfl (.base (.tup h1))
        · exact byT (t' := .tuple) rfl (.fTuple h1)
        · exact byT (t' := .tuple) rfl (.kTuple h1 h2)
    | list xs =>
      cases r1 with
      | @lst a us _ h1 h2 => exact byLst rfl rfl (L2.Same.seq hid_sub h1)
    | dict kvs =>
      cases r1 with
      | @dct a es _ h1 h2 h3 h4 => exact byRaw rfl rfl (DcA.same hid_sub h1)
theorem e_isi {a : Expr} {x : Str} {t : Ty} {p p2 : Pos} {E : MS → Out Val} (ht : tyOfName x = some t) (hgi : Gl X "isinstance") (hmi : X.mg "isinstance" = none) (hg : Gl X x) (hm : X.mg x = none) (hs : notStar a = true) (ha : PE X a (tE (wx X Φ) Z E)) :
    PE X (.Call (.Name "isinstance" p) [a, .Name x p2] [] pos) (tE (wx X Φ) Z fun s => (E s).bind fun v s1 => isiG t v s1) := by
  obtain ⟨h1, h2, h3⟩ := tyNames_boot _ (PySem.mem_of_lookup ht)
  have hp : PA X [a, .Name x p2] (tCons (tE (wx X Φ) Z E) (tCons (tC (.ty (tyId t))) tNil)) := pa_cons ha (pa_cons (pe_bltn hg hm h1 rfl h2 h3) pa_nil) (starEach_cons hs)
  refine PE_imp (pe_callB (call_isiV (Φ := Φ) (Z := Z) t) hgi hmi (by kernel_rfl) hp (he := starEach_cons hs)) fun σ H Q h => ?_
  obtain ⟨A, f, s, r, h⟩ := h
  exact ⟨A, f, s, r, h.of_bind fun v s1 f1 H1 y e1 eX R1 rv h1 => ⟨y, rfl, σ, A, f1, s1, v, R1, rv, h1⟩⟩

/-! ### a < b < c -/
def chnF (o o' : CO) (E F G : MS → Out Val) (s : MS) : Out Val := (E s).bind fun v s1 => (F s1).bind fun w s2 => match cmpV o v w s2 with
    | none => .bad
    | some false => .ok (.d (.bool false)) s2
    | some true => (G s2).bind fun u s3 => cmpG o' w u s3
theorem last_noSet {op op' : CmpOp} {b c : Expr} (h : noSet c = true) : lastMarks [op, op'] [b, c] = false := by
  show behindInMarks op' c = false
  exact noSet_ok h
theorem chn_of {o o' : CO} {E F G : MS → Out Val} {σ : St} {H : Hp} {Q : VK} (h : tE (wx X Φ) Z (chnF o o' E F G) σ H Q) : tChain (rCmp X Φ o) (rV2 X Φ Z (cmpG o')) (tE (wx X Φ) Z E) (tE (wx X Φ) Z F) (tE (wx X Φ) Z G) σ H Q := by
  obtain ⟨A, f, s, r, h⟩ := h
  refine ⟨A, f, s, r, GoO.of_bind (Rel := RlV (wx X Φ)) h fun v s1 f1 H1 x e1 eX R1 rv h1 => ⟨A, f1, s1, R1, h1.of_bind fun w s2 f2 H2 y e2 eY R2 rw h2 => ?_⟩⟩
  cases e : cmpV o v w s2 with
  | none => rw [e] at h2; exact h2.elim
  | some t =>
    refine ⟨σ, A, f2, s2, v, w, t, R2, rv.ext eY, rw, e, t, rfl, ?_⟩
    rw [e] at h2
    cases t with
    | false => exact h2 f2 H2 (.bl false) (Ext.refl _ _ _) R2 (Rp.bl false)
    | true => exact ⟨A, f2, s2, R2, h2.of_bind fun u s3 f3 H3 z e3 eZ R3 ru h3 => ⟨σ, A, f3, s3, w, u, R3, rw.ext eZ, ru, h3⟩⟩
theorem e_chn {op op' : CmpOp} {a b c : Expr} {E F G : MS → Out Val} (hu : X.A.units + 65 < cLine) (hm : noSet c = true) (ha : PE X a (tE (wx X Φ) Z E)) (hb : PE X b (tE (wx X Φ) Z F)) (hc : PE X c (tE (wx X Φ) Z G)) :
    PE X (.Compare a [op, op'] [b, c] pos) (tE (wx X Φ) Z (chnF (cmpOf op) (cmpOf op') E F G)) :=
  PE_imp (pe_chain (op_cmpT hu op) (op_cmpV hu op') ha hb hc (last_noSet hm)) fun _ _ _ h => chn_of h
theorem p_chn {op op' : CmpOp} {a b c : Expr} {E F G : MS → Out Val} (hu : X.A.units + 65 < cLine) (hm : noSet c = true) (ha : PE X a (tE (wx X Φ) Z E)) (hb : PE X b (tE (wx X Φ) Z F)) (hc : PE X c (tE (wx X Φ) Z G)) :
    PT X (.Compare a [op, op'] [b, c] pos) (tT (wx X Φ) Z fun s => bT (chnF (cmpOf op) (cmpOf op') E F G s)) :=
  PT_imp (pt_chain (op_cmpT hu op) (op_cmpV hu op') ha hb hc (last_noSet hm)) fun _ _ _ h => chn_of (tT_of_tE h)

/-! ### list(range(n)) -/
def partV (X : Cx) (Φ : Fx) (Z : L2.WX) (e : Option Expr) (E : MS → Out Val) : Prop := match e with
  | none => E = fun s => .ok (.d .none) s
  | some e => PE X e (tE (wx X Φ) Z E)
theorem ints_pv {W : Wd} {f : List Addr} {Hh : Hp} : ∀ (n : Nat) (lo : Int), PV W f Hh ((List.range n).map fun i => V.int (lo + (i : Nat))) ((intsF lo n).filterMap fun i => match i with
        | .one v => some v
        | _ => none)
  | 0, _ => .nil
  | n + 1, lo => by
    rw [List.range_succ_eq_map, List.map_cons, List.map_map]
    unfold intsF
    rw [List.filterMap_cons]
    refine .cons (show RepV W f Hh (V.int (lo + ((0 : Nat) : Int))) (.d (.int lo)) from by rw [show lo + ((0 : Nat) : Int) = lo from by omega]; exact Rp.int lo) ?_
    have := ints_pv (W := W) (f := f) (Hh := Hh) n (lo + 1)
    have e : ((fun i : Nat => V.int (lo + (i : Nat))) ∘ Nat.succ) = fun i : Nat => V.int (lo + 1 + (i : Nat)) := by
      funext i
      simp only [Function.comp]
      congr 1
      push_cast
      omega
    rw [e]
    exact this
theorem e_range1 {a : Expr} {p p2 p3 : Pos} {E : MS → Out Val} (hc : X.calm = true) (hgl : Gl X "list") (hml : X.mg "list" = none) (hgr : Gl X "range") (hmr : X.mg "range" = none) (hs : notStar a = true) (ha : PE X a (tE (wx X Φ) Z E)) :
    PE X (.Call (.Name "list" p) [.Call (.Name "range" p2) [a] [] p3] [] pos) (tE (wx X Φ) Z fun s => (E s).bind fun v s1 => range1B [v] s1) := by
  refine PE_imp (pe_listRg hc hgl hml (prg_1 hgr hmr ha (starEach_cons hs))) fun σ H Q ⟨A, f, s, r, g⟩ => ⟨A, f, s, r, g.of_bind fun v s1 f1 H1 x e1 eX R1 rv g1 => ?_⟩
  unfold range1B at g1
  split at g1
  · rename_i n e
    cases e
    split at g1
    · rename_i hn
      obtain rfl := rep_int rv
      unfold inRange at hn
      simp only [Bool.and_eq_true, decide_eq_true_eq] at hn
      have hp : PV (wx X Φ).toWd f1 (hid A f1 s1.objs H1) (rgV 0 n) ((intsF 0 n.toNat).filterMap fun i => match i with
        | .one v => some v
        | _ => none) := by
        unfold rgV
        rw [Int.sub_zero]
        exact ints_pv n.toNat 0
      obtain ⟨hz, q⟩ := go_newLst g1 R1 hp
      rw [rgV_length, line_eq] at hz
      exact ⟨n, rfl, ⟨by omega, by omega, hn.1, hn.2, by omega⟩, q⟩
    · exact g1.elim
  · exact g1.elim

/-! ### dicts -/
theorem e_dic0 : PE X (.Dict [] [] pos) (tE (wx X Φ) Z fun s => newObj s (.dct [] true)) := by
  refine ⟨fun pins st σ H Q I h => ?_⟩
  obtain ⟨A, f, s, r, h⟩ := h
  refine thn (pe_dnewK.run pins st σ H (fun v H' => ∃ p, v = .ref p ∧ H p = none ∧ H' = upd H p (.dK [])) I fun p hp => ⟨p, rfl, hp, rfl⟩) fun u s1 ⟨v, H1, I1, rv, p, ev, hp, eH⟩ => ?_
  subst ev eH
  obtain ⟨o, I2, hd⟩ := dct_empty I1
  refine ⟨.ref p, _, I2, rv, h (f ++ [p]) _ (.ref p) (Ext.push r.len hp) (r.push hp fun Hh e => ⟨[], hd _ upd_same, .nil, rfl, .nil⟩) ⟨p, ?_, rfl⟩⟩
  rw [← r.len]
  simp
theorem raw_noTbl {p : Addr} {o : Obj} {es : List Ent} {w : World} {H : Hp} (h : DcA w H p es) (e : H p = some (rawO p o)) : NoTbl (rawO p o) ∧ ∀ q, rawO p o ≠ LamX.CodeO p q := by
  obtain ⟨o', ents, ep, h1, _, hd, _⟩ := h
  rw [e] at h1
  refine ⟨fun _ z => (by unfold rawO at z; cases z), fun q z => ?_⟩
  have h2 : o'.data = .dict ents ep := hd
  have e2 := Option.some.inj h1
  unfold rawO at e2
  unfold rawO LamX.CodeO at z
  have z' := HO.ext.inj (e2.symm.trans z)
  have hx : ∃ g : Heap, g.get? p = some o' := by
    obtain ⟨g, hg⟩ : ∃ g : Heap, g.objs.size = p := ⟨⟨(List.replicate p o').toArray, default⟩, by simp⟩
    exact ⟨g.push o', by rw [← hg]; exact Heap.get?_push_size _ (PySem.Obj.isFreed_of_dict hd)⟩
  obtain ⟨g, hg⟩ := hx
  obtain ⟨oc, vs, t, q1, q2, _⟩ := (congrFun z' g).mp hg
  rw [hg] at q1
  cases q1
  rw [hd] at q2
  cases q2
theorem relV_mono {W : Wd} (f : List Addr) (H H' : Hp) (a : V) (b : Val) (h : Same H H') (r : RepV W f H a b) : RepV W f H' a b := RepV.mono h ⟨[], by simp⟩ a b r
theorem dicL_one {kv vv : Val} {kvs : List (PyData × Val)} (h : dicL [kv] [vv] [] = some kvs) : ∃ k, kv = .d k ∧ isKey k = true ∧ isFn vv = false ∧ kvs = [(k, vv)] := by
  cases kv with
  | ref n => cases h
  | fn n => cases h
  | d k =>
    have e : dicL [.d k] [vv] [] = if isKey k && ([] : List (PyData × Val)).all (fun p => keyFit k p.1) && !isFn vv then some [(k, vv)] else none := rfl
    rw [e] at h
    split at h
    · rename_i hc
      simp only [Bool.and_eq_true] at hc
      cases h
      exact ⟨k, rfl, hc.1.1, by simpa using hc.2, rfl⟩
    · cases h
theorem e_dic1 (hu : X.A.units + 65 < cLine) {k v : Expr} {E F : MS → Out Val} (hk : PE X k (tE (wx X Φ) Z E)) (hv : PE X v (tE (wx X Φ) Z F)) : PE X (.Dict [some k] [v] pos) (tE (wx X Φ) Z fun s => (E s).bind fun kv s1 => (F s1).bind fun vv s2 => match dicL [kv] [vv] [] with
      | some kvs => newObj s2 (.dct kvs true)
      | none => .bad) := by
  refine ⟨fun pins st σ H Q I h => ?_⟩
  obtain ⟨A, f, s, r, g⟩ := h
  have hn : H st.heap.objs.size = none := I.hok.fresh (Nat.le_refl _)
  have I0 := I.laid (a := st.heap.objs.size) (o := .dK []) (h' := st.heap.push { cls := .type "dict", data := .dict #[] }) (t' := st.toks) (fun _ _ q => Heap.get?_push_of_some _ q) (Nat.le_refl _) (dk_empty st.heap I.big)
  obtain ⟨o, I1, hd⟩ := dct_empty I0
  have hA : ¬ A st.heap.objs.size := r.nA hn
  have ex0 : Ext f s.objs H f s.objs (upd H st.heap.objs.size (rawO st.heap.objs.size o)) := Ext.of_same (same_upd hn)
  have nt0 := raw_noTbl (H := upd H st.heap.objs.size (rawO st.heap.objs.size o)) (hd _ upd_same) upd_same
  have r0 : R (wx X Φ).toWd (plusA A st.heap.objs.size) f s σ (upd H st.heap.objs.size (rawO st.heap.objs.size o)) := r.hide hn nt0
  refine wpAny_Dict_any rfl rfl (by simp) (by simp) ?_
  refine pairTrees_cons_walk (thn (hk.run pins _ σ _ (fun x H1 => ∃ f1 s1 kv, Ext f s.objs H f1 s1.objs H1 ∧ R (wx X Φ).toWd (plusA A st.heap.objs.size) f1 s1 σ H1 ∧ RepV (wx X Φ).toWd f1 (hid (plusA A st.heap.objs.size) f1 s1.objs H1) x kv ∧ H1 st.heap.objs.size = some (rawO st.heap.objs.size o) ∧
      GoO (wx X Φ) Z (RlV (wx X Φ)) A f s.objs σ H Q ((F s1).bind fun vv s2 => match dicL [kv] [vv] [] with
      | some kvs => newObj s2 (.dct kvs true)
      | none => .bad)) I1 ⟨plusA A st.heap.objs.size, f, s, r0, g.of_bindA ex0 (fun b => .inl) fun kv s1 f1 H1 x e1 eX R1 rk g1 => ⟨f1, s1, kv, ex0.trans eX, R1, rk, eX.keep _ _ upd_same (fun z => r0.disj _ z.mem (.inr rfl)) nt0.1, g1⟩⟩) fun u s1 q => ?_)
  obtain ⟨x, H1, J1, rx, f1, ms1, kv, ex1, R1, rk, hr1, g1⟩ := q
  refine thn (hv.run pins _ σ _ (fun y H2 => ∃ f2 s2 vv, Ext f s.objs H f2 s2.objs H2 ∧ R (wx X Φ).toWd (plusA A st.heap.objs.size) f2 s2 σ H2 ∧ RepV (wx X Φ).toWd f2 (hid (plusA A st.heap.objs.size) f2 s2.objs H2) x kv ∧ RepV (wx X Φ).toWd f2 (hid (plusA A st.heap.objs.size) f2 s2.objs H2) y vv ∧ H2 st.heap.objs.size = some (rawO st.heap.objs.size o) ∧
      GoO (wx X Φ) Z (RlV (wx X Φ)) A f s.objs σ H Q (match dicL [kv] [vv] [] with
      | some kvs => newObj s2 (.dct kvs true)
      | none => .bad)) J1 ⟨plusA A st.heap.objs.size, f1, ms1, R1, g1.of_bindA ex1 (fun b => .inl) fun vv s2 f2 H2 y e2 eY R2 rv g2 => ⟨f2, s2, vv, ex1.trans eY, R2, rk.ext eY, rv, eY.keep _ _ hr1 (fun z => R1.disj _ z.mem (.inr rfl)) nt0.1, g2⟩⟩) fun w s2 q => ?_
  obtain ⟨y, H2, J2, ry, f2, ms2, vv, ex2, R2, rk2, rv2, hr2, g2⟩ := q
  refine pairTrees_nil_walk ?_
  split at g2
  · rename_i kvs ek
    obtain ⟨kd, rfl, hkey, hfn, rfl⟩ := dicL_one ek
    have dv := dct_view J2 (hd _ hr2) .nil (rp_mono rk2) hkey rfl
    unfold storeAll
    rw [List.forIn_cons]
    refine wpAny_bind (wpAny_bind (raw_dictSet (by omega) J2 dv hkey rfl (by rw [line_eq]; simp) rx ry fun o2 s3 J3 hd2 => wpAny_pure ?_))
    dsimp only
    rw [List.forIn_nil]
    refine wpAny_pure ⟨.ref st.heap.objs.size, _, J3, rfl, ?_⟩
    refine g2 (f2 ++ [st.heap.objs.size]) _ (.ref st.heap.objs.size) (ex2.claim R2.len hn) (R2.claim hA hr2 (raw_noTbl (hd _ hr2) hr2) fun Hh e => ⟨_, hd2 _ upd_same, .cons (Rp.same e rk2) .nil, rfl, .cons (RepV.mono e ⟨_, rfl⟩ _ _ rv2) .nil⟩) ⟨_, ?_, rfl⟩
    rw [← R2.len]
    simp
  · exact g2.elim
end
end MI

set_option Elab.async false
set_option linter.all false
set_option maxRecDepth 100000
set_option maxHeartbeats 1000000
/-! MI: slices. -/
namespace MI
open PySem PySem.Spec L2
open PyProof.Rows hiding St

section
variable {prog : Program} {w : World} {A : Around} {E : Value → Shared → Prop} {s : Shared}
theorem sliceApplied_st {sl : Addr} {vl vu vs : Value} {lo hi st : Option Int} {n : Nat} {Q : Int × Int × Nat → Shared → Prop} (hs : s.heap.IsSliceOf sl vl vu vs) (pl : IsPart vl lo) (pu : IsPart vu hi) (ps : IsPart vs st) (h0 : st.getD 1 ≠ 0)
    (h : Q ((Builtin.Slice.sliceAdjust lo hi (st.getD 1) (n : Int)).1, st.getD 1, Builtin.Slice.slicePlaces (Builtin.Slice.sliceAdjust lo hi (st.getD 1) (n : Int)).1 (Builtin.Slice.sliceAdjust lo hi (st.getD 1) (n : Int)).2 (st.getD 1)) s) :
    wpAny (model prog w) A (Builtin.Slice.sliceApplied (.ref sl) (pure (n : Int))) Q E s := by
  obtain ⟨os, hos, hcs, hds⟩ := id hs
  unfold Builtin.Slice.sliceApplied Builtin.Slice.sliceFields
  refine wpAny_bind (wpAny_bind (wpAny_field hos hds (x := vl) rfl (wpAny_bind (wpAny_field hos hds (x := vu) rfl (wpAny_bind (wpAny_field hos hds (x := vs) rfl (wpAny_pure ?_)))))))
  refine wpAny_bind (HT.slicePart_ ps ?_)
  show wpAny _ _ (if ((st.getD 1) == 0) = true then _ else _) _ _ s
  rw [if_neg (by simpa using h0)]
  refine wpAny_bind (HT.slicePart_ pl (wpAny_bind (HT.slicePart_ pu (wpAny_bind (wpAny_pure ?_)))))
  exact wpAny_pure h
def pickT (xs : Array Value) (lo hi st : Option Int) : List Value :=
  (List.range (Builtin.Slice.slicePlaces (Builtin.Slice.sliceAdjust lo hi (st.getD 1) (xs.size : Int)).1 (Builtin.Slice.sliceAdjust lo hi (st.getD 1) (xs.size : Int)).2 (st.getD 1))).filterMap fun (m : Nat) => xs[((Builtin.Slice.sliceAdjust lo hi (st.getD 1) (xs.size : Int)).1 + (m : Int) * st.getD 1).toNat]?
theorem range_all {α : Type} (xs : Array α) : (List.range xs.size).filterMap (fun m => xs[m]?) = xs.toList := PySem.W.krv_all xs
theorem getItem_tuple_st {t sl : Addr} {items : Array Value} {vl vu vs : Value} {lo hi st : Option Int} {Q : Value → Shared → Prop} (ht : IsTup s.heap t items) (hs : s.heap.IsSliceOf sl vl vu vs) (pl : IsPart vl lo) (pu : IsPart vu hi) (ps : IsPart vs st) (h0 : st.getD 1 ≠ 0)
    (hz : (pickT items lo hi st).length ≤ sizeLine) (hq1 : pickT items lo hi st = items.toList → Q (.ref t) s) (hq2 : Q (.ref s.heap.objs.size) { s with heap := s.heap.push { cls := .type "tuple", data := .seq (pickT items lo hi st).toArray } }) :
    wpAny (model prog w) A (getItem (.ref t) (.ref sl)) Q E s := by
  have htake : PySem.sizeOk (.seq (pickT items lo hi st).toArray) := by
    show (pickT items lo hi st).toArray.size ≤ sizeLine
    rw [List.size_toArray]
    exact hz
  obtain ⟨os, hos, hcs, hds⟩ := id hs
  have hTs : s.TypeIs (.ref sl) "slice" := ⟨os, hos, hcs⟩
  unfold getItem
  try with_reducible refine wpAny_holding ?_
  first | refine wpAny_bind (wpAny_pure ?_) | skip
  refine wpAny_bind (wpAny_sequenceKey ht.typeIs (by decide) ?_)
  refine wpAny_bind (wpAny_callSpecial?_slot (name := Str.ofString "__getitem__") ht.typeIs PyProof.Rows.slot_tuple_getitem
    (wpAny_call_entry PyProof.Rows.slot_tuple_getitem ht.typeIs entry_tuple_getitem ?_ (args_tuple_getitem _ _)))
  show wpAny _ _ (Builtin.Tuple.tupleItemsOf (.ref t) >>= _) _ _ s
  refine wpAny_bind (tupleItemsOf_ ht ?_)
  refine wpAny_bind (wpAny_typeOf hTs ?_)
  rw [if_pos (by decide)]
  refine wpAny_bind (sliceApplied_st hs pl pu ps h0 ?_)
  show wpAny _ _ (if ((Builtin.Slice.sliceAdjust lo hi (st.getD 1) (items.size : Int)).1 == 0 && st.getD 1 == 1 && (Builtin.Slice.slicePlaces (Builtin.Slice.sliceAdjust lo hi (st.getD 1) (items.size : Int)).1 (Builtin.Slice.sliceAdjust lo hi (st.getD 1) (items.size : Int)).2 (st.getD 1)) == items.size) = true then _ else _) _ _ s
  split
  · rename_i hw
    rw [Bool.and_eq_true, Bool.and_eq_true] at hw
    have e1 := eq_of_beq hw.1.1
    have e2 := eq_of_beq hw.1.2
    have e3 := eq_of_beq hw.2
    have h := hq1 (by
      unfold pickT
      rw [e3, e1, e2]
      have : (fun (m : Nat) => items[(0 + (m : Int) * 1).toNat]?) = fun m => items[m]? := by
        funext m
        congr 1
        omega
      rw [this, range_all])
    refine wpAny_bind ?_
    show wpAny _ _ (typeOf (.ref t) >>= fun T => pure (T == .type "tuple")) _ _ s
    refine wpAny_bind (wpAny_typeOf ht.typeIs (wpAny_pure ?_))
    first
      | rw [if_pos (by decide)]
      | simp only [beq_self_eq_true, if_true]
    first
      | exact wpAny_bind (wpAny_rule (wpAny_pure ⟨_, rfl, wpAny_pure h⟩))
      | exact wpAny_bind (wpAny_rule (wpAny_bind (wpAny_pure (wpAny_pure ⟨_, rfl, wpAny_pure h⟩))))
  · first
      | exact wpAny_bind (m := Builtin.Tuple.tupleExact _) (wpAny_newObj_type (wpAny_pure ⟨_, rfl, wpAny_pure hq2⟩) htake)
      | exact wpAny_bind (m := Builtin.Tuple.tupleExact _) (wpAny_newObj_type (wpAny_bind (wpAny_pure (wpAny_pure ⟨_, rfl, wpAny_pure hq2⟩))) htake)
      | exact wpAny_bind (wpAny_bind (m := Builtin.Tuple.tupleExact _) (wpAny_newObj_type (wpAny_pure (wpAny_pure ⟨_, rfl, wpAny_pure hq2⟩)) htake))
      | exact wpAny_bind (wpAny_bind (m := Builtin.Tuple.tupleExact _) (wpAny_newObj_type (wpAny_pure ⟨_, rfl, wpAny_pure hq2⟩) htake))
end

section
variable {X : Cx} {Φ : Fx} {Z : L2.WX} {pos : Pos}
/-- a part of a slice -/
def partX (x : V) (o : Option Int) : Prop := (x = .non ∧ o = none) ∨ ∃ i, x = .int i ∧ o = some i
def tPx (t : TE) : TO := fun σ H Q => t σ H fun x H1 => ∃ o, partX x o ∧ Q o H1
theorem part_rep {W : Wd} {f : List Addr} {Hh : Hp} {x : V} {v : Val} {o : Option Int} (h : partI v = some o) (r : RepV W f Hh x v) : partX x o := by
  unfold partI at h
  split at h
  · cases h
    exact .inl ⟨rp_non r, rfl⟩
  · cases h
    exact .inr ⟨_, rep_int r, rfl⟩
  · cases h
/-- an option of a part -/
abbrev RlO : List Addr → Hp → Option Int → Option Int → Prop := fun _ _ a b => a = b
theorem po_of {e : Option Expr} {E : ME → MS → Out Val} {m : ME} (h : partV X Φ Z e (E m)) : PO X e (tO (wx X Φ) Z RlO (partE E m)) := by
  cases e with
  | none =>
    have e0 : E m = fun s => .ok (.d .none) s := h
    refine ⟨fun pins s σ H Q I hw => po_none.run pins s σ H Q I ?_⟩
    obtain ⟨A, f, ms, r, g⟩ := hw
    unfold partE at g
    rw [e0] at g
    exact g f H none (Ext.refl _ _ _) r rfl
  | some e =>
    have he : PE X e (tE (wx X Φ) Z (E m)) := h
    refine ⟨fun pins s σ H Q I hw => ?_⟩
    rw [evalPart_some]
    obtain ⟨A, f, ms, r, g⟩ := hw
    have hw' : tE (wx X Φ) Z (E m) σ H fun x H1 => ∃ o, partX x o ∧ Q o H1 := by
      refine ⟨A, f, ms, r, GoO.of_bind (Rel := RlV (wx X Φ)) g fun v s1 f1 H1 x e1 eX R1 rv g1 => ?_⟩
      split at g1
      · rename_i o eo
        exact ⟨o, part_rep eo rv, g1 f1 H1 o (Ext.refl _ _ _) R1 rfl⟩
      · exact g1.elim
    refine thn (he.run pins s σ H _ I hw') fun u s1 ⟨x, H1, I1, r1, o, ho, q1⟩ => ?_
    rcases ho with ⟨rfl, rfl⟩ | ⟨i, rfl, rfl⟩
    · cases r1
      exact ⟨none, H1, I1, .none, q1⟩
    · obtain ⟨t, rfl⟩ := r1
      exact ⟨some i, H1, I1, .int i t, q1⟩
/-- a written step -/
theorem po_step {st : Option Expr} {k : Int} (h : stepOf st = some k) : ∃ o : Option Int, o.getD 1 = k ∧ (o = none ∨ o = some k) ∧ PO X st (fun _ H Q => Q o H) := by
  unfold stepOf at h
  split at h
  · cases h
    exact ⟨none, rfl, .inl rfl, po_none⟩
  · rename_i i j p
    cases h
    refine ⟨some k, rfl, .inr rfl, ⟨fun pins s σ H Q I hw => (po_some (pe_int (i := k) (j := j) (pos := p))).run pins s σ H Q I ⟨k, rfl, hw⟩⟩⟩
  · rename_i i j p p2
    cases h
    exact ⟨some (-i), rfl, .inr rfl, ⟨fun pins s σ H Q I hw => (po_some (pe_un un_neg (pe_int (i := i) (j := j) (pos := p)) (pos := p2))).run pins s σ H Q I ⟨i, rfl, -i, rfl, hw⟩⟩⟩
  · cases h
theorem pick_map {α β : Type} {F : α → β → Prop} {l : List α} {m : List β} (h : Paired F l m) (g : Nat → Nat) : ∀ ks : List Nat, Paired F (ks.filterMap fun k => l[g k]?) (ks.filterMap fun k => m[g k]?)
  | [] => .nil
  | k :: ks => by
    have hl := Paired.length' h
    rw [List.filterMap_cons, List.filterMap_cons]
    by_cases hk : g k < l.length
    · have e2 : m[g k]? = some (m[g k]'(by omega)) := by simp [show g k < m.length by omega]
      obtain ⟨a, e1, r⟩ := Paired.getR h e2
      rw [e1, e2]
      exact .cons r (pick_map h g ks)
    · rw [List.getElem?_eq_none (by omega), List.getElem?_eq_none (by omega)]
      exact pick_map h g ks
theorem cutT_of {W : Wd} {f : List Addr} {Hh : Hp} {us : List V} {vs : List Val} (h : PV W f Hh us vs) (lo hi : Option Int) (st : Int) : PV W f Hh ((List.range (Builtin.Slice.slicePlaces (Builtin.Slice.sliceAdjust lo hi st us.length).1 (Builtin.Slice.sliceAdjust lo hi st us.length).2 st)).filterMap fun (m : Nat) => us[((Builtin.Slice.sliceAdjust lo hi st us.length).1 + (m : Int) * st).toNat]?) (cutT vs lo hi st) := by
  unfold cutT
  rw [← Paired.length' h]
  exact pick_map h (fun m => ((Builtin.Slice.sliceAdjust lo hi st us.length).1 + (m : Int) * st).toNat) _
theorem cutL_of {W : Wd} {f : List Addr} {Hh : Hp} {us : List V} {vs : List Val} (h : PV W f Hh us vs) (lo hi : Option Int) (st : Int) : PV W f Hh ((sliceRange (sliceBounds lo hi (some st) us.length).1 (sliceBounds lo hi (some st) us.length).2.1 (sliceBounds lo hi (some st) us.length).2.2).filterMap (us[·]?)) (cutL vs lo hi st) := by
  unfold cutL
  rw [← Paired.length' h]
  exact pick_map h id _
theorem vals_pickT {us : List V} {its : List Value} (h : Vals us its) (lo hi st : Option Int) : Vals ((List.range (Builtin.Slice.slicePlaces (Builtin.Slice.sliceAdjust lo hi (st.getD 1) us.length).1 (Builtin.Slice.sliceAdjust lo hi (st.getD 1) us.length).2 (st.getD 1))).filterMap fun (m : Nat) => us[((Builtin.Slice.sliceAdjust lo hi (st.getD 1) us.length).1 + (m : Int) * st.getD 1).toNat]?) (pickT its.toArray lo hi st) := by
  unfold pickT
  rw [List.size_toArray, ← h.length]
  have := pick_map (show Paired L2.RelV us its from h) (fun m => ((Builtin.Slice.sliceAdjust lo hi (st.getD 1) us.length).1 + (m : Int) * st.getD 1).toNat) (List.range (Builtin.Slice.slicePlaces (Builtin.Slice.sliceAdjust lo hi (st.getD 1) us.length).1 (Builtin.Slice.sliceAdjust lo hi (st.getD 1) us.length).2 (st.getD 1)))
  simpa using this
theorem vals_pickL {us : List V} {its : List Value} (h : Vals us its) (lo hi st : Option Int) : Vals ((sliceRange (sliceBounds lo hi st us.length).1 (sliceBounds lo hi st us.length).2.1 (sliceBounds lo hi st us.length).2.2).filterMap (us[·]?)) (slicePick its.toArray lo hi st).toList := by
  unfold slicePick
  rw [List.size_toArray, ← h.length]
  have := pick_map (show Paired L2.RelV us its from h) id (sliceRange (sliceBounds lo hi st us.length).1 (sliceBounds lo hi st us.length).2.1 (sliceBounds lo hi st us.length).2.2)
  simpa using this
theorem tail_sl {a : Expr} {lo hi st : Option Expr} {p2 : Pos} {b sl : Addr} {T : String} {id : String} {s : Shared} {Q : Value → Shared → Prop} (ht : s.TypeIs (.ref b) T) (hT : typeLookup (.type T) "__getitem__" = pure (some (.builtin id)))
    (hg : wpAny (model X.prog X.w) X.A (getItem (.ref b) (.ref sl)) Q X.xe s) : wpAny (model X.prog X.w) X.A (subscriptTail a (.Slice lo hi st p2) (.ref b) (.ref sl)) Q X.xe s := by
  cases st with
  | none => exact tail_any (ops := [.ref sl, .ref b]) ht hT hg (by with_unfolding_all rfl)
  | some st => exact tail_any (ops := [.ref b, .ref sl]) ht hT hg (by with_unfolding_all rfl)
theorem e_sl {a : Expr} {lo hi st : Option Expr} {k : Int} {p2 : Pos} {E : MS → Out Val} {F : ME → MS → Out Val} {ml mh : ME} (hk : stepOf st = some k) (ha : PE X a (tE (wx X Φ) Z E)) (hl : partV X Φ Z lo (F ml)) (hh : partV X Φ Z hi (F mh)) :
    PE X (.Subscript a (.Slice lo hi st p2) pos) (tE (wx X Φ) Z fun s => (E s).bind fun v s1 => (partE F ml s1).bind fun l s2 => (partE F mh s2).bind fun h s3 => slV v l h k s3) := by
  obtain ⟨so, hso, hsk, hst⟩ := po_step (X := X) hk
  refine ⟨fun pins s σ H Q I h => ?_⟩
  obtain ⟨A, f, ms, r, h⟩ := h
  have h1 : tE (wx X Φ) Z E σ H fun x H1 => tO (wx X Φ) Z RlO (partE F ml) σ H1 fun lo' H2 => tO (wx X Φ) Z RlO (partE F mh) σ H2 fun hi' H3 =>
      ∃ A f s v, R (wx X Φ).toWd A f s σ H3 ∧ RepV (wx X Φ).toWd f (hid A f s.objs H3) x v ∧ GoO (wx X Φ) Z (RlV (wx X Φ)) A f s.objs σ H3 Q (slV v lo' hi' k s) := by
    refine ⟨A, f, ms, r, h.of_bind fun v s1 f1 H1 x e1 eX R1 rv g => ⟨A, f1, s1, R1, GoO.of_bind (Rel := RlO) g fun l s2 f2 H2 y e2 eY R2 rl g2 => ⟨A, f2, s2, R2, GoO.of_bind (Rel := RlO) g2 fun h s3 f3 H3 z e3 eZ R3 rh g3 => ?_⟩⟩⟩
    cases rl
    cases rh
    exact ⟨A, f3, s3, v, R3, (rv.ext eY).ext eZ, g3⟩
  refine Subscript_ (thn (ha.run pins s σ H _ I h1) fun v s1 ⟨x, H1, I1, r1, q1⟩ => ?_)
  refine wpAny_Slice (thn ((po_of hl).run pins s1 σ H1 _ I1 q1) fun vl s2 ⟨l, H2, I2, pl, q2⟩ => ?_)
  refine thn ((po_of hh).run pins s2 σ H2 _ I2 q2) fun vu s3 ⟨u, H3, I3, pu, q3⟩ => ?_
  refine thn (hst.run pins s3 σ H3 (fun o H4 => o = so ∧ H4 = H3) I3 ⟨rfl, rfl⟩) fun vs s4 ⟨o, H4, I4, ps, eo, e4⟩ => ?_
  rw [eo] at ps
  clear eo
  subst e4
  obtain ⟨A', f', m', vv, R', rv, g⟩ := q3
  have I5 : L2.Inv X pins σ H4 { s4 with heap := s4.heap.push { cls := .type "slice", data := .fields #[vl, vu, vs] } } := I4.kept (t' := s4.toks) fun b ob q => Heap.get?_push_of_some _ q
  unfold slV at g
  split at g
  · exact g.elim
  rename_i hk0
  split at g
  · rename_i xs ei
    split at g
    · rename_i ht
      obtain ⟨b, us, rfl, h2, hv⟩ := items_list ei ht R' rv
      cases r1
      obtain ⟨hz, q⟩ := go_newLst g R' (cutL_of hv l u k)
      obtain ⟨its, rr, pl2, hz2⟩ := I5.list (h2)
      have hlen := rr.length
      show wpAny (model X.prog X.w) X.A (subscriptTail a (.Slice lo hi st p2) (.ref b) (.ref s4.heap.objs.size)) (EP X pins σ Q) X.xe { s4 with heap := s4.heap.push { cls := .type "slice", data := .fields #[vl, vu, vs] } }
      refine tail_sl pl2.isList.typeIs (PySem.slot_list_getitem.lookup) ?_
      refine wpAny_getItem_list_slice pl2.isList (Heap.IsSliceOf.new _ vl vu vs) pl pu ps (fun z => hk0 (by rw [← hso, z]; rfl)) ?_ (by rw [List.size_toArray]; omega)
      have hvp := vals_pickL rr l u so
      have hsb : sliceBounds l u so us.length = sliceBounds l u (some k) us.length := by
        rcases hsk with z | z
        · rw [z] at hso ⊢
          have : k = 1 := hso.symm
          rw [this]
          rfl
        · rw [z]
      rw [hsb] at hvp
      refine ⟨.ref _, _, I5.laid (t' := s4.toks) (o := .lst _) (fun b ob q => Heap.get?_push_of_some _ q) (Nat.le_refl _) ?_, rfl, q _ (I5.hok.fresh (Nat.le_refl _))⟩
      exact ⟨hz, _, 0, hvp, Heap.get?_push_size _ rfl⟩
    · rename_i ht
      obtain ⟨b, us, ds, rfl, rfl, rfl, h2, hp⟩ := items_tuple ei ht R' rv
      cases r1
      split at g
      · rename_i es ep
        split at g
        · rename_i hz
          have hv := cutT_of (f := f') (PV_map hp) l u k
          have hpe := pures_ok ep hv
          have hzl := RpA.length hpe
          have hz := sizeOk_of hz
          obtain ⟨its, rr, pl2, hz2⟩ := I5.tuple h2
          have hvp := vals_pickT rr l u so
          rw [hso] at hvp
          have hlp := hvp.length
          show wpAny (model X.prog X.w) X.A (subscriptTail a (.Slice lo hi st p2) (.ref b) (.ref s4.heap.objs.size)) (EP X pins σ Q) X.xe { s4 with heap := s4.heap.push { cls := .type "slice", data := .fields #[vl, vu, vs] } }
          refine tail_sl pl2.typeIs (PyProof.Rows.slot_tuple_getitem.lookup) ?_
          refine getItem_tuple_st pl2 (Heap.IsSliceOf.new _ vl vu vs) pl pu ps (by rw [hso]; exact hk0) (by omega) (fun he => ?_) ?_
          · rw [he] at hvp
            have eu := Vals.inj hvp (by simpa using rr)
            have h2h : SqT X.K (hid A' f' m'.objs H4) b us := by
              cases rv with
              | @tup _ us' _ h3 h4 =>
                have := I4.tuple_inj h2 (Same.sqT hid_sub h3)
                rw [this]
                exact h3
            refine ⟨.ref b, H4, I5, rfl, go_d g R' (Rp.tup h2h ?_)⟩
            rw [← eu]
            exact hpe
          · refine ⟨.ref _, _, I5.laid (t' := s4.toks) (o := .tup _) (fun b ob q => Heap.get?_push_of_some _ q) (Nat.le_refl _) ?_, rfl, go_tuple g R' hpe (I5.hok.fresh (Nat.le_refl _))⟩
            exact ⟨by omega, _, hvp, IsTup.new _ _⟩
        · exact g.elim
      · exact g.elim
    · exact g.elim
  · exact g.elim
end
end MI

set_option Elab.async false
set_option linter.all false
set_option maxRecDepth 100000
set_option maxHeartbeats 1000000
/-! MI: statements: readings, forms. -/
namespace MI
open PySem PySem.Spec L2
open PyProof.Rows hiding St

section
variable (W : Wx) (Z : L2.WX)
/-- what a statement's answer asks -/
def GoS (A : Addr → Prop) (f : List Addr) (os : List MO) (H : Hp) (D : Ends) : Out Flow → Prop
  | .ok fl s' => ∀ f' H' σ', Ext f os H f' s'.objs H' → R W.toWd A f' s' σ' H' → match fl with
    | .next => D.nx σ' H'
    | .brk => D.bk σ' H'
    | .cnt => D.ct σ' H'
    | .ret v => ∀ u, RepV W.toWd f' (hid A f' s'.objs H') u v → D.rt u H'
  | .exc c x s' => ∀ f' H' σ' cls dd, Ext f os H f' s'.objs H' → R W.toWd A f' s' σ' H' → ExcR W.toWd W.ca (hid A f' s'.objs H') cls dd c x → Z cls dd σ' H'
  | .bad => False
def tX (F : MS → Out Flow) : TS := fun D σ H => ∃ A f s, R W.toWd A f s σ H ∧ GoS W Z A f s.objs H D (F s)
variable {W} {Z}
theorem GoS.rebase {A : Addr → Prop} {f f1 : List Addr} {os os1 : List MO} {H H1 : Hp} {D : Ends} {o : Out Flow} (h : GoS W Z A f os H D o) (e : Ext f os H f1 os1 H1) : GoS W Z A f1 os1 H1 D o := by
  cases o with
  | ok b s' => exact fun f' H' σ' x r => h f' H' σ' (e.trans x) r
  | exc c x s' => exact fun f' H' σ' cls dd z r q => h f' H' σ' cls dd (e.trans z) r q
  | bad => exact h
/-- an evaluation, then more of the statement -/
theorem GoS.of_bind {α β : Type} {Rel : List Addr → Hp → α → β → Prop} {A : Addr → Prop} {f : List Addr} {os : List MO} {σ : St} {H : Hp} {D : Ends} {Q1 : α → Hp → Prop} {o : Out β} {k : β → MS → Out Flow}
    (h : GoS W Z A f os H D (o.bind k)) (hk : ∀ b s1 f1 H1 a, o = .ok b s1 → Ext f os H f1 s1.objs H1 → R W.toWd A f1 s1 σ H1 → Rel f1 (hid A f1 s1.objs H1) a b → GoS W Z A f1 s1.objs H1 D (k b s1) → Q1 a H1) : GoO W Z Rel A f os σ H Q1 o := by
  cases o with
  | ok b s1 => exact fun f1 H1 a e r q => hk b s1 f1 H1 a rfl e r q ((show GoS W Z A f os H D (k b s1) from h).rebase e)
  | exc c x s' => exact fun f' H' cls dd z r q => h f' H' σ cls dd z r q
  | bad => exact h
/-- a statement, then others -/
theorem GoS.of_seq {A : Addr → Prop} {f : List Addr} {os : List MO} {H : Hp} {D D' : Ends} {o : Out Flow} {k : Flow → MS → Out Flow} (h : GoS W Z A f os H D (o.bind k))
    (hn : ∀ s1 f1 H1 σ1, o = .ok .next s1 → Ext f os H f1 s1.objs H1 → R W.toWd A f1 s1 σ1 H1 → GoS W Z A f1 s1.objs H1 D (k .next s1) → D'.nx σ1 H1)
    (hb : ∀ s1 f1 H1 σ1, o = .ok .brk s1 → Ext f os H f1 s1.objs H1 → R W.toWd A f1 s1 σ1 H1 → GoS W Z A f1 s1.objs H1 D (k .brk s1) → D'.bk σ1 H1)
    (hc : ∀ s1 f1 H1 σ1, o = .ok .cnt s1 → Ext f os H f1 s1.objs H1 → R W.toWd A f1 s1 σ1 H1 → GoS W Z A f1 s1.objs H1 D (k .cnt s1) → D'.ct σ1 H1)
    (hr : ∀ v s1 f1 H1 σ1 u, o = .ok (.ret v) s1 → Ext f os H f1 s1.objs H1 → R W.toWd A f1 s1 σ1 H1 → RepV W.toWd f1 (hid A f1 s1.objs H1) u v → GoS W Z A f1 s1.objs H1 D (k (.ret v) s1) → D'.rt u H1) : GoS W Z A f os H D' o := by
  cases o with
  | ok fl s1 =>
    intro f1 H1 σ1 e r
    have g : GoS W Z A f1 s1.objs H1 D (k fl s1) := (show GoS W Z A f os H D (k fl s1) from h).rebase e
    cases fl with
    | next => exact hn s1 f1 H1 σ1 rfl e r g
    | brk => exact hb s1 f1 H1 σ1 rfl e r g
    | cnt => exact hc s1 f1 H1 σ1 rfl e r g
    | ret v => exact fun u q => hr v s1 f1 H1 σ1 u rfl e r q g
  | exc c x s' => exact h
  | bad => exact h
end

section
variable {X : Cx} {Φ : Fx} {Z : L2.WX} {pos : Pos}
/-! ### blocks -/
theorem x_nil {E : MSt → MS → Out Flow} : PSs X [] (tX (wx X Φ) Z (exs E [])) := PSs_imp pss_nil fun D σ H ⟨A, f, s, r, h⟩ => h f H σ (Ext.refl _ _ _) r
theorem x_cons {st : Stmt} {rest : List Stmt} {E : MSt → MS → Out Flow} {m : MSt} {ms : List MSt} (h1 : PS X st (tX (wx X Φ) Z (E m))) (h2 : PSs X rest (tX (wx X Φ) Z (exs E ms))) : PSs X (st :: rest) (tX (wx X Φ) Z (exs E (m :: ms))) := by
  refine PSs_imp (pss_cons h1 h2) fun D σ H ⟨A, f, s, r, h⟩ => ⟨A, f, s, r, ?_⟩
  refine GoS.of_seq (D := D) (k := fun f s1 => match f with
    | .next => exs E ms s1
    | f => .ok f s1) h (fun s1 f1 H1 σ1 _ e R1 g => ⟨A, f1, s1, R1, g⟩) (fun s1 f1 H1 σ1 _ e R1 g => g f1 H1 σ1 (Ext.refl _ _ _) R1) (fun s1 f1 H1 σ1 _ e R1 g => g f1 H1 σ1 (Ext.refl _ _ _) R1) (fun v s1 f1 H1 σ1 u _ e R1 q g => g f1 H1 σ1 (Ext.refl _ _ _) R1 u q)
theorem x_pass : PS X (.Pass pos) (tX (wx X Φ) Z fun s => .ok .next s) := PS_imp ps_pass fun D σ H ⟨A, f, s, r, h⟩ => h f H σ (Ext.refl _ _ _) r
theorem x_brk : PS X (.Break pos) (tX (wx X Φ) Z fun s => .ok .brk s) := PS_imp ps_break fun D σ H ⟨A, f, s, r, h⟩ => h f H σ (Ext.refl _ _ _) r
theorem x_cnt : PS X (.Continue pos) (tX (wx X Φ) Z fun s => .ok .cnt s) := PS_imp ps_continue fun D σ H ⟨A, f, s, r, h⟩ => h f H σ (Ext.refl _ _ _) r
theorem x_doc {x j pos'} : PS X (.Expr (.Constant (.str x) j pos) pos') (tX (wx X Φ) Z fun s => .ok .next s) := PS_imp ps_doc fun D σ H ⟨A, f, s, r, h⟩ => h f H σ (Ext.refl _ _ _) r
theorem x_ret {e : Expr} {E : MS → Out Val} (he : PE X e (tE (wx X Φ) Z E)) : PS X (.Return (some e) pos) (tX (wx X Φ) Z fun s => (E s).bind fun v s1 => .ok (.ret v) s1) := by
  refine PS_imp (ps_ret he) fun D σ H ⟨A, f, s, r, h⟩ => ⟨A, f, s, r, ?_⟩
  exact GoS.of_bind h fun v s1 f1 H1 x e1 eX R1 rv g => g f1 H1 σ (Ext.refl _ _ _) R1 x rv
theorem x_retN : PS X (.Return none pos) (tX (wx X Φ) Z fun s => .ok (.ret (.d .none)) s) := PS_imp ps_retN fun D σ H ⟨A, f, s, r, h⟩ => h f H σ (Ext.refl _ _ _) r .non Rp.non
theorem sw_no {e : Expr} {t : Option Expr} {l : Nat} {env : Env} (h : noComp e = true) : swapsWith e t l env = pure false := by
  unfold swapsWith
  cases e <;> first | rfl | cases h
theorem x_ex {e : Expr} {E : MS → Out Val} (hn : noComp e = true) (he : PE X e (tE (wx X Φ) Z E)) : PS X (.Expr e pos) (tX (wx X Φ) Z fun s => (E s).bind fun _ s1 => .ok .next s1) := by
  refine PS_imp (ps_expr he (sw_no hn)) fun D σ H ⟨A, f, s, r, h⟩ => ⟨A, f, s, r, ?_⟩
  exact GoS.of_bind h fun v s1 f1 H1 x e1 eX R1 rv g => g f1 H1 σ (Ext.refl _ _ _) R1
theorem x_iff {c : Expr} {a b : List Stmt} {T : MS → Out Bool} {E F : MS → Out Flow} (hc : PT X c (tT (wx X Φ) Z T)) (ha : PSs X a (tX (wx X Φ) Z E)) (hb : PSs X b (tX (wx X Φ) Z F)) :
    PS X (.If c a b pos) (tX (wx X Φ) Z fun s => (T s).bind fun t s1 => if t then E s1 else F s1) := by
  refine PS_imp (ps_if hc ha hb) fun D σ H ⟨A, f, s, r, h⟩ => ⟨A, f, s, r, ?_⟩
  refine GoS.of_bind h fun t s1 f1 H1 x e1 eX R1 rv g => ?_
  cases rv
  cases t with
  | true => exact ⟨A, f1, s1, R1, g⟩
  | false => exact ⟨A, f1, s1, R1, g⟩

/-! ### targets -/
mutual
def gM (K : PySem.W.Frag) : MT → TG
  | .n i => gName i
  | .t ts => gTup K ts.length (gMs K ts)
def gMs (K : PySem.W.Frag) : List MT → TGs
  | [] => gNil
  | t :: ts => gCons (gM K t) (gMs K ts)
end
theorem set_slot {W : Wd} {A : Addr → Prop} {f : List Addr} {s : MS} {σ : St} {H : Hp} {i : Nat} {u : V} {v : Val} (r : R W A f s σ H) (rv : RepV W f (hid A f s.objs H) u v) : R W A f (s.setSlot i v) (σ.set i (some u)) H := r.slot rv
theorem asgL_len : ∀ {ts : List MT} {vs : List Val} {s s' : MS}, asgL ts vs s = some s' → vs.length = ts.length
  | [], [], _, _, _ => rfl
  | _ :: ts, _ :: vs, s, s', h => by
    unfold asgL at h
    split at h
    · simp [asgL_len h]
    · cases h
  | [], _ :: _, _, _, h => by cases h
  | _ :: _, [], _, _, h => by cases h
/-- only these slots were changed -/
def OnlyAt (is : List Nat) (σ σ' : St) : Prop := ∀ own : List Nat, (∀ i ∈ is, i ∈ own) → wipe σ' own = wipe σ own
theorem wipe_set {σ : St} {i : Nat} {x : Option V} : ∀ {own : List Nat}, i ∈ own → wipe (σ.set i x) own = wipe σ own
  | [], h => by cases h
  | j :: own, h => by
    unfold wipe
    by_cases e : i ∈ own
    · rw [wipe_set e]
    · have e2 : i = j := by
        rcases List.mem_cons.mp h with z | z
        · exact z
        · exact absurd z e
      subst e2
      have : ∀ (own : List Nat), i ∉ own → wipe (σ.set i x) own = (wipe σ own).set i x := by
        intro own
        induction own with
        | nil => intro _; rfl
        | cons k own ih =>
          intro hn
          simp only [List.mem_cons, not_or] at hn
          unfold wipe
          rw [ih hn.2, List.set_comm _ _ (Ne.symm hn.1)]
      rw [this own e, List.set_set]
theorem OnlyAt.refl (is : List Nat) (σ : St) : OnlyAt is σ σ := fun _ _ => rfl
mutual
theorem g_ok {W : Wd} {A : Addr → Prop} {f : List Addr} {H : Hp} {Q : St → Hp → Prop} : ∀ (t : MT) (v : Val) (u : V) (s s' : MS) (σ : St), asgV t v s = some s' → R W A f s σ H → RepV W f (hid A f s.objs H) u v → (∀ σ', s'.objs = s.objs → OnlyAt t.slots σ σ' → R W A f s' σ' H → Q σ' H) → gM W.K t u σ H Q
  | .n i, v, u, s, s', σ, h, r, rv, k => by
    unfold asgV at h
    split at h
    · cases h
      unfold gM gName
      exact k _ rfl (fun own h => wipe_set (h i (by simp [MT.slots]))) (r.slot rv)
    · cases h
  | .t ts, v, u, s, s', σ, h, r, rv, k => by
    unfold asgV at h
    split at h
    · rename_i xs
      cases rv with
      | @tup a us _ h1 h2 =>
        unfold gM gTup
        refine ⟨a, us, rfl, Same.sqT hid_sub h1, ?_, gs_ok ts (xs.map .d) us s s' σ h r (PV_map h2) fun σ' ho oa => k σ' ho (by unfold MT.slots; exact oa)⟩
        rw [RpA.length h2, ← List.length_map (f := Val.d), asgL_len h]
    · cases h
theorem gs_ok {W : Wd} {A : Addr → Prop} {f : List Addr} {H : Hp} {Q : St → Hp → Prop} : ∀ (ts : List MT) (vs : List Val) (us : List V) (s s' : MS) (σ : St), asgL ts vs s = some s' → R W A f s σ H → PV W f (hid A f s.objs H) us vs → (∀ σ', s'.objs = s.objs → OnlyAt (MT.slotsL ts) σ σ' → R W A f s' σ' H → Q σ' H) → gMs W.K ts us σ H Q
  | [], [], us, s, s', σ, h, r, rv, k => by
    cases h
    cases rv
    unfold gMs gNil
    exact ⟨rfl, k _ rfl (OnlyAt.refl _ _) r⟩
  | t :: ts, v :: vs, us, s, s', σ, h, r, rv, k => by
    unfold asgL at h
    split at h
    · rename_i s1 e
      cases rv with
      | cons r1 r2 =>
        unfold gMs gCons
        refine ⟨_, _, rfl, g_ok t v _ s s1 σ e r r1 fun σ1 ho oa R1 => ?_⟩
        refine gs_ok ts vs _ s1 s' σ1 h R1 (by rw [ho]; exact r2) fun σ2 ho2 oa2 R2 => k σ2 (ho2.trans ho) (fun own hw => ?_) R2
        unfold MT.slotsL at hw
        rw [oa2 own fun i hi => hw i (List.mem_append_right _ hi), oa own fun i hi => hw i (List.mem_append_left _ hi)]
    · cases h
  | [], _ :: _, _, _, _, _, h, _, _, _ => by cases h
  | _ :: _, [], _, _, _, _, h, _, _, _ => by cases h
end
theorem isPlain_ok {sc : Scope} {x : Str} (h : isPlain sc x = true) : sc.names.lookup x = some .local := by
  unfold isPlain at h
  split at h
  · assumption
  · cases h
theorem each_cons {e : Expr} {es : List Expr} {env : Env} (h : notStar e = true) : assignEach (e :: es) env = (false, assign e env) :: assignEach es env := by
  cases e <;> first | rfl | cases h
theorem each_len {env : Env} : ∀ {es : List Expr}, es.all notStar = true → (assignEach es env).length = es.length ∧ (assignEach es env).findIdx? (·.1) = none
  | [], _ => ⟨rfl, rfl⟩
  | e :: es, h => by
    rw [List.all_cons, Bool.and_eq_true] at h
    obtain ⟨h1, h2⟩ := each_len (env := env) h.2
    rw [each_cons h.1]
    refine ⟨by simp [h1], ?_⟩
    rw [List.findIdx?_cons]
    simp [h2]
theorem compL_len {α β : Type} {F : α → Option β} : ∀ {l : List α} {m : List β}, compL F l = some m → m.length = l.length
  | [], m, h => by cases h; rfl
  | a :: l, m, h => by
    unfold compL at h
    split at h
    · rename_i b s e1 e2
      cases h
      simp [compL_len e2]
    · cases h
/-- a target as the checker has it -/
theorem pg_of {c : SC} (hc : X.calm = true) (hN : X.N = c.N) (hnd : X.N.Nodup) (hsc : X.env.scope = c.sc) (hf : c.fnB = true → ∀ x, X.fn x = true) : ∀ (n : Nat) (e : Expr) (t : MT), compT c n e = some t → PG X e (gM X.K t)
  | 0, _, _, h => by cases h
  | n + 1, e, t, h => by
    have ih := pg_of hc hN hnd hsc hf n
    have ihs : ∀ (es : List Expr) (ts : List MT), compL (compT c n) es = some ts → es.all notStar = true → PGs X es (gMs X.K ts) := by
      intro es
      induction es with
      | nil =>
        intro ts h _
        cases h
        unfold gMs
        exact pgs_nil
      | cons e es ih2 =>
        intro ts h hs
        rw [List.all_cons, Bool.and_eq_true] at hs
        unfold compL at h
        split at h
        · rename_i t ts' e1 e2
          cases h
          unfold gMs
          exact pgs_cons (ih e t e1) (ih2 ts' e2 hs.2) (by rw [each_cons hs.1]; rfl)
        · cases h
    unfold compT at h
    split at h
    · rename_i x p
      split at h
      · rename_i hx
        obtain ⟨i, e1, rfl⟩ := map_some h
        have hi := slotOf_get e1
        rw [← hN] at hi
        rw [Bool.or_eq_true, Bool.and_eq_true] at hx
        unfold gM
        rw [← hsc] at hx
        rcases hx with hx | ⟨h1, h2⟩
        · exact pg_name hnd hi (.inl (isPlain_ok hx)) (.inr (isPlain_ok hx))
        · exact pg_name hnd hi (isLoc_ok h2) (.inl (hf h1 x))
      · cases h
    · rename_i es k p
      split at h
      · rename_i hs
        obtain ⟨ts, e1, rfl⟩ := map_some h
        unfold gM
        obtain ⟨l1, l2⟩ := each_len (env := X.env) hs
        exact pg_tup hc (ihs es ts e1 hs) (by rw [l1, compL_len e1]) l2
      · cases h
    · cases h
/-- a walked item, stored -/
def ItemR (W : Wd) (f : List Addr) (Hh H : Hp) (x : V) (H' : Hp) : Item → Prop
  | .one v => H' = H ∧ RepV W f Hh x v
  | .many vs => ∃ T us, x = .ref T ∧ H T = none ∧ H' = upd H T (.tup us) ∧ PV W f Hh us vs
theorem gi_ok {W : Wd} {A : Addr → Prop} {f : List Addr} {H H' : Hp} {Q : St → Hp → Prop} {t : MT} {it : Item} {u : V} {s s' : MS} {σ : St} (h : asgI t it s = some s') (r : R W A f s σ H) (ri : ItemR W f (hid A f s.objs H) H u H' it)
    (k : ∀ σ', s'.objs = s.objs → Ext f s.objs H f s.objs H' → OnlyAt t.slots σ σ' → R W A f s' σ' H' → Q σ' H') : gM W.K t u σ H' Q := by
  cases it with
  | one v =>
    obtain ⟨rfl, rv⟩ := ri
    have h' : asgV t v s = some s' := by cases t <;> exact h
    exact g_ok t v u s s' σ h' r rv fun σ' ho oa R' => k σ' ho (Ext.refl _ _ _) oa R'
  | many vs =>
    obtain ⟨T, us, rfl, hT, rfl, rv⟩ := ri
    have r' := r.same (same_upd (o := .tup us) hT)
    have ex : Ext f s.objs H f s.objs (upd H T (.tup us)) := Ext.of_same (same_upd hT)
    have rv' := PV.ext (A := A) ex rv
    cases t with
    | n i =>
      have h' : (match pures vs with
        | some ds => if i < s.env.length then some (s.setSlot i (.d (.tuple ds))) else none
        | none => none) = some s' := h
      split at h'
      · rename_i ds e
        split at h'
        · cases h'
          unfold gM gName
          have hv : RepV W f (hid A f s.objs (upd H T (.tup us))) (.ref T) (.d (.tuple ds)) := Rp.tup (.inl (.inl (hid_at upd_same (r.nA hT) (fun z => r.at_ z.mem hT) fun _ z => (by cases z)))) (pures_ok e rv')
          exact k _ rfl ex (fun own h => wipe_set (h i (by simp [MT.slots]))) (r'.slot hv)
        · cases h'
      · cases h'
    | t ts =>
      have h' : asgL ts vs s = some s' := h
      unfold gM gTup
      refine ⟨T, us, rfl, .inl (.inl upd_same), ?_, gs_ok ts vs us s s' σ h' r' rv' fun σ' ho oa R' => k σ' ho ex (by unfold MT.slots; exact oa) R'⟩
      rw [Paired.length' rv, asgL_len h']
end
end MI

set_option Elab.async false
set_option linter.all false
set_option maxRecDepth 100000
set_option maxHeartbeats 1000000
/-! MI: statements: assignments, loops. -/
namespace MI
open PySem PySem.Spec L2
open PyProof.Rows hiding St

section
variable {X : Cx} {Φ : Fx} {Z : L2.WX} {pos : Pos}
theorem go_nextO {W : Wx} {A : Addr → Prop} {f : List Addr} {os : List MO} {H : Hp} {D : Ends} {o : Option MS} (h : GoS W Z A f os H D (nextO o)) : ∃ s', o = some s' ∧ GoS W Z A f os H D (.ok .next s') := by
  cases o with
  | none => exact h.elim
  | some s' => exact ⟨s', rfl, h⟩
/-- name or tuple = e -/
theorem x_asg {tg e : Expr} {t : MT} {E : MS → Out Val} (hg : PG X tg (gM X.K t)) (he : PE X e (tE (wx X Φ) Z E)) (hs : swapsWithSole [tg] e pos.line X.env = pure false) (hw : swappedStores [tg] e X.env = pure none) (hn : notStar tg = true) :
    PS X (.Assign [tg] e pos) (tX (wx X Φ) Z fun s => (E s).bind fun v s1 => nextO (asgV t v s1)) := by
  refine PS_imp (ps_asg he hg hs hw (by rw [each_cons hn]; rfl)) fun D σ H ⟨A, f, s, r, h⟩ => ⟨A, f, s, r, ?_⟩
  refine GoS.of_bind h fun v s1 f1 H1 x e1 eX R1 rv g => ?_
  obtain ⟨s2, e2, g2⟩ := go_nextO g
  refine g_ok t v x s1 s2 σ e2 R1 rv fun σ' ho _ R2 => g2 f1 H1 σ' ?_ R2
  rw [ho]
  exact Ext.refl _ _ _
/-- a, b = x, y -/
theorem x_par2 {i j : Nat} {x y : Str} {a b : Expr} {px py pt : Pos} {kt k2 : Nat} {pt2 : Pos} {E : MS → Out (List Val)} (hc : X.calm = true) (hN : X.N.Nodup) (hi : X.N[i]? = some x) (hj : X.N[j]? = some y) (hij : i ≠ j)
    (hx : X.env.scope.names.lookup x = some .local) (hy : X.env.scope.names.lookup y = some .local) (ha : PA X [a, b] (tA (wx X Φ) Z E))
    (hw : swappedStores [.Tuple [.Name x px, .Name y py] kt pt] (.Tuple [a, b] k2 pt2) X.env = pure (some [x, y])) :
    PS X (.Assign [.Tuple [.Name x px, .Name y py] kt pt] (.Tuple [a, b] k2 pt2) pos) (tX (wx X Φ) Z fun s => (E s).bind fun vs s1 => nextO (stores [i, j] vs s1)) := by
  refine PS_imp (ps_par hc hN hi hj hij hx hy ha hw) fun D σ H ⟨A, f, s, r, h⟩ => ⟨A, f, s, r, ?_⟩
  refine GoS.of_bind h fun vs s1 f1 H1 xs e1 eX R1 rv g => ?_
  obtain ⟨s2, e2, g2⟩ := go_nextO g
  cases rv with
  | nil => cases e2
  | cons r1 rt =>
    cases rt with
    | nil => unfold stores at e2; split at e2 <;> cases e2
    | cons r2 rt =>
      cases rt with
      | cons _ _ =>
        unfold stores at e2
        split at e2
        · unfold stores at e2
          split at e2 <;> cases e2
        · cases e2
      | nil =>
        unfold stores at e2
        split at e2
        · unfold stores at e2
          split at e2
          · cases e2
            refine ⟨_, _, rfl, g2 f1 H1 _ (Ext.refl _ _ _) ((R1.slot r1).slot r2)⟩
          · cases e2
        · cases e2
/-- a, b = x, y by a tuple -/
theorem x_tup2 {i j : Nat} {x y : Str} {a b : Expr} {px py pt : Pos} {kt k2 : Nat} {pt2 : Pos} {E : MS → Out (List Val)} (hc : X.calm = true) (hg1 : PG X (.Name x px) (gName i)) (hg2 : PG X (.Name y py) (gName j)) (ha : PA X [a, b] (tA (wx X Φ) Z E))
    (hs : swapsWithSole [.Tuple [.Name x px, .Name y py] kt pt] (.Tuple [a, b] k2 pt2) pos.line X.env = pure false) (hw : swappedStores [.Tuple [.Name x px, .Name y py] kt pt] (.Tuple [a, b] k2 pt2) X.env = pure none) :
    PS X (.Assign [.Tuple [.Name x px, .Name y py] kt pt] (.Tuple [a, b] k2 pt2) pos) (tX (wx X Φ) Z fun s => (E s).bind fun vs s1 => nextO (stores [i, j] vs s1)) := by
  refine PS_imp (ps_asg (pe_tup ha) (pg_tup hc (pgs_cons hg1 (pgs_cons hg2 pgs_nil))) hs hw (by rw [each_cons rfl]; rfl)) fun D σ H ⟨A, f, s, r, h⟩ => ⟨A, f, s, r, ?_⟩
  refine GoS.of_bind h fun vs s1 f1 H1 xs e1 eX R1 rv g => ?_
  obtain ⟨s2, e2, g2⟩ := go_nextO g
  cases rv with
  | nil => cases e2
  | cons r1 rt =>
    cases rt with
    | nil => unfold stores at e2; split at e2 <;> cases e2
    | cons r2 rt =>
      cases rt with
      | cons _ _ =>
        unfold stores at e2
        split at e2
        · unfold stores at e2
          split at e2 <;> cases e2
        · cases e2
      | nil =>
        unfold stores at e2
        split at e2
        · unfold stores at e2
          split at e2
          · cases e2
            refine ⟨by rw [line_eq]; simp, fun p hp => ⟨p, _, rfl, .inl (.inl upd_same), rfl, _, _, rfl, _, _, rfl, rfl, ?_⟩⟩
            exact g2 f1 _ _ (Ext.of_same (same_upd hp)) (((R1.slot r1).slot r2).same (same_upd hp))
          · cases e2
        · cases e2
theorem x_par3 {i j l : Nat} {x y z : Str} {a b c : Expr} {px py pz pt : Pos} {kt k2 : Nat} {pt2 : Pos} {E : MS → Out (List Val)} (hc : X.calm = true) (hN : X.N.Nodup) (hi : X.N[i]? = some x) (hj : X.N[j]? = some y) (hl : X.N[l]? = some z) (hij : i ≠ j) (hil : i ≠ l) (hjl : j ≠ l)
    (hx : X.env.scope.names.lookup x = some .local) (hy : X.env.scope.names.lookup y = some .local) (hz : X.env.scope.names.lookup z = some .local) (ha : PA X [a, b, c] (tA (wx X Φ) Z E))
    (hw : swappedStores [.Tuple [.Name x px, .Name y py, .Name z pz] kt pt] (.Tuple [a, b, c] k2 pt2) X.env = pure (some [x, y, z])) :
    PS X (.Assign [.Tuple [.Name x px, .Name y py, .Name z pz] kt pt] (.Tuple [a, b, c] k2 pt2) pos) (tX (wx X Φ) Z fun s => (E s).bind fun vs s1 => nextO (stores [i, j, l] vs s1)) := by
  refine PS_imp (ps_par3 hc hN hi hj hl hij hil hjl hx hy hz ha hw) fun D σ H ⟨A, f, s, r, h⟩ => ⟨A, f, s, r, ?_⟩
  refine GoS.of_bind h fun vs s1 f1 H1 xs e1 eX R1 rv g => ?_
  obtain ⟨s2, e2, g2⟩ := go_nextO g
  cases rv with
  | nil => cases e2
  | cons r1 rt =>
    cases rt with
    | nil => unfold stores at e2; split at e2 <;> cases e2
    | cons r2 rt =>
      cases rt with
      | nil =>
        unfold stores at e2
        split at e2
        · unfold stores at e2
          split at e2 <;> cases e2
        · cases e2
      | cons r3 rt =>
        cases rt with
        | cons _ _ =>
          unfold stores at e2
          split at e2
          · unfold stores at e2
            split at e2
            · unfold stores at e2
              split at e2 <;> cases e2
            · cases e2
          · cases e2
        | nil =>
          unfold stores at e2
          split at e2
          · unfold stores at e2
            split at e2
            · unfold stores at e2
              split at e2
              · cases e2
                exact ⟨_, _, _, rfl, g2 f1 H1 _ (Ext.refl _ _ _) (((R1.slot r1).slot r2).slot r3)⟩
              · cases e2
            · cases e2
          · cases e2
/-! ### o[i] = v -/
theorem pset_dct (hu : X.A.units + 65 < cLine) {pins : List (Addr × Obj)} {st : Shared} {σ1 σ : St} {H : Hp} {A : Addr → Prop} {f : List Addr} {s : MS} {o i v : V} {ov iv u : Value} {n : Nat} {k : PyData} {vv : Val} {kvs : List (PyData × Val)} {Q : Hp → Prop} (I : L2.Inv X pins σ1 H st) (ro : L2.RelV o ov) (ri : L2.RelV i iv) (rv : L2.RelV v u)
    (r : R (wx X Φ).toWd A f s σ H) (r1 : RepV (wx X Φ).toWd f (hid A f s.objs H) o (.ref n)) (r2 : RepV (wx X Φ).toWd f (hid A f s.objs H) i (.d k)) (r3 : RepV (wx X Φ).toWd f (hid A f s.objs H) v vv) (e : s.objs[n]? = some (.dct kvs true)) (hk : isKey k = true) (hks : (kvs.all fun p => keyFit k p.1) = true) (hz : kvs.length + 1 ≤ 16777216) (hfn : isFn vv = false)
    (q : ∀ H', Ext f s.objs H f (s.objs.set n (.dct (put k vv kvs) true)) H' → R (wx X Φ).toWd A f { s with objs := s.objs.set n (.dct (put k vv kvs) true) } σ H' → Q H') :
    wpAny (model X.prog X.w) X.A (setItem ov iv u) (fun _ s' => ∃ H', L2.Inv X pins σ1 H' s' ∧ Q H') X.xe st := by
  obtain ⟨p, hn, rfl⟩ := r1
  obtain ⟨es, h1, h2, h3, h4⟩ := r.obj n _ p e hn
  cases ro
  have hks' := all_map1 es kvs h3 (keyFit k) hks
  have vw := dct_view I h1 (rpA_mono h2) (rp_mono r2) hk hks'
  have hl : es.length = kvs.length := by simpa using congrArg List.length h3
  refine raw_setItem (v := v) (by omega) I vw hk hks' (by rw [line_eq]; omega) ri rv fun o s' I' hd => ⟨_, I', q _ (Ext.store hn e rfl rfl) (r.store hn e rfl rfl (obj_dct hd h2 h3 h4 r2 r3))⟩
theorem pset_V (hu : X.A.units + 65 < cLine) : PSet X (fun o i v H Q => ∃ σ A f s ov iv vv, R (wx X Φ).toWd A f s σ H ∧ RepV (wx X Φ).toWd f (hid A f s.objs H) o ov ∧ RepV (wx X Φ).toWd f (hid A f s.objs H) i iv ∧ RepV (wx X Φ).toWd f (hid A f s.objs H) v vv ∧
    ∃ s', stiV ov iv vv s = some s' ∧ ∀ H', Ext f s.objs H f s'.objs H' → R (wx X Φ).toWd A f s' σ H' → Q H') := by
  intro pins st σ1 H o i v ov iv u Q I ro ri rv ⟨σ, A, f, s, a, b, c, r, r1, r2, r3, s', e, q⟩
  unfold stiV at e
  split at e
  · cases e
  rename_i hfn
  split at e
  · rename_i n k
    split at e
    · rename_i xs eo
      split at e
      · rename_i j
        split at e
        · rename_i p ep
          cases e
          obtain ⟨a0, us, rfl, hn, h1, h2⟩ := live_lst eo r r1
          obtain rfl := rep_int r2
          have hl := Paired.length' h2
          rw [← hl] at ep
          refine set_list pins st σ1 H _ _ v ov iv u Q I ro ri rv ⟨a0, us, j, p, rfl, rfl, h1, ep, q _ (Ext.store hn eo rfl rfl) (r.store hn eo rfl rfl ?_)⟩
          exact obj_lst (Paired.setAt r3 p h2)
        · cases e
      · cases e
    · rename_i kvs eo
      split at e
      · rename_i hc
        cases e
        simp only [Bool.and_eq_true] at hc
        exact pset_dct hu I ro ri rv r r1 r2 r3 eo hc.1.1 hc.1.2 (of_decide_eq_true hc.2) (by simpa using hfn) q
      · cases e
    · cases e
  · cases e
theorem sub_plain {o i : Expr} {p : Pos} (h : plainIxB i = true) (env : Env) (v : Value) : assign (.Subscript o i p) env v = (do
      let ov ← holding [v] (eval o env)
      let iv ← holding [v, ov] (eval i env)
      standAt p
      holding [v, ov, iv] (setItem ov iv v)
      release [v, ov, iv] []) := by
  cases i <;> first | rfl | cases h
theorem sw_sub {o i e : Expr} {p : Pos} {l : Nat} {env : Env} : swapsWithSole [.Subscript o i p] e l env = pure false := by
  show swapsWith e (some (.Subscript o i p)) l env = pure false
  unfold swapsWith
  cases e <;> rfl
theorem R.toks {W : Wd} {A : Addr → Prop} {f : List Addr} {s : MS} {σ σ' : St} {H : Hp} (r : R W A f s σ H) (h : σ' = σ) : R W A f s σ' H := by rw [h]; exact r
theorem x_sti {o i e : Expr} {p : Pos} {E F G : MS → Out Val} (hu : X.A.units + 65 < cLine) (hp : plainIxB i = true) (ho : PE X o (tE (wx X Φ) Z F)) (hi : PE X i (tE (wx X Φ) Z G)) (he : PE X e (tE (wx X Φ) Z E)) :
    PS X (.Assign [.Subscript o i p] e pos) (tX (wx X Φ) Z fun s => (E s).bind fun v s1 => (F s1).bind fun ov s2 => (G s2).bind fun iv s3 => nextO (stiV ov iv v s3)) := by
  refine PS_imp (ps_asg he (pg_sub ho hi (pset_V (Φ := Φ) hu) (sub_plain hp X.env)) sw_sub rfl rfl) fun D σ H ⟨A, f, s, r, h⟩ => ⟨A, f, s, r, ?_⟩
  refine GoS.of_bind h fun v s1 f1 H1 x e1 eX R1 rv g => ⟨A, f1, s1, R1, GoS.of_bind g fun ov s2 f2 H2 y e2 eY R2 ro g2 => ⟨A, f2, s2, R2, GoS.of_bind g2 fun iv s3 f3 H3 z e3 eZ R3 ri g3 => ?_⟩⟩
  obtain ⟨s4, e4, g4⟩ := go_nextO g3
  exact ⟨σ, A, f3, s3, ov, iv, v, R3, ro.ext eZ, ri, (rv.ext eY).ext eZ, s4, e4, fun H' e5 R5 => g4 f3 H' σ e5 R5⟩
/-! ### op= -/
theorem pip_V {o : Op} {op : Operator} (h : opOf op = some o) (h' : o ≠ .pow) : PIp X op (rInts o) := fun pins s σ H x y v u Q I r1 r2 q => op_intsI o op h h' pins s σ H x y v u Q I r1 r2 q
theorem go_aug {W : Wx} {A : Addr → Prop} {f : List Addr} {os : List MO} {H : Hp} {D : Ends} {op : Op} {v w : Val} {s : MS} {k : Val → MS → Out Flow} (h : GoS W Z A f os H D ((augV op v w s).bind k)) :
    ∃ i j n, v = .d (.int i) ∧ w = .d (.int j) ∧ intOp op i j = some n ∧ GoS W Z A f os H D (k (.d (.int n)) s) := by
  unfold augV at h
  split at h
  · rename_i i j
    cases e : intOp op i j with
    | none => rw [e] at h; exact h.elim
    | some n =>
      rw [e] at h
      exact ⟨i, j, n, rfl, rfl, e, h⟩
  · exact h.elim
theorem x_aug {i : Nat} {x : Str} {e : Expr} {op : Operator} {o : Op} {p : Pos} {E : MS → Out Val} (ho : opOf op = some o) (hp : o ≠ .pow) (hN : X.N.Nodup) (hi : X.N[i]? = some x) (hx : L2.Loc X.env.scope x) (hf : X.fn x = true ∨ X.env.scope.names.lookup x = some .local) (he : PE X e (tE (wx X Φ) Z E)) :
    PS X (.AugAssign (.Name x p) op e pos) (tX (wx X Φ) Z fun s => match s.env[i]? with
      | some (some v) => (E s).bind fun w s1 => (augV o v w s1).bind fun x s2 => if i < s2.env.length then .ok .next (s2.setSlot i x) else .bad
      | _ => .bad) := by
  refine PS_imp (ps_aug hN hi hx he (pip_V ho hp) hf) fun D σ H ⟨A, f, s, r, h⟩ => ?_
  dsimp only at h
  split at h
  · rename_i v ev
    obtain ⟨u, e1, r1⟩ := r.env i v ev
    refine ⟨u, e1, A, f, s, r, GoS.of_bind h fun w s1 f1 H1 y e2 eX R1 rw g => ?_⟩
    obtain ⟨a, b, n, rfl, rfl, e3, g2⟩ := go_aug g
    refine ⟨a, b, n, rep_int r1, rep_int rw, e3, ?_⟩
    split at g2
    · exact g2 f1 H1 _ (Ext.refl _ _ _) (R1.slot (Rp.int n))
    · exact g2.elim
  · exact h.elim
/-- o[i], by values -/
theorem get_seq {pins : List (Addr × Obj)} {st : Shared} {σ1 : St} {H : Hp} {p : Addr} {us : List V} {j : Int} {z : V} {iv : Value} {Q : VK} (I : L2.Inv X pins σ1 H st) (hq : SqL X.K H p us) (ri : L2.RelV (.int j) iv) (he : atI us j = some z) (q : Q z H) :
    wpAny (model X.prog X.w) X.A (getItem (.ref p) iv) (EP X pins σ1 Q) X.xe st := by
  obtain ⟨t, rfl⟩ := ri
  obtain ⟨its, r, pl, hz⟩ := I.list hq
  obtain ⟨k, h1, h2, h3, h4, h5⟩ := atI_get he
  obtain ⟨w, ew, rw'⟩ := r.get h2
  have hl := r.length
  have hn := line63
  have fin : EP X pins σ1 Q w st := ⟨z, H, I, rw', q⟩
  by_cases h0 : 0 ≤ j
  · have hj : j.toNat = k := by
      rw [seqIndex_of h0 h5] at h1
      exact Option.some.inj h1
    exact wpAny_getItem_list pl.isList h0 (by omega) (by rw [hj]; simpa using ew) fin
  · have hj : (j + (its.toArray.size : Int)).toNat = k := by
      rw [seqIndex_neg (by omega) h4] at h1
      rw [List.size_toArray, ← hl]
      exact Option.some.inj h1
    exact wpAny_getItem_list_neg pl.isList (by omega) (by rw [List.size_toArray] <;> omega) (by omega) (by rw [hj]; simpa using ew) fin
theorem get_dct (hu : X.A.units + 65 < cLine) {pins : List (Addr × Obj)} {st : Shared} {σ1 : St} {H : Hp} {p : Addr} {es : List Ent} {y : V} {d : PyData} {k : Nat} {e : Ent} {iv : Value} {Q : VK} (I : L2.Inv X pins σ1 H st) (h1 : DcA X.w H p es) (h2 : RpA X.prog X.w X.K H (es.map (·.1)) (es.map (·.2.1))) (ri : L2.RelV y iv) (hy : Rp X.prog X.w X.K H y d) (hk : isKey d = true) (hks : (es.all fun e => keyFit d e.2.1) = true)
    (q1 : es[k]? = some e) (q2 : PyData.eqv e.2.1 d = true) (q3 : ∀ (j : Nat) (e' : Ent), j < k → es[j]? = some e' → PyData.eqv e'.2.1 d = false) (q : Q e.2.2 H) : wpAny (model X.prog X.w) X.A (getItem (.ref p) iv) (EP X pins σ1 Q) X.xe st := by
  have vw := dct_view I h1 h2 hy hk hks
  exact raw_getItem (by omega) I vw hk hks ri (entAt_at q1 q2 q3) fun w' s' I' rw' => ⟨_, H, I', rw', q⟩
theorem pget_V (hu : X.A.units + 65 < cLine) : PGet X (fun o i H Q => ∃ σ A f s ov iv v, R (wx X Φ).toWd A f s σ H ∧ RepV (wx X Φ).toWd f (hid A f s.objs H) o ov ∧ RepV (wx X Φ).toWd f (hid A f s.objs H) i iv ∧ ixV ov iv s = some v ∧ tyOf s.objs ov ≠ some .tuple ∧
    ∀ u, RepV (wx X Φ).toWd f (hid A f s.objs H) u v → Q u H) := by
  intro pins st σ1 H o i ov iv Q I ro ri ⟨σ, A, f, s, a, b, v, r, r1, r2, e, ht, q⟩
  unfold ixV at e
  split at e
  · rename_i d
    split at e
    · rename_i xs e1
      split at e
      · rename_i j
        split at e
        · rename_i k ek
          rcases items_ty e1 with z | z
          · obtain ⟨p, us, rfl, hq, hv⟩ := items_list e1 z r r1
            obtain ⟨w, hw, rw_⟩ := Paired.getR hv e
            cases ro
            obtain rfl := rep_int r2
            exact get_seq I hq ri (place_atI ek (Paired.length' hv) hw) (q w rw_)
          · exact absurd z ht
        · cases e
      · cases e
    · split at e
      · rename_i kvs ek
        split at e
        · rename_i hc
          rw [Bool.and_eq_true] at hc
          obtain ⟨p, es, rfl, h1, h2, h3, h4⟩ := kvs_ok ek r r1
          obtain ⟨k, e2, q1, q2, q3, q4⟩ := look_at e h3 h4
          cases ro
          exact get_dct hu I h1 (rpA_mono h2) ri (rp_mono r2) hc.1 (all_map1 es kvs h3 (keyFit _) hc.2) q1 q2 q3 (q _ q4)
        · cases e
      · cases e
  · cases e
theorem aug_plain {i : Expr} (h : plainIxB i = true) : ∀ ov iv new, augStore i ov iv new = (do holding [new, ov, iv] (setItem ov iv new); release [new, ov, iv] []; pure .next) := by
  intro ov iv new
  cases i <;> first | rfl | cases h
theorem x_augi {o i e : Expr} {p : Pos} {op : Operator} {oo : Op} {E F G : MS → Out Val} (hu : X.A.units + 65 < cLine) (hop : opOf op = some oo) (hpw : oo ≠ .pow) (hp : plainIxB i = true) (ho : PE X o (tE (wx X Φ) Z F)) (hi : PE X i (tE (wx X Φ) Z G)) (he : PE X e (tE (wx X Φ) Z E)) :
    PS X (.AugAssign (.Subscript o i p) op e pos) (tX (wx X Φ) Z fun s => (F s).bind fun ov s1 => (G s1).bind fun iv s2 => match ixV ov iv s2 with
      | some v => if tyOf s2.objs ov = some .tuple then .bad else (E s2).bind fun w s3 => (augV oo v w s3).bind fun x s4 => nextO (stiV ov iv x s4)
      | none => .bad) := by
  refine PS_imp (ps_augS ho hi (pget_V (Φ := Φ) hu) he (pip_V hop hpw) (pset_V (Φ := Φ) hu) (aug_plain hp)) fun D σ H ⟨A, f, s, r, h⟩ => ⟨A, f, s, r, ?_⟩
  refine GoS.of_bind h fun ov s1 f1 H1 x e1 eX R1 ro g => ⟨A, f1, s1, R1, GoS.of_bind g fun iv s2 f2 H2 y e2 eY R2 ri g2 => ?_⟩
  split at g2
  · rename_i v ev
    split at g2
    · exact g2.elim
    rename_i hnt
    refine ⟨σ, A, f2, s2, ov, iv, v, R2, ro.ext eY, ri, ev, hnt, fun u ru => ⟨A, f2, s2, R2, GoS.of_bind g2 fun w s3 f3 H3 z e3 eZ R3 rw g3 => ?_⟩⟩
    obtain ⟨a, b, n, rfl, rfl, e5, g4⟩ := go_aug g3
    refine ⟨a, b, n, rep_int (ru.ext eZ), rep_int rw, e5, ?_⟩
    obtain ⟨s4, e6, g6⟩ := go_nextO g4
    exact ⟨σ, A, f3, s3, ov, iv, _, R3, (ro.ext eY).ext eZ, ri.ext eZ, (show RepV (wx X Φ).toWd f3 _ (.int n) (.d (.int n)) from Rp.int n), s4, e6, fun H' e7 R7 => g6 f3 H' σ e7 R7⟩
  · exact g2.elim

/-! ### loops -/
theorem x_whl {c : Expr} {b : List Stmt} {T : MS → Out Bool} {B : MS → Out Flow} {n : Nat} (hp : PassesOwn (model X.prog X.w) X.A X.env X.xe) (hc : PT X c (tT (wx X Φ) Z T)) (hb : PSs X b (tX (wx X Φ) Z B)) :
    PS X (.While c b [] pos) (tX (wx X Φ) Z (whlL T B n)) := by
  refine PS_imp (ps_while hp hc hb) fun D σ H h => ⟨fun m σ H => tX (wx X Φ) Z (whlL T B m) D σ H, ⟨n, h⟩, fun m σ H h => ?_⟩
  obtain ⟨A, f, s, r, h⟩ := h
  cases m with
  | zero => exact h.elim
  | succ m =>
    have h' : GoS (wx X Φ) Z A f s.objs H D ((T s).bind fun t s1 => if t then (B s1).bind fun f s2 => match f with
        | .next => whlL T B m s2
        | .cnt => whlL T B m s2
        | .brk => .ok .next s2
        | .ret v => .ok (.ret v) s2
      else .ok .next s1) := h
    refine ⟨A, f, s, r, GoS.of_bind h' fun t s1 f1 H1 x e1 eX R1 rv g => ?_⟩
    cases rv
    cases t with
    | false => exact g f1 H1 σ (Ext.refl _ _ _) R1
    | true =>
      refine ⟨fun σ' H' => tX (wx X Φ) Z (whlL T B m) D σ' H', fun σ' H' q => ⟨m, Nat.lt_succ_self m, q⟩, A, f1, s1, R1, ?_⟩
      rw [if_pos rfl] at g
      exact GoS.of_seq g (fun s2 f2 H2 σ2 _ _ R2 g => ⟨A, f2, s2, R2, g⟩) (fun s2 f2 H2 σ2 _ _ R2 g => g f2 H2 σ2 (Ext.refl _ _ _) R2) (fun s2 f2 H2 σ2 _ _ R2 g => ⟨A, f2, s2, R2, g⟩)
        fun v s2 f2 H2 σ2 u _ _ R2 q g => g f2 H2 σ2 (Ext.refl _ _ _) R2 u q
/-- what is walked, by the items that stand there -/
def RelW (W : Wd) (f : List Addr) (Hh : Hp) (J : It) (its : List Item) : Prop := ∃ (G : Hp → Prop) (Y : Nat → Hp → V → Hp → Prop), Walk J its.length G Y ∧ (∀ H, Same Hh H → G H) ∧
  ∀ (i : Nat) (x : V) (H H' Hh' : Hp) (it : Item), Same Hh Hh' → Same Hh' H → Y i H x H' → its[i]? = some it → ∀ f', (∃ t, f' = f ++ t) → ItemR W f' Hh' H x H' it
def tI (W : Wx) (Z : L2.WX) (F : MS → Out (List Item)) : TI := fun σ H Q => ∃ A f s, R W.toWd A f s σ H ∧ GoO W Z (RelW W.toWd) A f s.objs σ H Q (F s)
theorem foldSet {it : Expr} {env : Env} (h : noSet it = true) : ∀ x, foldedSetIterable it env x = pure x := by
  intro x
  cases it <;> first | rfl | cases h
theorem x_for {tg it : Expr} {b : List Stmt} {t : MT} {F : MS → Out (List Item)} {B : MS → Out Flow} (hp : PassesOwn (model X.prog X.w) X.A X.env X.xe) (hc : X.calm = true) (hs : noSet it = true) (hi : PI X tg it (tI (wx X Φ) Z F)) (hg : PG X tg (gM X.K t))
    (hb : PSs X b (tX (wx X Φ) Z B)) : PS X (.For tg it b [] pos) (tX (wx X Φ) Z fun s => (F s).bind fun its s2 => frL (asgI t) B its s2) := by
  refine PS_imp (ps_for hp hc hi hg hb (foldSet hs)) fun D σ H ⟨A, f, s, r, h⟩ => ⟨A, f, s, r, ?_⟩
  refine GoS.of_bind h fun its s1 f1 H1 J e1 eX R1 rw g => ?_
  obtain ⟨G, Y, hw, hG, hY⟩ := rw
  refine for_it hw (fun i σ' H' => ∃ f' s', (∃ t, f' = f1 ++ t) ∧ Same (hid A f1 s1.objs H1) (hid A f' s'.objs H') ∧ R (wx X Φ).toWd A f' s' σ' H' ∧ GoS (wx X Φ) Z A f' s'.objs H' D (frL (asgI t) B (its.drop i) s'))
    ⟨f1, s1, ⟨[], by simp⟩, fun _ _ z => z, R1, g⟩ (fun i σ' H' _ ⟨f', s', _, sm, _, _⟩ => hG H' fun b o e => hid_sub b o (sm b o e)) (fun i x σ' H' H'' hlt ⟨f', s', pf, sm, R', g'⟩ y => ?_) fun σ' H' ⟨f', s', _, _, R', g'⟩ => ?_
  · obtain ⟨it, hit⟩ : ∃ it, its[i]? = some it := ⟨its[i], by simp [hlt]⟩
    have hd : its.drop i = it :: its.drop (i + 1) := by
      rw [List.drop_eq_getElem_cons hlt]
      congr 1
      rw [List.getElem?_eq_getElem hlt] at hit
      exact Option.some.inj hit
    rw [hd] at g'
    unfold frL at g'
    split at g'
    · exact g'.elim
    · rename_i s2 ea
      have ri := hY i x H' H'' (hid A f' s'.objs H') it sm hid_sub y hit f' pf
      refine gi_ok ea R' ri fun σ2 ho ex _ R2 => ?_
      have ex2 : Ext f' s'.objs H' f' s2.objs H'' := by rw [ho]; exact ex
      refine ⟨A, f', s2, R2, ?_⟩
      have g2 := g'.rebase ex2
      obtain ⟨t1, et1⟩ := pf
      refine GoS.of_seq g2 (fun s3 f3 H3 σ3 _ e3 R3 g3 => ?_) (fun s3 f3 H3 σ3 _ _ R3 g3 => g3 f3 H3 σ3 (Ext.refl _ _ _) R3) (fun s3 f3 H3 σ3 _ e3 R3 g3 => ?_) fun v s3 f3 H3 σ3 u _ _ R3 q g3 => g3 f3 H3 σ3 (Ext.refl _ _ _) R3 u q
      · obtain ⟨t2, et2⟩ := e3.pre
        exact ⟨f3, s3, ⟨t1 ++ t2, by rw [et2, et1, List.append_assoc]⟩, fun b o e => (ex2.trans e3).same b o (sm b o e), R3, g3⟩
      · obtain ⟨t2, et2⟩ := e3.pre
        exact ⟨f3, s3, ⟨t1 ++ t2, by rw [et2, et1, List.append_assoc]⟩, fun b o e => (ex2.trans e3).same b o (sm b o e), R3, g3⟩
  · rw [List.drop_eq_nil_of_le (Nat.le_refl _)] at g'
    exact g' f' H' σ' (Ext.refl _ _ _) R'
end
end MI

set_option Elab.async false
set_option linter.all false
set_option maxRecDepth 100000
set_option maxHeartbeats 1000000
/-! MI: what loops walk. -/
namespace MI
open PySem PySem.Spec L2
open PyProof.Rows hiding St

section
variable {X : Cx} {Φ : Fx} {Z : L2.WX} {tg : Expr}
def walkG (k : ItK) (vs : List Val) (s1 : MS) : Out (List Item) := match walk k vs s1 with
    | none => .bad
    | some (its, s2) => .ok its s2
theorem go_walk {W : Wx} {A : Addr → Prop} {f : List Addr} {s : MS} {σ : St} {H : Hp} {R' : It → Hp → Prop} {k : ItK} {vs : List Val} (h : GoO W Z (RelW W.toWd) A f s.objs σ H R' (walkG k vs s)) : ∃ its s2, walk k vs s = some (its, s2) ∧ GoO W Z (RelW W.toWd) A f s.objs σ H R' (.ok its s2) := by
  unfold walkG at h
  split at h
  · exact h.elim
  · rename_i its s2 e
    exact ⟨its, s2, e, h⟩
theorem repV_up {W : Wd} {f f' : List Addr} {Hh Hh' : Hp} {u : V} {v : Val} (hs : Same Hh Hh') (hp : ∃ t, f' = f ++ t) (r : RepV W f Hh u v) : RepV W f' Hh' u v := RepV.mono hs hp u v r
theorem pv_up {W : Wd} {f f' : List Addr} {Hh Hh' : Hp} {us : List V} {vs : List Val} (hs : Same Hh Hh') (hp : ∃ t, f' = f ++ t) (r : PV W f Hh us vs) : PV W f' Hh' us vs := Paired.mp (fun u v z => RepV.mono hs hp u v z) r
theorem getPair {α β : Type} {F : α → β → Prop} {l : List α} {m : List β} {i : Nat} {a : α} {b : β} (h : Paired F l m) (h1 : l[i]? = some a) (h2 : m[i]? = some b) : F a b := by
  obtain ⟨a', e, r⟩ := Paired.getR h h2
  rw [h1] at e
  cases e
  exact r
/-- the items of a list or tuple, one by one -/
theorem relW_list {W : Wd} {f : List Addr} {Hh : Hp} {a : Addr} {us : List V} {vs : List Val} (hl : SqL W.K Hh a us) (hv : PV W f Hh us vs) : RelW W f Hh (Itl W.K a) (vs.map .one) := by
  have hlen := Paired.length' hv
  refine ⟨fun H => SqL W.K H a us, YAt us, by rw [List.length_map, ← hlen]; exact walk_list, fun H e => L2.Same.seq e hl, fun i x H H' Hh' it e e2 y hi f' pf => ?_⟩
  obtain ⟨rfl, hx⟩ := y
  rw [List.getElem?_map] at hi
  obtain ⟨v, ev, rfl⟩ := map_some hi
  exact ⟨rfl, repV_up e pf (getPair hv hx ev)⟩
theorem relW_tup {W : Wd} {f : List Addr} {Hh : Hp} {a : Addr} {us : List V} {vs : List Val} (hl : SqT W.K Hh a us) (hv : PV W f Hh us vs) : RelW W f Hh (Itt W.K a) (vs.map .one) := by
  have hlen := Paired.length' hv
  refine ⟨fun H => SqT W.K H a us, YAt us, by rw [List.length_map, ← hlen]; exact walk_tup, fun H e => Same.sqT e hl, fun i x H H' Hh' it e e2 y hi f' pf => ?_⟩
  obtain ⟨rfl, hx⟩ := y
  rw [List.getElem?_map] at hi
  obtain ⟨v, ev, rfl⟩ := map_some hi
  exact ⟨rfl, repV_up e pf (getPair hv hx ev)⟩
/-- a list that is no longer changed: it stands, its items too -/
theorem still_list {W : Wd} {A : Addr → Prop} {f : List Addr} {s : MS} {σ : St} {H : Hp} {v : Val} {u : V} {vs : List Val} (h : items s.objs v = some vs) (ht : tyOf s.objs v = some .list) (r : R W A f s σ H) (rv : RepV W f (hid A f s.objs H) u v) :
    ∃ a us, u = .ref a ∧ SqL W.K H a us ∧ SqL W.K (hid A f (still s.objs v) H) a us ∧ PV W f (hid A f (still s.objs v) H) us vs := by
  have z := still_fz s.objs v
  have ex : Ext f s.objs H f (still s.objs v) H := z.ext
  cases v with
  | d d =>
    cases d with
    | list xs =>
      cases h
      cases rv with
      | lst h1 h2 => exact ⟨_, _, rfl, L2.Same.seq hid_sub h1, h1, PV_map h2⟩
    | tuple xs => cases ht
    | _ => cases h
  | ref n =>
    obtain ⟨a, hn, rfl⟩ := rv
    unfold items at h
    simp only at h
    split at h
    · rename_i xs l e
      cases h
      obtain ⟨us, h1, h2⟩ := r.obj n _ a e hn
      refine ⟨a, us, rfl, SqL.of h1, SqL.of ?_, PV.ext ex h2⟩
      have es : still s.objs (.ref n) = s.objs.set n (.lst vs false) := by
        unfold still
        simp only [e]
      rw [es]
      exact hid_at h1 (r.disj a (List.mem_of_getElem? hn)) (not_inU_set r hn rfl (List.getElem?_eq_some_iff.mp e).1) fun _ z => by cases z
    · cases h
  | fn g => cases h
theorem tI_seq {E : MS → Out Val} {σ : St} {H : Hp} {R' : It → Hp → Prop} (h : tI (wx X Φ) Z (fun s => (E s).bind fun v s1 => walkG .seq [v] s1) σ H R') :
    tE (wx X Φ) Z E σ H fun x H1 => ∃ A f s v, R (wx X Φ).toWd A f s σ H1 ∧ RepV (wx X Φ).toWd f (hid A f s.objs H1) x v ∧ GoO (wx X Φ) Z (RelW (wx X Φ).toWd) A f s.objs σ H1 R' (walkG .seq [v] s) := by
  obtain ⟨A, f, s, r, h⟩ := h
  exact ⟨A, f, s, r, h.of_bind fun v s1 f1 H1 x e1 eX R1 rv g => ⟨A, f1, s1, v, R1, rv, g⟩⟩
/-! ### walks whose items are new tuples -/
def itNew (G : Hp → Prop) (n : Nat) (ys : Nat → List V) : It := ⟨fun i H => G H ∧ i < n, fun i H x H' => ∃ T, x = .ref T ∧ H T = none ∧ H' = upd H T (.tup (ys i)), fun i H => G H ∧ i = n⟩
theorem walk_new {G : Hp → Prop} {n : Nat} {ys : Nat → List V} : Walk (itNew G n ys) n G (fun i H x H' => ∃ T, x = .ref T ∧ H T = none ∧ H' = upd H T (.tup (ys i))) :=
  ⟨fun _ _ hi q => ⟨q, hi⟩, fun _ q => ⟨q, rfl⟩, fun _ _ _ _ _ _ y => y⟩
theorem turn_new {P : Program} {w : World} {K : PySem.W.Frag} {elts : List Expr} {kk : Nat} {tpos : Pos} {e : Addr} {fp : List Addr} {tn : Nat → Heap → Prop} {n : Nat} {G : Hp → Prop} {ys : Nat → List V} (mem : e ∈ fp)
    (obj : ∀ i h, tn i h → ∀ b ∈ fp, ∃ o, h.get? b = some o ∧ ∀ v, o.data ≠ .cell v) (keep : ∀ i h h', tn i h → (∀ b ∈ fp, ∀ o, h.get? b = some o → h'.get? b = some o) → tn i h')
    (self : ∀ (A : Around) (i : Nat) (s : Shared) (Q : Value → Shared → Prop) (E : Value → Shared → Prop), tn i s.heap → Q (.ref e) s → wpAny (model P w) A (pyIter (.ref e)) Q E s)
    (hw : ∀ (X : Cx), X.prog = P → X.w = w → X.K = K → X.calm = true → ∀ (i : Nat) (pins : List (Addr × Obj)) (s : Shared) (σ : St) (H : Hp), L2.Inv X pins σ H s → tn i s.heap → G H →
      ∃ (fp' wr : List Addr) (Pt : Nat → Array Value → Prop) (St : Nat → Heap → Prop) (Mid : Nat → Addr → Heap → Prop), WalksT P w X.A e fp' wr n Pt St Mid ∧ St i s.heap ∧ (∀ j h, St j h → tn j h) ∧ (∀ b ∈ wr, b ∈ fp) ∧
        ∀ vals, i < n → Pt i vals → Vals (ys i) vals.toList ∧ (ys i).length ≤ sizeLine) : Turn P w K (.Tuple elts kk tpos) (itNew G n ys) fp e tn where
  mem := mem
  obj := obj
  keep := keep
  self := self
  item := by
    intro X hP hW hK hc i pins s σ H E I hf st hg
    obtain ⟨hG, hi⟩ := hg
    obtain ⟨fp', wr, Pt, St, Mid, Wk, sti, st2, sub, hp⟩ := hw X hP hW hK hc i pins s σ H I st hG
    subst hP hW hK
    refine Wk.item i s _ E hi sti fun T vals h' tk hpt hT hIT hm hk => ?_
    refine ⟨_, rfl, Wk.go elts kk tpos i T _ _ E hm fun h'' hs hk2 => ?_⟩
    obtain ⟨hv, hz⟩ := hp vals hi hpt
    have hT2 : h''.IsTuple T vals := hIT.at fun o q => hk2 T o (Wk.apart i T h' hm) q
    have new : ObjOk X.prog X.w (upd H T (.tup (ys i))) h'' T (.tup (ys i)) := ⟨hz, vals.toList, hv, hT2⟩
    have I1 : L2.Inv X pins σ (upd H T (.tup (ys i))) { s with heap := h'', toks := tk } := I.turnedNew (ch := wr) (fun b o hb q => hk2 b o hb (hk b o hb q)) (fun b hb => hf b (sub b hb)) hT new
    refine ⟨.ref T, _, I1, rfl, ⟨T, rfl, I.hok.fresh hT, rfl⟩, st2 _ _ hs, fun b hb => ?_⟩
    obtain ⟨o, ho, _⟩ := obj i _ st b hb
    rw [upd_ne (Nat.ne_of_lt (Nat.lt_of_lt_of_le (Heap.lt_size ho) hT))]
    exact (hf b hb).1
  done := by
    intro X hP hW hK hc i pins s σ H E I hf st hg
    obtain ⟨hG, hi⟩ := hg
    obtain ⟨fp', wr, Pt, St, Mid, Wk, sti, st2, sub, hp⟩ := hw X hP hW hK hc i pins s σ H I st hG
    subst hP hW hK hi
    exact Wk.done s _ E sti fun h' tk hk => ⟨rfl, I.turnedL (ch := wr) hk fun b hb => hf b (sub b hb)⟩
theorem relW_new {W : Wd} {f : List Addr} {Hh : Hp} {G : Hp → Prop} {n : Nat} {ys : Nat → List V} {its : List Item} (hn : its.length = n) (hG : ∀ H, Same Hh H → G H) (hy : ∀ i it, its[i]? = some it → ∃ vs, it = .many vs ∧ PV W f Hh (ys i) vs) : RelW W f Hh (itNew G n ys) its := by
  refine ⟨G, _, by rw [hn]; exact walk_new, hG, fun i x H H' Hh' it e e2 y hi f' pf => ?_⟩
  obtain ⟨T, rfl, hT, rfl⟩ := y
  obtain ⟨vs, rfl, hv⟩ := hy i it hi
  exact ⟨T, ys i, rfl, hT, rfl, pv_up e pf hv⟩

/-! ### lists and tuples alike -/
inductive Sk where
  | lst | tup
def Sk.Sq (k : Sk) (K : PySem.W.Frag) (H : Hp) (a : Addr) (xs : List V) : Prop := match k with
  | .lst => SqL K H a xs
  | .tup => SqT K H a xs
def Sk.Is (k : Sk) (h : Heap) (a : Addr) (its : Array Value) : Prop := match k with
  | .lst => h.IsList a its
  | .tup => h.IsTuple a its
def Sk.At (k : Sk) (h : Heap) (it a : Addr) (i : Nat) : Prop := match k with
  | .lst => h.IsListIter it a i
  | .tup => h.IsTupleIter it a i
def Sk.ob (k : Sk) (a : Addr) : Obj := match k with
  | .lst => { cls := .type "list_iterator", data := .fields #[.ref a, .int 0 0] }
  | .tup => { cls := .type "tuple_iterator", data := .fields #[.ref a, .int 0 0] }
theorem Sk.draws {prog : Program} {w : World} {A : Around} (k : Sk) (hh : A.handled = none) (it l : Addr) (hne : l ≠ it) (items : Array Value) : Draws prog w A it [it, l] items.size (fun i v => items[i]? = some v) (fun i h => k.At h it l i ∧ k.Is h l items) := by
  cases k with
  | lst => exact Draws.list hh it l hne items
  | tup => exact Draws.tuple hh it l hne items
theorem Sk.begins (k : Sk) (a : Addr) (items : Array Value) : Begins (.ref a) (k.ob a) fun h => k.Is h a items := by
  cases k with
  | lst => exact begins_list a items
  | tup => exact begins_tuple a items
theorem Sk.of (k : Sk) {X : Cx} {pins : List (Addr × Obj)} {σ : St} {H : Hp} {s : Shared} {a : Addr} {xs : List V} (I : L2.Inv X pins σ H s) (hq : k.Sq X.K H a xs) : ∃ its : List Value, Vals xs its ∧ k.Is s.heap a its.toArray := by
  cases k with
  | lst =>
    obtain ⟨its, rv, p, _⟩ := I.list hq
    exact ⟨its, rv, p.isList⟩
  | tup =>
    obtain ⟨its, rv, p, _⟩ := I.tuple hq
    exact ⟨its, rv, p⟩
theorem Sk.ne (k : Sk) {h : Heap} {it a b : Addr} {i : Nat} {its : Array Value} (h1 : k.At h it a i) (k' : Sk) (h2 : k'.Is h b its) : b ≠ it := by
  rintro rfl
  cases k <;> cases k' <;> (obtain ⟨o, e, c, d⟩ := h1; obtain ⟨o', e', c', d'⟩ := h2; rw [e] at e'; cases e'; rw [c] at c'; injection c' with q; exact absurd q (by decide))
theorem Sk.ob_at (k : Sk) {h : Heap} {it a : Addr} {i : Nat} (h1 : k.At h it a i) : ∃ o, h.get? it = some o ∧ ∀ v, o.data ≠ .cell v := by
  cases k <;> (obtain ⟨o, e, c, d⟩ := h1; exact ⟨o, e, fun v z => by rw [d] at z; cases z⟩)
theorem Sk.at_keep (k : Sk) {h h' : Heap} {it a : Addr} {i : Nat} (h1 : k.At h it a i) (q : ∀ o, h.get? it = some o → h'.get? it = some o) : k.At h' it a i := by
  cases k <;> (obtain ⟨o, e, r⟩ := h1; exact ⟨o, q o e, r⟩)
theorem Sk.at_new (k : Sk) {h : Heap} {it a : Addr} (e : h.get? it = some (k.ob a)) : k.At h it a 0 := by
  cases k <;> exact ⟨_, e, rfl, rfl⟩
theorem Sk.inj (k : Sk) {X : Cx} {pins : List (Addr × Obj)} {σ : St} {H : Hp} {s : Shared} {a : Addr} {xs ys : List V} (I : L2.Inv X pins σ H s) (hx : k.Sq X.K H a xs) (hy : k.Sq X.K H a ys) : xs = ys := by
  cases k with
  | lst => exact I.list_inj hx hy
  | tup => exact I.tuple_inj hx hy
theorem Sk.same (k : Sk) {K : PySem.W.Frag} {H H' : Hp} {a : Addr} {xs : List V} (e : Same H H') (h : k.Sq K H a xs) : k.Sq K H' a xs := by
  cases k with
  | lst => exact Same.seq e h
  | tup => exact Same.sqT e h
/-- a walked list or tuple, as it stands when it is still -/
theorem src_of {W : Wd} {A : Addr → Prop} {f : List Addr} {s : MS} {σ : St} {H : Hp} {v : Val} {u : V} {vs : List Val} {os' : List MO} (h : items s.objs v = some vs) (r : R W A f s σ H) (rv : RepV W f (hid A f s.objs H) u v) (z : Fz s.objs os') (hs : ∀ n o, v = .ref n → os'[n]? = some o → o.live = false) :
    ∃ (k : Sk) (a : Addr) (us : List V), u = .ref a ∧ k.Sq W.K H a us ∧ k.Sq W.K (hid A f os' H) a us ∧ PV W f (hid A f os' H) us vs := by
  have sm : Same (hid A f s.objs H) (hid A f os' H) := (z.ext (f := f) (H := H)).same
  cases v with
  | d d =>
    cases d with
    | list xs =>
      cases h
      cases rv with
      | lst h1 h2 => exact ⟨.lst, _, _, rfl, L2.Same.seq hid_sub h1, L2.Same.seq sm h1, PV_map (RpA.same sm h2)⟩
    | tuple xs =>
      cases h
      cases rv with
      | tup h1 h2 => exact ⟨.tup, _, _, rfl, Same.sqT hid_sub h1, Same.sqT sm h1, PV_map (RpA.same sm h2)⟩
    | _ => cases h
  | ref n =>
    obtain ⟨a, hn, rfl⟩ := rv
    unfold items at h
    simp only at h
    split at h
    · rename_i xs l e
      cases h
      obtain ⟨us, h1, h2⟩ := r.obj n _ a e hn
      refine ⟨.lst, a, us, rfl, SqL.of h1, SqL.of (hid_at h1 (r.disj a (List.mem_of_getElem? hn)) ?_ fun _ z => by cases z), Paired.mp (fun u v q => RepV.mono sm ⟨[], by simp⟩ u v q) h2⟩
      rintro ⟨m, o, q1, q2, q3⟩
      have : m = n := (List.getElem_inj (h₀ := (List.getElem?_eq_some_iff.mp q1).1) (h₁ := (List.getElem?_eq_some_iff.mp hn).1) r.nd).mp (by rw [(List.getElem?_eq_some_iff.mp q1).2, (List.getElem?_eq_some_iff.mp hn).2])
      subst this
      rw [hs m o rfl q2] at q3
      cases q3
    · cases h
  | fn g => cases h
theorem still_dead {os : List MO} {n : Nat} {o : MO} (h : (still os (.ref n))[n]? = some o) : o.live = false := by
  unfold still at h
  simp only at h
  split at h
  · rename_i xs l e
    rw [List.getElem?_set_self (List.getElem?_eq_some_iff.mp e).1] at h
    cases h
    rfl
  · rename_i xs l e
    rw [List.getElem?_set_self (List.getElem?_eq_some_iff.mp e).1] at h
    cases h
    rfl
  · rename_i e
    rw [e] at h
    cases h
theorem Fz.dead {os os' : List MO} (z : Fz os os') {n : Nat} (h : ∀ o, os[n]? = some o → o.live = false) (o : MO) (e : os'[n]? = some o) : o.live = false := by
  obtain ⟨o', e', q⟩ := z.back e
  rcases q with rfl | rfl
  · exact h _ e'
  · exact stl_live _

/-! ### enumerate(v) -/
set_option maxHeartbeats 1000000 in
theorem meets_enum1 {v : Value} {o : Obj} {H : Heap → Prop} (B : Begins v o H) :
    Meets (Builtin.«enumerate.__new__» ⟨[.type "enumerate", v], []⟩) (fun _ R s => H s.heap ∧ R (.ok (.ret (.ref (s.heap.push o).objs.size)))
      { s with heap := (s.heap.push o).push { cls := .type "enumerate", data := .fields #[.none, .bool false, .ref s.heap.objs.size, rawInt 0, .none, .none] } }) :=
  .of_wp fun prog w A R s hs => by
    obtain ⟨hp, g, dr, tk, os⟩ := s; obtain ⟨h0, hR⟩ := hs
    have hsub := sub_enumerate
    have itr : ∀ {A' : Around} {E : Value → Shared → Prop} {Q : Value → Shared → Prop}, Q (.ref hp.objs.size) ⟨hp.push o, g, dr, tk, os⟩ → wpAny (model prog w) A' (pyIter v) Q E ⟨hp, g, dr, tk, os⟩ := fun q => B.iter prog w _ _ ⟨hp, g, dr, tk, os⟩ _ h0 q
    wp_walk using itr
    refine wpAny_stack_any fun st => wpAny_pure ?_
    split
    · rename_i c _ _ _ _ _
      cases (c == Value.type "enumerate") <;> (wp_walk using itr; exact ⟨_, rfl, hR⟩)
    · wp_walk using itr
      exact ⟨_, rfl, hR⟩
theorem enum_begins1 {prog : Program} {w : World} {A : Around} {E : Value → Shared → Prop} {s : Shared} {v : Value} {o : Obj} {H : Heap → Prop} {Q : Value → Shared → Prop} (B : Begins v o H) (h1 : H s.heap)
    (h : ∀ h', IsEnum h' (s.heap.objs.size + 1) s.heap.objs.size 0 .none → h'.get? s.heap.objs.size = some o → (∀ b o, s.heap.get? b = some o → h'.get? b = some o) → Q (.ref (s.heap.objs.size + 1)) { s with heap := h' }) :
    wpAny (model prog w) A (call (.type "enumerate") [v]) Q E s := by
  refine callType_new PySem.F.called_enumerate (by decide) (PySem.F.typeCall_enumerate_1 _) (PySem.F.newCall_enumerate_1 _) (fun x => PySem.F.args_object_init_2 x _) PySem.F.entry_enumerate_new (meets_enum1 B) ⟨h1, ?_⟩
  have sz : (s.heap.push o).objs.size = s.heap.objs.size + 1 := Heap.size_push ..
  have new : ((s.heap.push o).push { cls := .type "enumerate", data := .fields #[.none, .bool false, .ref s.heap.objs.size, rawInt 0, .none, .none] }).get? (s.heap.objs.size + 1) = some { cls := .type "enumerate", data := .fields #[.none, .bool false, .ref s.heap.objs.size, rawInt 0, .none, .none] } := by
    rw [← sz]
    exact Heap.get?_push_size _ rfl
  show _ ∧ _
  rw [sz]
  exact ⟨⟨_, new, rfl⟩, h _ new (Heap.get?_push_of_some _ (Heap.get?_push_size _ B.free)) fun b u x => Heap.get?_push_of_some _ (Heap.get?_push_of_some _ x)⟩
def ysE (us : List V) (i : Nat) : List V := match us[i]? with
  | some u => [.int (i : Nat), u]
  | none => []
theorem turn_enumK {P : Program} {w : World} {K : PySem.W.Frag} {elts : List Expr} {kk : Nat} {tpos : Pos} (k : Sk) (a e it : Addr) (us : List V) :
    Turn P w K (.Tuple elts kk tpos) (itNew (fun H => k.Sq K H a us) us.length (ysE us)) [e, it] e (fun i h => (∃ old, IsEnum h e it ((i : Nat) : Int) old) ∧ k.At h it a i ∧ e ≠ it) := by
  refine turn_new (by simp) (fun i h st b hb => ?_) (fun i h h' st q => ?_) (fun A i s Q E st h => ?_) fun X hP hW hK hc i pins s σ H I st hG => ?_
  · obtain ⟨⟨old, he⟩, hi, _⟩ := st
    rcases List.mem_cons.mp hb with z | z
    · rw [z]; exact ⟨_, he, fun v q => nomatch q⟩
    · rw [List.mem_singleton.mp z]; exact k.ob_at hi
  · obtain ⟨⟨old, he⟩, hi, hne⟩ := st
    exact ⟨⟨old, q e (by simp) _ he⟩, k.at_keep hi fun o z => q it (by simp) o z, hne⟩
  · obtain ⟨⟨_, he⟩, _⟩ := st
    exact wpAny_pyIter_enum he h
  · obtain ⟨⟨old, he⟩, hi, hne⟩ := st
    subst hP hW hK
    obtain ⟨its, rv, p⟩ := k.of I hG
    have hai : a ≠ it := k.ne hi k p
    have hea : e ≠ a := by
      rintro rfl
      cases k <;> (obtain ⟨o, e1, c1, _⟩ := p; have e2 := he; unfold IsEnum at e2; rw [e1] at e2; cases e2; injection c1 with q; exact absurd q (by decide))
    have hl : its.toArray.size = us.length := by rw [List.size_toArray]; exact rv.length.symm
    have D := k.draws (prog := X.prog) (w := X.w) (A := X.A.in1) (show X.A.in1.handled = none from I.ok.hd hc) it a hai its.toArray
    refine ⟨_, _, _, _, _, (hl ▸ WalksT.enumerateD D e hne (by simp [hne, hea]) (by simp)), ⟨⟨old, he⟩, hi, p⟩, fun j h st => ⟨st.1, st.2.1, hne⟩, fun b hb => by simpa using hb, fun vals hin hp => ?_⟩
    obtain ⟨t, x, hx, rfl⟩ := hp
    obtain ⟨u, hu⟩ : ∃ u, us[i]? = some u := ⟨us[i], List.getElem?_eq_getElem hin⟩
    obtain ⟨y, hy, ry⟩ := rv.get hu
    have exy : y = x := by
      rw [List.getElem?_toArray, hy] at hx
      exact Option.some.inj hx
    subst exy
    unfold ysE
    rw [hu]
    exact ⟨.cons ⟨_, rfl⟩ (.cons ry .nil), by show 2 ≤ sizeLine; rw [line_eq]; decide⟩
theorem numbered_get : ∀ {vs : List Val} {k i : Nat} {it : Item}, (numbered k vs)[i]? = some it → ∃ v, vs[i]? = some v ∧ it = .many [.d (.int ((k + i : Nat) : Int)), v]
  | [], k, i, it, h => by simp [numbered] at h
  | v :: vs, k, 0, it, h => by
    unfold numbered at h
    simp at h
    exact ⟨v, rfl, by rw [← h]; simp⟩
  | v :: vs, k, i + 1, it, h => by
    unfold numbered at h
    rw [List.getElem?_cons_succ] at h
    obtain ⟨w, h1, h2⟩ := numbered_get h
    exact ⟨w, by simpa using h1, by rw [h2]; congr 5; omega⟩
theorem numbered_len : ∀ (vs : List Val) (k : Nat), (numbered k vs).length = vs.length
  | [], _ => rfl
  | v :: vs, k => by unfold numbered; simp [numbered_len vs]
/-- what a walk's arguments tell -/
theorem tI_args {kd : ItK} {E : MS → Out (List Val)} {σ : St} {H : Hp} {R' : It → Hp → Prop} (h : tI (wx X Φ) Z (fun s => (E s).bind fun vs s1 => walkG kd vs s1) σ H R') :
    tA (wx X Φ) Z E σ H fun xs H1 => ∃ A f s vs, R (wx X Φ).toWd A f s σ H1 ∧ PV (wx X Φ).toWd f (hid A f s.objs H1) xs vs ∧ ∃ its s2, walk kd vs s = some (its, s2) ∧ GoO (wx X Φ) Z (RelW (wx X Φ).toWd) A f s.objs σ H1 R' (.ok its s2) := by
  obtain ⟨A, f, s, r, h⟩ := h
  exact ⟨A, f, s, r, h.of_bind fun vs s1 f1 H1 xs e1 eX R1 rv g => ⟨A, f1, s1, vs, R1, rv, go_walk g⟩⟩
theorem pi_enumV {a : Expr} {elts : List Expr} {kk : Nat} {p pos tpos : Pos} {E : MS → Out (List Val)} (hc : X.calm = true) (hs : notStar a = true) (hg : Gl X "enumerate") (hm : X.mg "enumerate" = none) (ha : PA X [a] (tA (wx X Φ) Z E)) :
    PI X (.Tuple elts kk tpos) (.Call (.Name "enumerate" p) [a] [] pos) (tI (wx X Φ) Z fun s => (E s).bind fun vs s1 => walkG .enum vs s1) := by
  refine ⟨fun pins s σ H R' I h => ?_⟩
  refine Call_ (ld_blt I hg hm boot_enumerate (PyProof.Rows.callWith_type1 (thn (ha.run pos pins s σ H _ I (tI_args h)) fun us s1 ⟨xs, H1, I1, r1, A, f, ms, vs, R1, rv, its, ms2, e2, g⟩ => ?_) (starEach_cons hs) rfl))
  replace e2 : enumW vs ms = some (its, ms2) := e2
  unfold enumW at e2
  split at e2
  rotate_left
  · cases e2
  rename_i v
  split at e2
  rotate_left
  · cases e2
  rename_i ws ei
  cases e2
  obtain ⟨x, rfl, rx⟩ := pv1 rv
  have z := still_fz ms.objs v
  have ex : Ext f ms.objs H1 f (still ms.objs v) H1 := z.ext
  obtain ⟨k, b, ys, rfl, q1, q2, hv⟩ := src_of ei R1 rx z fun n o e h => by rw [e] at h; exact still_dead h
  cases r1 with
  | cons r rr =>
    cases rr
    cases r
    obtain ⟨its, rvs, pp⟩ := k.of I1 q1
    refine enum_begins1 (k.begins b its.toArray) pp fun h' he hit hk => wpAny_pyIter_enum he ?_
    have I2 : L2.Inv X pins σ H1 { s1 with heap := h' } := I1.kept (t' := s1.toks) hk
    refine ⟨s1.heap.objs.size + 1, [s1.heap.objs.size + 1, s1.heap.objs.size], _, _, H1, rfl, I2, turn_enumK k b (s1.heap.objs.size + 1) s1.heap.objs.size ys, ⟨⟨.none, he⟩, k.at_new hit, Nat.succ_ne_self _⟩, fun c hcm => ?_, ?_⟩
    · have hle : s1.heap.objs.size ≤ c := by
        rcases List.mem_cons.mp hcm with z | z
        · rw [z]; exact Nat.le_add_right _ _
        · rw [List.mem_singleton.mp z]; exact Nat.le_refl _
      exact I1.fpOk hle (I1.hok.fresh hle)
    · refine g f H1 _ ex (R1.fz z) (relW_new ?_ (fun H q => k.same q q2) fun i it hi => ?_)
      · rw [numbered_len, Paired.length' hv]
      · obtain ⟨w, hw, rfl⟩ := numbered_get hi
        obtain ⟨u, hu, ru⟩ := Paired.getR hv hw
        refine ⟨_, rfl, ?_⟩
        unfold ysE
        rw [hu, Nat.zero_add]
        exact .cons (Rp.int _) (.cons ru .nil)

/-! ### zip(v, w) -/
def ysZ (us ws : List V) (i : Nat) : List V := match us[i]?, ws[i]? with
  | some u, some w => [u, w]
  | _, _ => []
theorem turn_zipK {P : Program} {w : World} {K : PySem.W.Frag} {elts : List Expr} {kk : Nat} {tpos : Pos} (k k' : Sk) (a b z TI TO i1 i2 : Addr) (us ws : List V) (S : ZipSep2 z TI TO i1 i2 [i1, a] [i2, b]) :
    Turn P w K (.Tuple elts kk tpos) (itNew (fun H => k.Sq K H a us ∧ k'.Sq K H b ws) (min us.length ws.length) (ysZ us ws)) [z, TI, TO, i1, i2] z
      (fun i h => IsZip h z TI TO .none ∧ IsTupOf2 h TI (.ref i1) (.ref i2) ∧ (∃ x y, IsTupOf2 h TO x y) ∧ k.At h i1 a i ∧ k'.At h i2 b i) := by
  refine turn_new (by simp) (fun i h st c hc => ?_) (fun i h h' st q => ?_) (fun A i s Q E st h => wpAny_pyIter_zip st.1 h) fun X hP hW hK hc i pins s σ H I st hG => ?_
  · obtain ⟨hz, hT, ⟨x, y, hO⟩, h1, h2⟩ := st
    have e' : c = z ∨ c = TI ∨ c = TO ∨ c = i1 ∨ c = i2 := by simpa using hc
    rcases e' with q | q | q | q | q
    · rw [q]; exact ⟨_, hz, fun v q => nomatch q⟩
    · rw [q]; exact ⟨_, hT, fun v q => nomatch q⟩
    · rw [q]; exact ⟨_, hO, fun v q => nomatch q⟩
    · rw [q]; exact k.ob_at h1
    · rw [q]; exact k'.ob_at h2
  · obtain ⟨hz, hT, ⟨x, y, hO⟩, h1, h2⟩ := st
    exact ⟨q z (by simp) _ hz, q TI (by simp) _ hT, ⟨x, y, q TO (by simp) _ hO⟩, k.at_keep h1 fun o e => q i1 (by simp) o e, k'.at_keep h2 fun o e => q i2 (by simp) o e⟩
  · obtain ⟨hz, hT, hO, h1, h2⟩ := st
    subst hP hW hK
    obtain ⟨its, rv, p⟩ := k.of I hG.1
    obtain ⟨its2, rv2, p2⟩ := k'.of I hG.2
    have l1 : its.toArray.size = us.length := by rw [List.size_toArray]; exact rv.length.symm
    have l2 : its2.toArray.size = ws.length := by rw [List.size_toArray]; exact rv2.length.symm
    have D1 := k.draws (prog := X.prog) (w := X.w) (A := X.A.in1) (show X.A.in1.handled = none from I.ok.hd hc) i1 a (k.ne h1 k p) its.toArray
    have D2 := k'.draws (prog := X.prog) (w := X.w) (A := X.A.in1) (show X.A.in1.handled = none from I.ok.hd hc) i2 b (k'.ne h2 k' p2) its2.toArray
    refine ⟨_, _, _, _, _, (l1 ▸ l2 ▸ WalksT.zipD2 S D1 D2), ⟨hz, hT, hO, ⟨h1, p⟩, h2, p2⟩, fun j h st => ⟨st.1, st.2.1, st.2.2.1, st.2.2.2.1.1, st.2.2.2.2.1⟩, fun c hc => ?_, fun vals hin hp => ?_⟩
    · have e' : c = z ∨ c = TO ∨ c = i1 ∨ c = i2 := by simpa using hc
      rcases e' with q | q | q | q <;> simp [q]
    · obtain ⟨x, y, hx, hy, rfl⟩ := hp
      obtain ⟨u, hu⟩ : ∃ u, us[i]? = some u := ⟨us[i], List.getElem?_eq_getElem (by omega)⟩
      obtain ⟨u2, hu2⟩ : ∃ u, ws[i]? = some u := ⟨ws[i], List.getElem?_eq_getElem (by omega)⟩
      obtain ⟨x', hx', rx⟩ := rv.get hu
      obtain ⟨y', hy', ry⟩ := rv2.get hu2
      rw [List.getElem?_toArray, hx'] at hx
      rw [List.getElem?_toArray, hy'] at hy
      cases hx
      cases hy
      unfold ysZ
      rw [hu, hu2]
      exact ⟨.cons rx (.cons ry .nil), by show 2 ≤ sizeLine; rw [line_eq]; decide⟩
theorem paired_get' : ∀ {vs ws : List Val} {i : Nat} {it : Item}, (paired vs ws)[i]? = some it → ∃ v w, vs[i]? = some v ∧ ws[i]? = some w ∧ it = .many [v, w]
  | [], _, i, it, h => by simp [paired] at h
  | v :: vs, [], i, it, h => by simp [paired] at h
  | v :: vs, w :: ws, 0, it, h => by
    unfold paired at h
    simp at h
    exact ⟨v, w, rfl, rfl, h.symm⟩
  | v :: vs, w :: ws, i + 1, it, h => by
    unfold paired at h
    rw [List.getElem?_cons_succ] at h
    obtain ⟨x, y, h1, h2, h3⟩ := paired_get' h
    exact ⟨x, y, by simpa using h1, by simpa using h2, h3⟩
theorem paired_len : ∀ (vs ws : List Val), (paired vs ws).length = min vs.length ws.length
  | [], _ => by simp [paired]
  | _ :: _, [] => by simp [paired]
  | v :: vs, w :: ws => by unfold paired; simp [paired_len vs ws]
theorem pi_zipV {a b : Expr} {elts : List Expr} {kk : Nat} {p pos tpos : Pos} {E : MS → Out (List Val)} (hc : X.calm = true) (hs : notStar a = true) (hs2 : notStar b = true) (hg : Gl X "zip") (hm : X.mg "zip" = none) (ha : PA X [a, b] (tA (wx X Φ) Z E)) :
    PI X (.Tuple elts kk tpos) (.Call (.Name "zip" p) [a, b] [] pos) (tI (wx X Φ) Z fun s => (E s).bind fun vs s1 => walkG .zip vs s1) := by
  refine ⟨fun pins s σ H R' I h => ?_⟩
  refine Call_ (ld_blt I hg hm PyProof.Rows.boot_zip (PyProof.Rows.callWith_type1 (thn (ha.run pos pins s σ H _ I (tI_args h)) fun us s1 ⟨xs, H1, I1, r1, A, f, ms, vs, R1, rv, its, ms2, e2, g⟩ => ?_) (starEach_cons hs) (starEach_plain (es := [b]) (by simp [hs2]))))
  replace e2 : zipW vs ms = some (its, ms2) := e2
  unfold zipW at e2
  split at e2
  rotate_left
  · cases e2
  rename_i v w
  split at e2
  rotate_left
  · cases e2
  rename_i ws1 ws2 e3 e4
  cases e2
  obtain ⟨x, y, rfl, rx, ry⟩ := pv2 rv
  have z : Fz ms.objs (still (still ms.objs v) w) := (still_fz ms.objs v).trans (still_fz _ w)
  have ex : Ext f ms.objs H1 f (still (still ms.objs v) w) H1 := z.ext
  obtain ⟨k, c, ys, rfl, q1, q2, hv⟩ := src_of e3 R1 rx z fun n o e h => (still_fz (still ms.objs v) w).dead (fun o h => by rw [e] at h; exact still_dead h) o h
  obtain ⟨k', c', ys', rfl, q1', q2', hv'⟩ := src_of e4 R1 ry z fun n o e h => by rw [e] at h; exact still_dead h
  cases r1 with
  | cons r rr =>
    cases rr with
    | cons r' rr =>
      cases rr
      cases r
      cases r'
      obtain ⟨it1, rvs, pp⟩ := k.of I1 q1
      obtain ⟨it2, rvs2, pp2⟩ := k'.of I1 q1'
      refine zip_begins2 (k.begins c it1.toArray) (k'.begins c' it2.toArray) pp pp2 fun h' hz hTI hTO h1 h2 hsz hk => wpAny_pyIter_zip hz ?_
      have I2 : L2.Inv X pins σ H1 { s1 with heap := h' } := I1.kept (t' := s1.toks) hk
      have lt : ∀ (k : Sk) (c : Addr) (its : List Value), k.Is s1.heap c its.toArray → c < s1.heap.objs.size := fun k c its p => by
        cases k <;> (obtain ⟨_, e, _⟩ := p; exact Heap.lt_size e)
      have S := zip_sep2 (N := s1.heap.objs.size) (fp1 := [c]) (fp2 := [c']) (fun b hb => by rw [List.mem_singleton.mp hb]; exact lt k c it1 pp) (fun b hb => by rw [List.mem_singleton.mp hb]; exact lt k' c' it2 pp2)
      refine ⟨s1.heap.objs.size + 4, [s1.heap.objs.size + 4, s1.heap.objs.size + 2, s1.heap.objs.size + 3, s1.heap.objs.size, s1.heap.objs.size + 1], _, _, H1, rfl, I2, turn_zipK k k' c c' _ _ _ _ _ ys ys' S, ⟨hz, hTI, ⟨_, _, hTO⟩, k.at_new h1, k'.at_new h2⟩, fun d hcm => ?_, ?_⟩
      · have hle : s1.heap.objs.size ≤ d := by
          have e' : d = s1.heap.objs.size + 4 ∨ d = s1.heap.objs.size + 2 ∨ d = s1.heap.objs.size + 3 ∨ d = s1.heap.objs.size ∨ d = s1.heap.objs.size + 1 := by simpa using hcm
          rcases e' with q | q | q | q | q <;> rw [q] <;> first | exact Nat.le_add_right _ _ | exact Nat.le_refl _
        exact I1.fpOk hle (I1.hok.fresh hle)
      · refine g f H1 _ ex (R1.fz z) (relW_new ?_ (fun H q => ⟨k.same q q2, k'.same q q2'⟩) fun i it hi => ?_)
        · rw [paired_len, Paired.length' hv, Paired.length' hv']
        · obtain ⟨u, w, hu, hw, rfl⟩ := paired_get' hi
          obtain ⟨u1, e1, ru⟩ := Paired.getR hv hu
          obtain ⟨u2, e2, rw'⟩ := Paired.getR hv' hw
          refine ⟨_, rfl, ?_⟩
          unfold ysZ
          rw [e1, e2]
          exact .cons ru (.cons rw' .nil)

/-! ### dicts -/
theorem dct_of {W : Wd} {A : Addr → Prop} {f : List Addr} {s : MS} {σ : St} {H : Hp} {v : Val} {u : V} {kvs : List (PyData × Val)} {os' : List MO} (h : kvsOf s.objs v = some kvs) (r : R W A f s σ H) (rv : RepV W f (hid A f s.objs H) u v) (z : Fz s.objs os') (hs : ∀ n o, v = .ref n → os'[n]? = some o → o.live = false) :
    ∃ (a : Addr) (es : List Ent), u = .ref a ∧ DcA W.w H a es ∧ DcA W.w (hid A f os' H) a es ∧ W.rpA (hid A f os' H) (es.map (·.1)) (es.map (·.2.1)) ∧ es.map (·.2.1) = kvs.map (·.1) ∧ PV W f (hid A f os' H) (es.map (·.2.2)) (kvs.map (·.2)) := by
  have sm : Same (hid A f s.objs H) (hid A f os' H) := (z.ext (f := f) (H := H)).same
  cases v with
  | d d =>
    cases d with
    | dict ds =>
      cases h
      cases rv with
      | dct h1 h2 h3 q =>
        have e2 : (pureKv ds).map (·.2) = (ds.map (·.2)).map .d := by simp [pureKv, Function.comp_def]
        have e1 : (pureKv ds).map (·.1) = ds.map (·.1) := by simp [pureKv, Function.comp_def]
        refine ⟨_, _, rfl, DcA.same hid_sub h1, DcA.same sm h1, RpA.same sm h2, by rw [e1, q], ?_⟩
        rw [e2]
        exact PV_map (RpA.same sm h3)
    | _ => cases h
  | ref n =>
    obtain ⟨a, hn, rfl⟩ := rv
    unfold kvsOf at h
    simp only at h
    split at h
    · rename_i xs l e
      cases h
      obtain ⟨es, h1, h2, h3, h4⟩ := r.obj n _ a e hn
      have hat : hid A f os' H a = H a := by
        obtain ⟨o, ents, ep, q, _⟩ := h1
        refine hid_eq (r.disj a (List.mem_of_getElem? hn)) ?_ fun u hu => ((r.obj n _ a e hn).noTbl hu).1
        rintro ⟨m, o, q1, q2, q3⟩
        have : m = n := (List.getElem_inj (h₀ := (List.getElem?_eq_some_iff.mp q1).1) (h₁ := (List.getElem?_eq_some_iff.mp hn).1) r.nd).mp (by rw [(List.getElem?_eq_some_iff.mp q1).2, (List.getElem?_eq_some_iff.mp hn).2])
        subst this
        rw [hs m o rfl q2] at q3
        cases q3
      exact ⟨a, es, rfl, h1, DcA.congr hat h1, RpA.same sm h2, h3, Paired.mp (fun u v q => RepV.mono sm ⟨[], by simp⟩ u v q) h4⟩
    · cases h
  | fn g => cases h
/-- a dict's keys, one by one -/
def itKR (d : Addr) (o : Obj) (es : List Ent) : It := ⟨fun i H => H d = some (rawO d o) ∧ i < es.length, fun i H x H' => H' = H ∧ ∃ e, es[i]? = some e ∧ x = e.1, fun i H => H d = some (rawO d o) ∧ es.length ≤ i⟩
theorem ent_get {w : World} {ents : Array DictEntry} {es : List Ent} (h : Paired (EntR w) ents.toList es) {i : Nat} {e : Ent} (hi : es[i]? = some e) : ∃ x, ents[i]? = some x ∧ EntR w x e := by
  obtain ⟨x, h1, h2⟩ := Paired.getR h hi
  exact ⟨x, by simpa using h1, h2⟩
theorem turn_keysR {P : Program} {w : World} {K : PySem.W.Frag} {tg : Expr} {d : Addr} {o : Obj} {ents : Array DictEntry} {ep : Nat} {es : List Ent} (it : Addr) (hod : o.data = .dict ents ep) (hp : Paired (EntR w) ents.toList es) : Turn P w K tg (itKR d o es) [it] it (fun i h => h.IsKeyIter it d i es.length ep) where
  mem := by simp
  obj := fun i h st b hb => by
    rw [List.mem_singleton.mp hb]
    obtain ⟨oi, e, c, q⟩ := st
    exact ⟨oi, e, fun v z => by rw [q] at z; cases z⟩
  keep := fun i h h' st k => st.at fun oi e => k it (by simp) oi e
  item := by
    intro X hP hW hK hc i pins s σ H E I hf st hg
    subst hP hW hK
    obtain ⟨hd, hi⟩ := hg
    obtain ⟨f0, f1, f2, f3, f4, f5⟩ := hf it (by simp)
    have hgd : s.heap.get? d = some o := (I.hok d _ hd).1
    have hsz : ents.size = es.length := by rw [← Array.length_toList]; exact Paired.length' hp
    obtain ⟨x, hx, rx⟩ := ent_get hp (List.getElem?_eq_getElem hi)
    refine next_key_item st hgd hod hsz hx fun h' st' sb => ?_
    have I1 : L2.Inv X pins σ H { s with heap := h' } := I.turned (t' := s.toks) (fun b ob hb e => (sb.2 b hb).trans e) f0 f1 f3 f4 f5
    obtain ⟨oi, e, c, q⟩ := id st'
    exact ⟨x.key, rfl, go_of (s := { s with heap := h' }) e c q (by decide) ⟨_, H, I1, rx.1, ⟨rfl, _, List.getElem?_eq_getElem hi, rfl⟩, st', fun b hb => (hf b hb).1⟩⟩
  done := by
    intro X hP hW hK hc i pins s σ H E I hf st hg
    subst hP hW hK
    obtain ⟨hd, hi⟩ := hg
    obtain ⟨f0, f1, f2, f3, f4, f5⟩ := hf it (by simp)
    have hsz : ents.size = es.length := by rw [← Array.length_toList]; exact Paired.length' hp
    exact next_key_end (I.ok.hd hc) st (I.hok d _ hd).1 hod hsz hi fun h' eb => ⟨rfl, I.turned (t' := s.toks) (fun b ob hb e => eb b ob hb e) f0 f1 f3 f4 f5⟩
  self := fun A i s Q E st h => by
    refine wpAny_pyIter_slot st.typeIs PySem.F.slot_dict_keyiterator_iter (wpAny_call_entry PySem.F.slot_dict_keyiterator_iter st.typeIs PySem.F.entry_dict_keyiterator_iter ?_ (PySem.F.args_dict_keyiterator_iter_1 _))
    show wpAny _ _ (ret (.ref it)) _ _ s
    exact wpAny_pure ⟨_, rfl, "dict_keyiterator", _, st.typeIs, PySem.F.slot_dict_keyiterator_next.lookup, h⟩
/-- a dict, key by key -/
theorem iter_dict {pins : List (Addr × Obj)} {s1 : Shared} {σ : St} {H1 : Hp} {R' : It → Hp → Prop} {A : Addr → Prop} {f : List Addr} {ms : MS} {v : Val} {x : V} {u : Value} {kvs : List (PyData × Val)} (hc : X.calm = true) (I1 : L2.Inv X pins σ H1 s1) (r : R (wx X Φ).toWd A f ms σ H1) (rv : RepV (wx X Φ).toWd f (hid A f ms.objs H1) x v)
    (rx : L2.RelV x u) (e : kvsOf ms.objs v = some kvs) (g : GoO (wx X Φ) Z (RelW (wx X Φ).toWd) A f ms.objs σ H1 R' (.ok (kvs.map fun p => .one (.d p.1)) { ms with objs := still ms.objs v })) :
    wpAny (model X.prog X.w) X.A (pyIter u) (PIE X pins σ tg R') X.xe s1 := by
  have z := still_fz ms.objs v
  have ex : Ext f ms.objs H1 f (still ms.objs v) H1 := z.ext
  obtain ⟨a, es, rfl, h1, h2, h3, h4, h5⟩ := dct_of e r rv z fun n o q h => by rw [q] at h; exact still_dead h
  cases rx
  obtain ⟨o, ents, ep, hH, ho, hx, hdat, hs, hp, hsz, hle⟩ := dct_obj I1 h1
  refine iter_keys hs ho hx hdat (pi_one (tk := s1.toks) I1 _ (turn_keysR (d := a) _ hdat hp) ⟨_, Heap.get?_push_size _ rfl, rfl, ?_⟩ ?_)
  · rw [hsz] <;> rfl
  · have hG : ∀ H, Same (hid A f (still ms.objs v) H1) H → H a = some (rawO a o) := fun H q => by
      obtain ⟨o', _, _, hh, _⟩ := h2
      have := hid_sub _ _ hh
      rw [hH] at this
      rw [q _ _ hh, this]
    refine g f H1 _ ex (r.fz z) ⟨fun H => H a = some (rawO a o), fun i H x H' => H' = H ∧ ∃ e, es[i]? = some e ∧ x = e.1, ?_, hG, fun i x H H' Hh' it q q2 y hi f' pf => ?_⟩
    · have : (kvs.map fun p => Item.one (.d p.1)).length = es.length := by
        have := congrArg List.length h4
        simp only [List.length_map] at this ⊢
        omega
      rw [this]
      exact ⟨fun _ _ hi q => ⟨q, hi⟩, fun _ q => ⟨q, Nat.le_refl _⟩, fun _ _ _ _ _ _ y => y⟩
    · obtain ⟨rfl, en, hen, rfl⟩ := y
      rw [List.getElem?_map] at hi
      obtain ⟨p, hp1, rfl⟩ := map_some hi
      refine ⟨rfl, Rp.same q ?_⟩
      have e2 : (kvs.map (·.1))[i]? = some p.1 := by rw [List.getElem?_map, hp1]; rfl
      obtain ⟨w, hw, rw'⟩ := RpA.get h3 (show (es.map (·.2.1))[i]? = some p.1 by rw [h4, e2])
      rw [List.getElem?_map, hen] at hw
      cases hw
      exact rw'

/-! ### d.items() -/
def ysI (es : List Ent) (i : Nat) : List V := match es[i]? with
  | some e => [e.1, e.2.2]
  | none => []
theorem walksT_items {prog : Program} {w : World} {A : Around} (hh : A.handled = none) (it d : Addr) (hne : d ≠ it) (es : Array DictEntry) (ep : Nat) : WalksT prog w A it [it, d] [it] es.size (fun i vals => ∃ hi : i < es.size, vals = #[es[i].key, es[i].val])
    (fun i h => (∃ ok ov, IsItemIter h it d i es.size ep ok ov) ∧ DT.Raw h d es ep) (fun i T h => (∃ ok ov, IsItemIterOut h it d (i + 1) es.size ep ok ov T) ∧ DT.Raw h d es ep ∧ T ≠ it) where
  sub := by simp
  frame := fun i h h' st k => by
    obtain ⟨⟨ok, ov, e⟩, r⟩ := st
    exact ⟨⟨ok, ov, k it (by simp) _ e⟩, r.at' fun o q => k d (by simp) o q⟩
  item := fun i s Q E hi st hQ => by
    obtain ⟨⟨ok, ov, e⟩, r⟩ := st
    refine DT.nextI e r hi fun h' ho hT hz hk => ?_
    have hlt : it < s.heap.objs.size := Heap.lt_size e
    exact hQ s.heap.objs.size #[es[i].key, es[i].val] h' s.toks ⟨hi, rfl⟩ (Nat.le_refl _) ⟨_, hT, rfl, _, rfl⟩ ⟨⟨_, _, ho⟩, r.at' fun o q => hk d o hne q, Nat.ne_of_gt hlt⟩ fun b o hb q => hk b o (by simpa using hb) q
  go := fun elts k pos i T s Q E hm hQ => by
    obtain ⟨⟨ok, ov, ho⟩, r, hT⟩ := hm
    refine wpAny_letOwnedTupleGo_items ho fun h' he sb => hQ h' ⟨⟨ok, ov, he⟩, r.at' fun o q => (sb.2 d hne).trans q⟩ fun b o hb q => (sb.2 b (by simpa using hb)).trans q
  apart := fun i T h hm hT => hm.2.2 (by simpa using hT)
  done := fun s Q E st hQ => by
    obtain ⟨⟨ok, ov, e⟩, r⟩ := st
    exact DT.endI hh e r (Nat.le_refl _) fun h' eb => hQ h' s.toks fun b o hb q => eb b o (by simpa using hb) q
  self := fun i s Q E st h => by
    obtain ⟨⟨ok, ov, e⟩, r⟩ := st
    exact PySem.W.kcp_self e h
theorem turn_itemsR {P : Program} {w : World} {K : PySem.W.Frag} {elts : List Expr} {kk : Nat} {tpos : Pos} {d : Addr} {o : Obj} {ents : Array DictEntry} {ep : Nat} {es : List Ent} (it : Addr) (hod : o.data = .dict ents ep) (hx : o.ExactDict) (hp : Paired (EntR w) ents.toList es) :
    Turn P w K (.Tuple elts kk tpos) (itNew (fun H => H d = some (rawO d o)) ents.size (ysI es)) [it] it (fun i h => ∃ ok ov, IsItemIter h it d i ents.size ep ok ov) := by
  have hsz : ents.size = es.length := by rw [← Array.length_toList]; exact Paired.length' hp
  refine turn_new (by simp) (fun i h st b hb => ?_) (fun i h h' st q => ?_) (fun A i s Q E st h => ?_) fun X hP hW hK hc i pins s σ H I st hG => ?_
  · rw [List.mem_singleton.mp hb]
    obtain ⟨ok, ov, e⟩ := st
    exact ⟨_, e, fun v z => nomatch z⟩
  · obtain ⟨ok, ov, e⟩ := st
    exact ⟨ok, ov, q it (by simp) _ e⟩
  · obtain ⟨ok, ov, e⟩ := st
    exact PySem.W.kcp_self e h
  · subst hP hW hK
    obtain ⟨ok, ov, e⟩ := st
    have hgd : s.heap.get? d = some o := (I.hok d _ hG).1
    have hne : d ≠ it := by
      rintro rfl
      unfold IsItemIter at e
      rw [hgd] at e
      cases e
      cases hod
    have Wk := walksT_items (prog := X.prog) (w := X.w) (A := X.A) (I.ok.hd hc) it d hne ents ep
    refine ⟨_, _, _, _, _, Wk, ⟨⟨ok, ov, e⟩, o, hgd, hx, hod⟩, fun j h st => ?_, fun b hb => hb, fun vals hin hv => ?_⟩
    · obtain ⟨⟨ok, ov, q⟩, _⟩ := st
      exact ⟨ok, ov, q⟩
    · obtain ⟨hi, rfl⟩ := hv
      have hin' : i < es.length := hsz ▸ hin
      obtain ⟨x, hx1, rx⟩ := ent_get hp (List.getElem?_eq_getElem hin')
      have : ents[i] = x := by
        rw [Array.getElem?_eq_getElem hi] at hx1
        exact Option.some.inj hx1
      unfold ysI
      rw [List.getElem?_eq_getElem hin', this]
      exact ⟨.cons rx.1 (.cons rx.2.2 .nil), by show 2 ≤ sizeLine; rw [line_eq]; decide⟩
theorem pi_itemsV {a : Expr} {elts : List Expr} {kk : Nat} {apos cpos tpos : Pos} {E : MS → Out Val} (hc : X.calm = true) (hb : noCall0 a = true) (hl : (apos.endLine == cpos.line) = true) (ha : PE X a (tE (wx X Φ) Z E)) :
    PI X (.Tuple elts kk tpos) (.Call (.Attribute a "items" apos) [] [] cpos) (tI (wx X Φ) Z fun s => (E s).bind fun v s1 => walkG .items [v] s1) := by
  refine ⟨fun pins s σ H R' I h => ?_⟩
  have h' : tE (wx X Φ) Z E σ H fun x H1 => ∃ A f s v, R (wx X Φ).toWd A f s σ H1 ∧ RepV (wx X Φ).toWd f (hid A f s.objs H1) x v ∧ ∃ its s2, walk .items [v] s = some (its, s2) ∧ GoO (wx X Φ) Z (RelW (wx X Φ).toWd) A f s.objs σ H1 R' (.ok its s2) := by
    obtain ⟨A, f, s, r, h⟩ := h
    exact ⟨A, f, s, r, h.of_bind fun v s1 f1 H1 x e1 eX R1 rv g => ⟨A, f1, s1, v, R1, rv, go_walk g⟩⟩
  refine wpAny_Call_method (T := "dict") (id := "dict.items") (attrBase_ok hb) rfl hl PySem.F.plainAttrs_dict PySem.F.slot_dict_items PySem.F.type_dict_items (thn (ha.run pins s σ H _ I h') fun u s1 ⟨x, H1, I1, rx, A, f, ms, v, R1, rv, its, s2, e1, g⟩ => ?_)
  replace e1 : itemsW [v] ms = some (its, s2) := e1
  unfold itemsW at e1
  dsimp only at e1
  split at e1
  rotate_left
  · cases e1
  rename_i kvs ek
  cases e1
  have z := still_fz ms.objs v
  have ex : Ext f ms.objs H1 f (still ms.objs v) H1 := z.ext
  obtain ⟨b, es, rfl, h1, h2, h3, h4, h5⟩ := dct_of ek R1 rv z fun n o q h => by rw [q] at h; exact still_dead h
  cases rx
  obtain ⟨o, ents, ep, hH, ho, hx, hdat, hs, hp, hsz, hle⟩ := dct_obj I1 h1
  have raw : DT.Raw s1.heap b ents ep := ⟨o, ho, hx, hdat⟩
  have ty : s1.TypeIs (.ref b) "dict" := ⟨o, ho, hx.1⟩
  refine ⟨ty, fun a h => by cases h; exact ⟨o, ho, hx.2.1⟩, ?_⟩
  have I2 : L2.Inv X pins σ H1 { s1 with heap := s1.heap.push { cls := .type "dict_items", data := .fields #[.ref b] } } := I1.kept (t' := s1.toks) fun b ob q => Heap.get?_push_of_some _ q
  have fin : wpAny (model X.prog X.w) X.A (pyIter (.ref s1.heap.objs.size)) (PIE X pins σ (.Tuple elts kk tpos) R') X.xe { s1 with heap := s1.heap.push { cls := .type "dict_items", data := .fields #[.ref b] } } := by
    refine DT.iterI (d := b) ⟨_, Heap.get?_push_size _ rfl, rfl, rfl⟩ (raw.push _) (pi_one (tk := s1.toks) I2 _ (turn_itemsR (d := b) _ hdat hx hp) ⟨.none, .none, ?_⟩ ?_)
    · exact Heap.get?_push_size _ rfl
    · have hG : ∀ H, Same (hid A f (still ms.objs v) H1) H → H b = some (rawO b o) := fun H q => by
        obtain ⟨o', _, _, hh, _⟩ := h2
        have := hid_sub _ _ hh
        rw [hH] at this
        rw [q _ _ hh, this]
      have hlen : kvs.length = es.length := by simpa using (congrArg List.length h4).symm
      refine g f H1 _ ex (R1.fz z) (relW_new (by rw [List.length_map, hlen, hsz]) hG fun i it hi => ?_)
      rw [List.getElem?_map] at hi
      obtain ⟨p, hp1, rfl⟩ := map_some hi
      have hlt : i < es.length := by rw [← hlen]; exact (List.getElem?_eq_some_iff.mp hp1).1
      refine ⟨_, rfl, ?_⟩
      have hen : es[i]? = some es[i] := List.getElem?_eq_getElem hlt
      have e1 : (es.map (·.2.1))[i]? = some es[i].2.1 := by rw [List.getElem?_map, hen]; rfl
      have e2 : (kvs.map (·.1))[i]? = some p.1 := by rw [List.getElem?_map, hp1]; rfl
      rw [h4, e2] at e1
      obtain ⟨w, hw, rw'⟩ := RpA.get h3 (show (es.map (·.2.1))[i]? = some p.1 by rw [h4, e2])
      rw [List.getElem?_map, hen] at hw
      cases hw
      obtain ⟨w2, hw2, rw2⟩ := Paired.getR h5 (show (kvs.map (·.2))[i]? = some p.2 by rw [List.getElem?_map, hp1]; rfl)
      rw [List.getElem?_map, hen] at hw2
      cases hw2
      unfold ysI
      rw [hen]
      exact .cons rw' (.cons rw2 .nil)
  show wpAny _ _ (callWith cpos (.builtin "dict.items") [.ref b] [] []) _ X.xe s1
  exact method_meetsIn PySem.F.slot_dict_items PySem.F.entry_dict_items rfl (PySem.evalArgs_none ⟨rfl, ty, PySem.F.args_dict_items_1 _, _, DT.meetsItems (es := ents) (ep := ep) hs, ⟨raw, fin⟩⟩)
/-- a dict's values, one by one -/
def itVR (d : Addr) (o : Obj) (es : List Ent) (n : Nat) : It := ⟨fun i H => H d = some (rawO d o) ∧ i < n, fun i H x H' => H' = H ∧ ∃ e, es[i]? = some e ∧ x = e.2.2, fun i H => H d = some (rawO d o) ∧ n ≤ i⟩
theorem turn_valsR {P : Program} {w : World} {K : PySem.W.Frag} {tg : Expr} {d : Addr} {o : Obj} {ents : Array DictEntry} {ep : Nat} {es : List Ent} (it : Addr) (hod : o.data = .dict ents ep) (hx : o.ExactDict) (hp : Paired (EntR w) ents.toList es) : Turn P w K tg (itVR d o es ents.size) [it] it (fun i h => h.IsValIter it d i ents.size ep) where
  mem := by simp
  obj := fun i h st b hb => by
    rw [List.mem_singleton.mp hb]
    obtain ⟨oi, e, c, q⟩ := st
    exact ⟨oi, e, fun v z => by rw [q] at z; cases z⟩
  keep := fun i h h' st k => st.at fun oi e => k it (by simp) oi e
  item := by
    intro X hP hW hK hc i pins s σ H E I hf st hg
    subst hP hW hK
    obtain ⟨hd, hi⟩ := hg
    obtain ⟨f0, f1, f2, f3, f4, f5⟩ := hf it (by simp)
    have raw : s.heap.DictRaw d ents ep := ⟨o, (I.hok d _ hd).1, hx, hod⟩
    have hi' : i < es.length := by rw [← Paired.length' hp]; simpa using hi
    obtain ⟨x, hx1, rx⟩ := ent_get hp (List.getElem?_eq_getElem hi')
    have ex : ents[i] = x := by
      rw [Array.getElem?_eq_getElem hi] at hx1
      exact Option.some.inj hx1
    refine PySem.wpAny_pyNext_values_item_raw st raw hi fun h' st' sb => ?_
    have I1 : L2.Inv X pins σ H { s with heap := h' } := I.turned (t' := s.toks) (fun b ob hb e => (sb.2 b hb).trans e) f0 f1 f3 f4 f5
    obtain ⟨oi, e, c, q⟩ := id st'
    rw [ex]
    exact ⟨x.val, rfl, go_of (s := { s with heap := h' }) e c q (by decide) ⟨_, H, I1, rx.2.2, ⟨rfl, _, List.getElem?_eq_getElem hi', rfl⟩, st', fun b hb => (hf b hb).1⟩⟩
  done := by
    intro X hP hW hK hc i pins s σ H E I hf st hg
    subst hP hW hK
    obtain ⟨hd, hi⟩ := hg
    obtain ⟨f0, f1, f2, f3, f4, f5⟩ := hf it (by simp)
    exact PySem.wpAny_pyNext_values_end_raw (I.ok.hd hc) st ⟨o, (I.hok d _ hd).1, hx, hod⟩ hi fun h' eb => ⟨rfl, I.turned (t' := s.toks) (fun b ob hb e => eb b ob hb e) f0 f1 f3 f4 f5⟩
  self := fun A i s Q E st h => wpAny_pyIter_valiter st h
theorem pi_valsV {a tg : Expr} {apos cpos : Pos} {E : MS → Out Val} (hc : X.calm = true) (hb : noCall0 a = true) (hl : (apos.endLine == cpos.line) = true) (ha : PE X a (tE (wx X Φ) Z E)) :
    PI X tg (.Call (.Attribute a "values" apos) [] [] cpos) (tI (wx X Φ) Z fun s => (E s).bind fun v s1 => walkG .vals [v] s1) := by
  refine ⟨fun pins s σ H R' I h => ?_⟩
  have h' : tE (wx X Φ) Z E σ H fun x H1 => ∃ A f s v, R (wx X Φ).toWd A f s σ H1 ∧ RepV (wx X Φ).toWd f (hid A f s.objs H1) x v ∧ ∃ its s2, walk .vals [v] s = some (its, s2) ∧ GoO (wx X Φ) Z (RelW (wx X Φ).toWd) A f s.objs σ H1 R' (.ok its s2) := by
    obtain ⟨A, f, s, r, h⟩ := h
    exact ⟨A, f, s, r, h.of_bind fun v s1 f1 H1 x e1 eX R1 rv g => ⟨A, f1, s1, v, R1, rv, go_walk g⟩⟩
  refine wpAny_Call_method (T := "dict") (id := "dict.values") (attrBase_ok hb) rfl hl PySem.F.plainAttrs_dict PySem.F.slot_dict_values PySem.F.type_dict_values (thn (ha.run pins s σ H _ I h') fun u s1 ⟨x, H1, I1, rx, A, f, ms, v, R1, rv, its, s2, e1, g⟩ => ?_)
  replace e1 : valsW [v] ms = some (its, s2) := e1
  unfold valsW at e1
  dsimp only at e1
  split at e1
  rotate_left
  · cases e1
  rename_i kvs ek
  cases e1
  have z := still_fz ms.objs v
  have ex : Ext f ms.objs H1 f (still ms.objs v) H1 := z.ext
  obtain ⟨b, es, rfl, h1, h2, h3, h4, h5⟩ := dct_of ek R1 rv z fun n o q h => by rw [q] at h; exact still_dead h
  cases rx
  obtain ⟨o, ents, ep, hH, ho, hx, hdat, hs, hp, hsz, hle⟩ := dct_obj I1 h1
  have raw : s1.heap.DictRaw b ents ep := ⟨o, ho, hx, hdat⟩
  have ty : s1.TypeIs (.ref b) "dict" := ⟨o, ho, hx.1⟩
  refine ⟨ty, fun a h => by cases h; exact ⟨o, ho, hx.2.1⟩, ?_⟩
  have I2 : L2.Inv X pins σ H1 { s1 with heap := s1.heap.push { cls := .type "dict_values", data := .fields #[.ref b] } } := I1.kept (t' := s1.toks) fun b ob q => Heap.get?_push_of_some _ q
  have fin : wpAny (model X.prog X.w) X.A (pyIter (.ref s1.heap.objs.size)) (PIE X pins σ tg R') X.xe { s1 with heap := s1.heap.push { cls := .type "dict_values", data := .fields #[.ref b] } } := by
    refine PySem.wpAny_pyIter_values_raw (d := b) ⟨_, Heap.get?_push_size _ rfl, rfl, rfl⟩ (raw.at fun o q => Heap.get?_push_of_some _ q) (pi_one (tk := s1.toks) I2 _ (turn_valsR (d := b) _ hdat hx hp) ⟨_, Heap.get?_push_size _ rfl, rfl, rfl⟩ ?_)
    have hG : ∀ H, Same (hid A f (still ms.objs v) H1) H → H b = some (rawO b o) := fun H q => by
      obtain ⟨o', _, _, hh, _⟩ := h2
      have := hid_sub _ _ hh
      rw [hH] at this
      rw [q _ _ hh, this]
    have hlen : kvs.length = es.length := by simpa using (congrArg List.length h4).symm
    refine g f H1 _ ex (R1.fz z) ⟨fun H => H b = some (rawO b o), fun i H x H' => H' = H ∧ ∃ e, es[i]? = some e ∧ x = e.2.2, ?_, hG, fun i x H H' Hh' it q q2 y hi f' pf => ?_⟩
    · have : (kvs.map fun p => Item.one p.2).length = ents.size := by rw [List.length_map, hlen, hsz]
      rw [this]
      exact ⟨fun _ _ hi q => ⟨q, hi⟩, fun _ q => ⟨q, Nat.le_refl _⟩, fun _ _ _ _ _ _ y => y⟩
    · obtain ⟨rfl, en, hen, rfl⟩ := y
      rw [List.getElem?_map] at hi
      obtain ⟨p, hp1, rfl⟩ := map_some hi
      refine ⟨rfl, RepV.mono q pf _ _ ?_⟩
      obtain ⟨w2, hw2, rw2⟩ := Paired.getR h5 (show (kvs.map (·.2))[i]? = some p.2 by rw [List.getElem?_map, hp1]; rfl)
      rw [List.getElem?_map, hen] at hw2
      cases hw2
      exact rw2
  show wpAny _ _ (callWith cpos (.builtin "dict.values") [.ref b] [] []) _ X.xe s1
  exact method_meetsIn PySem.F.slot_dict_values PySem.F.entry_dict_values rfl (PySem.evalArgs_none ⟨rfl, ty, PySem.F.args_dict_values_1 _, _, PySem.meets_dict_values_raw b hs, ⟨⟨ents, ep, raw⟩, fin⟩⟩)
theorem pi_seq {e : Expr} {E : MS → Out Val} (hc : X.calm = true) (he : PE X e (tE (wx X Φ) Z E)) : PI X tg e (tI (wx X Φ) Z fun s => (E s).bind fun v s1 => walkG .seq [v] s1) := by
  refine ⟨fun pins s σ H R' I h => ?_⟩
  refine thn (he.run pins s σ H _ I (tI_seq h)) fun u s1 ⟨x, H1, I1, r1, A, f, ms, v, R1, rv, g⟩ => ?_
  obtain ⟨its, s2, e1, g1⟩ := go_walk g
  have e1 : seqW [v] ms = some (its, s2) := e1
  unfold seqW at e1
  dsimp only at e1
  split at e1
  · rename_i vs ei
    cases e1
    have z := still_fz ms.objs v
    have ex : Ext f ms.objs H1 f (still ms.objs v) H1 := z.ext
    rcases items_ty ei with ht | ht
    · obtain ⟨a, us, rfl, h1, h2, hv⟩ := still_list ei ht R1 rv
      cases r1
      obtain ⟨itv, rv', p, hz⟩ := I1.list h1
      refine wpAny_pyIter_list p.isList ?_
      refine ⟨s1.heap.objs.size, [s1.heap.objs.size], _, Itl X.K a, H1, rfl, I1.kept (t' := s1.toks) fun b o e => Heap.get?_push_of_some _ e, turn_list a _, ⟨_, Heap.get?_push_size _ rfl, rfl, rfl⟩, fun b hb => ?_, ?_⟩
      · have e : b = s1.heap.objs.size := by simpa using hb
        subst e
        exact I1.fpOk (Nat.le_refl _) (I1.hok.fresh (Nat.le_refl _))
      · exact g1 f H1 (Itl X.K a) ex (R1.fz z) (relW_list h2 hv)
    · obtain ⟨a, us, ds, rfl, rfl, rfl, h1, hp⟩ := items_tuple ei ht R1 rv
      cases r1
      have h2 : SqT X.K (hid A f ms.objs H1) a us := by
        cases rv with
        | @tup _ us' _ h3 h4 =>
          have := I1.tuple_inj h1 (Same.sqT hid_sub h3)
          rw [this]
          exact h3
      obtain ⟨itv, rv', p, hz⟩ := I1.tuple h1
      refine wpAny_pyIter_tuple (show s1.heap.IsTuple a itv.toArray from p) ?_
      refine ⟨s1.heap.objs.size, [s1.heap.objs.size], _, Itt X.K a, H1, rfl, I1.kept (t' := s1.toks) fun b o e => Heap.get?_push_of_some _ e, turn_tuple a _, ⟨_, Heap.get?_push_size _ rfl, rfl, rfl⟩, fun b hb => ?_, ?_⟩
      · have e : b = s1.heap.objs.size := by simpa using hb
        subst e
        exact I1.fpOk (Nat.le_refl _) (I1.hok.fresh (Nat.le_refl _))
      · exact g1 f H1 (Itt X.K a) ex (R1.fz z) (relW_tup h2 (PV_map hp))
  · split at e1
    · rename_i kvs ek
      cases e1
      exact iter_dict hc I1 R1 rv r1 ek g1
    · cases e1
theorem intsF_get : ∀ {n i : Nat} {it : Item} {lo : Int}, (intsF lo n)[i]? = some it → it = .one (.d (.int (lo + i)))
  | 0, i, it, lo, h => by simp [intsF] at h
  | n + 1, 0, it, lo, h => by
    unfold intsF at h
    simp at h
    rw [← h]
    simp
  | n + 1, i + 1, it, lo, h => by
    unfold intsF at h
    rw [List.getElem?_cons_succ] at h
    have := intsF_get (n := n) (i := i) (it := it) (lo := lo + 1) h
    rw [this]
    congr 3
    push_cast
    omega
theorem intsF_len : ∀ (n : Nat) (lo : Int), (intsF lo n).length = n
  | 0, _ => rfl
  | n + 1, lo => by unfold intsF; rw [List.length_cons, intsF_len n]
theorem relW_range {W : Wd} {f : List Addr} {Hh : Hp} {lo : Int} {n : Nat} : RelW W f Hh (Itr lo n) (intsF lo n) := by
  refine ⟨fun _ => True, YFn fun i => .int (lo + i), by rw [intsF_len]; exact walk_range, fun _ _ => trivial, fun i x H H' Hh' it e e2 y hi f' pf => ?_⟩
  obtain ⟨rfl, rfl⟩ := y
  rw [intsF_get hi]
  exact ⟨rfl, Rp.int _⟩
theorem inRange_ok {i : Int} (h : inRange i = true) : -(2 ^ 62) ≤ i ∧ i < 2 ^ 62 := by
  unfold inRange at h
  simpa using h
theorem pi_rng1 {a : Expr} {p pos : Pos} {E : MS → Out (List Val)} (hs : notStar a = true) (hg : Gl X "range") (hm : X.mg "range" = none) (ha : PA X [a] (tA (wx X Φ) Z E)) : PI X tg (.Call (.Name "range" p) [a] [] pos) (tI (wx X Φ) Z fun s => (E s).bind fun vs s1 => walkG .rng1 vs s1) := by
  refine ⟨fun pins s σ H R' I h => (pi_range1 hg hm ha (starEach_cons hs)).run pins s σ H R' I ?_⟩
  obtain ⟨A, f, s, r, h⟩ := h
  refine ⟨A, f, s, r, h.of_bind fun vs s1 f1 H1 xs e1 eX R1 rv g => ?_⟩
  obtain ⟨its, s2, e2, g2⟩ := go_walk g
  replace e2 : rng1W vs s1 = some (its, s2) := e2
  unfold rng1W at e2
  split at e2
  · obtain ⟨x, rfl, rx⟩ := pv1 rv
    split at e2
    · rename_i n hn
      cases e2
      obtain rfl := rep_int rx
      obtain ⟨h1, h2⟩ := inRange_ok hn
      exact ⟨n, rfl, h1, h2, g2 f1 H1 (Itr 0 n.toNat) (Ext.refl _ _ _) R1 relW_range⟩
    · cases e2
  · cases e2
theorem pi_rng2 {a b : Expr} {p pos : Pos} {E : MS → Out (List Val)} (hs : notStar a = true) (hs2 : notStar b = true) (hg : Gl X "range") (hm : X.mg "range" = none) (ha : PA X [a, b] (tA (wx X Φ) Z E)) : PI X tg (.Call (.Name "range" p) [a, b] [] pos) (tI (wx X Φ) Z fun s => (E s).bind fun vs s1 => walkG .rng2 vs s1) := by
  refine ⟨fun pins s σ H R' I h => (pi_range2 hg hm ha (by rw [starEach_cons hs, starEach_cons hs2]; rfl) (starEach_cons hs2)).run pins s σ H R' I ?_⟩
  obtain ⟨A, f, s, r, h⟩ := h
  refine ⟨A, f, s, r, h.of_bind fun vs s1 f1 H1 xs e1 eX R1 rv g => ?_⟩
  obtain ⟨its, s2, e2, g2⟩ := go_walk g
  replace e2 : rng2W vs s1 = some (its, s2) := e2
  unfold rng2W at e2
  split at e2
  · obtain ⟨x, y, rfl, rx, ry⟩ := pv2 rv
    split at e2
    · rename_i a b hn
      cases e2
      obtain rfl := rep_int rx
      obtain rfl := rep_int ry
      rw [Bool.and_eq_true] at hn
      obtain ⟨h1, h2⟩ := inRange_ok hn.1
      obtain ⟨h3, h4⟩ := inRange_ok hn.2
      exact ⟨a, b, rfl, ⟨h1, h2, h3, h4⟩, g2 f1 H1 (Itr a (b - a).toNat) (Ext.refl _ _ _) R1 relW_range⟩
    · cases e2
  · cases e2
end
end MI

set_option Elab.async false
set_option linter.all false
set_option maxRecDepth 100000
set_option maxHeartbeats 1000000
/-! MI: list comprehensions. -/
namespace MI
open PySem PySem.Spec L2
open PyProof.Rows hiding St

section
variable {W : Wd} {A : Addr → Prop} {f : List Addr} {s : MS} {σ : St} {H : Hp}
abbrev AD (A : Addr → Prop) (D : Addr) : Addr → Prop := fun b => A b ∨ b = D
theorem R.withEnv {f' : List Addr} {s' : MS} {σ' : St} {H' : Hp} {A0 : Addr → Prop} (r : R W A f' s' σ' H') (e : R W A0 f s σ H) (x : ∀ u v, RepV W f (hid A0 f s.objs H) u v → RepV W f' (hid A f' s'.objs H') u v) : R W A f' { s' with env := s.env } σ H' :=
  ⟨r.len, r.nd, r.hA, r.disj, r.obj, fun i v h => by
    obtain ⟨u, h1, h2⟩ := e.env i v h
    exact ⟨u, h1, x u v h2⟩, e.elen, r.tabs⟩
theorem wipeE_length (env : List (Option Val)) : ∀ own : List Nat, (wipeE env own).length = env.length
  | [] => rfl
  | v :: vs => by unfold wipeE; rw [List.length_set, wipeE_length env vs]
theorem wipeE_some {env : List (Option Val)} {i : Nat} {x : Val} : ∀ {own : List Nat}, (wipeE env own)[i]? = some (some x) → env[i]? = some (some x) ∧ i ∉ own
  | [], h => ⟨h, by simp⟩
  | v :: vs, h => by
    unfold wipeE at h
    by_cases hi : v = i
    · subst hi
      by_cases hv : v < (wipeE env vs).length
      · rw [List.getElem?_set_self hv] at h; cases h
      · rw [List.getElem?_eq_none (by simpa using hv)] at h; cases h
    · rw [List.getElem?_set_ne hi] at h
      obtain ⟨h1, h2⟩ := wipeE_some h
      exact ⟨h1, by simp only [List.mem_cons, not_or]; exact ⟨fun e => hi e.symm, h2⟩⟩
theorem wipe_at {σ : St} {i : Nat} : ∀ {own : List Nat}, i ∉ own → (wipe σ own)[i]? = σ[i]?
  | [], _ => rfl
  | v :: vs, h => by
    simp only [List.mem_cons, not_or] at h
    unfold wipe
    rw [List.getElem?_set_ne (Ne.symm h.1), wipe_at h.2]
theorem wipe_wipe (σ : St) : ∀ own : List Nat, wipe (wipe σ own) own = wipe σ own := by
  have key : ∀ (own : List Nat) (τ : St), (∀ i ∈ own, ∀ x, τ[i]? ≠ some (some x)) → wipe τ own = τ := by
    intro own
    induction own with
    | nil => intro τ _; rfl
    | cons v vs ih =>
      intro τ h
      unfold wipe
      rw [ih τ fun i hi => h i (List.mem_cons_of_mem _ hi)]
      apply List.ext_getElem?
      intro j
      by_cases hj : v = j
      · subst hj
        by_cases hl : v < τ.length
        · rw [List.getElem?_set_self hl]
          have := h v List.mem_cons_self
          cases e : τ[v]? with
          | none => rw [List.getElem?_eq_none_iff] at e; omega
          | some o =>
            cases o with
            | none => rfl
            | some x => exact absurd e (this x)
        · rw [List.getElem?_eq_none (by simpa using hl), List.getElem?_eq_none (by omega)]
      · rw [List.getElem?_set_ne hj]
  intro own
  exact key own _ fun i hi x e => (wipe_some e).2 hi
theorem R.wiped {own : List Nat} (r : R W A f s σ H) : R W A f { s with env := wipeE s.env own } (wipe σ own) H :=
  ⟨r.len, r.nd, r.hA, r.disj, r.obj, fun i v h => by
    obtain ⟨h1, h2⟩ := wipeE_some h
    obtain ⟨u, e1, e2⟩ := r.env i v h1
    exact ⟨u, by rw [wipe_at h2]; exact e1, e2⟩, by rw [wipe_length]; exact (wipeE_length s.env own).trans r.elen, r.tabs⟩
/-- a new hidden object -/
theorem hid_AD {D : Addr} {o : HO} (hD : H D = none) (r : R W A f s σ H) : hid (AD A D) f s.objs (upd H D o) = hid A f s.objs H := by
  funext b
  unfold hid
  by_cases e : b = D
  · subst e
    rw [if_pos (.inl (.inr rfl))]
    split
    · rfl
    · exact hD.symm
  · rw [upd_ne e]
    by_cases h : A b ∨ InU f s.objs b ∨ ∃ ps, H b = some (.tbl ps)
    · rw [if_pos h, if_pos]
      rcases h with h | h
      · exact .inl (.inl h)
      · exact .inr h
    · rw [if_neg h, if_neg]
      rintro ((h1 | h1) | h1)
      · exact h (.inl h1)
      · exact e h1
      · exact h (.inr h1)
theorem R.hideNew {D : Addr} {o : HO} (hD : H D = none) (no : NoTbl o ∧ ∀ q, o ≠ LamX.CodeO D q) (r : R W A f s σ H) : R W (AD A D) f s σ (upd H D o) := by
  have e := hid_AD (o := o) hD r
  have nf : D ∉ f := fun z => r.at_ z hD
  refine ⟨r.len, r.nd, fun b hb => ?_, fun b hb z => ?_, fun n m a h1 h2 => ?_, fun i v h => ?_, r.elen, r.tabs.ext (same_upd hD)⟩
  · rcases hb with hb | rfl
    · rw [upd_ne fun z => r.nA hD (by rw [← z]; exact hb)]
      exact r.hA b hb
    · exact ⟨o, upd_same, no⟩
  · rcases z with z | rfl
    · exact r.disj b hb z
    · exact nf hb
  · rw [e]
    exact (r.obj n m a h1 h2).mono (fun _ _ z => z) (fun _ _ z => z) (upd_ne fun z => nf (z ▸ List.mem_of_getElem? h2))
  · rw [e]
    exact r.env i v h
/-- a hidden object is changed -/
theorem hid_upd {D : Addr} {o o' : HO} (hA : A D) : hid A f s.objs (upd H D o') = hid A f s.objs H := by
  funext b
  unfold hid
  by_cases e : b = D
  · subst e
    rw [if_pos (.inl hA), if_pos (.inl hA)]
  · rw [upd_ne e]
theorem R.hidden {D : Addr} {o o' : HO} (r : R W A f s σ H) (hA : A D) (hD : H D = some o) (n : NoTbl o ∧ ∀ q, o ≠ LamX.CodeO D q) (no : NoTbl o' ∧ ∀ q, o' ≠ LamX.CodeO D q) : R W A f s σ (upd H D o') := by
  have e : hid A f s.objs (upd H D o') = hid A f s.objs H := hid_upd (o := o) hA
  have nf : D ∉ f := fun z => r.disj D z hA
  refine ⟨r.len, r.nd, fun b hb => ?_, r.disj, fun k m a h1 h2 => ?_, fun i v h => ?_, r.elen, tabs_store r.tabs hD n⟩
  · by_cases z : b = D
    · exact ⟨o', by rw [z, upd_same], by rw [z]; exact no⟩
    · rw [upd_ne z]; exact r.hA b hb
  · rw [e]
    exact (r.obj k m a h1 h2).mono (fun _ _ z => z) (fun _ _ z => z) (upd_ne fun z => nf (z ▸ List.mem_of_getElem? h2))
  · rw [e]
    exact r.env i v h
/-- the hidden list is an own one -/
theorem hid_reveal {D : Addr} {mo : MO} (hl : mo.live = true) (he : f.length = s.objs.length) : hid A (f ++ [D]) (s.objs ++ [mo]) H = hid (AD A D) f s.objs H := by
  funext b
  unfold hid
  have iff : InU (f ++ [D]) (s.objs ++ [mo]) b ↔ InU f s.objs b ∨ b = D := by
    constructor
    · rintro ⟨n, o, h1, h2, h3⟩
      by_cases hn : n < f.length
      · rw [List.getElem?_append_left hn] at h1
        rw [List.getElem?_append_left (by omega)] at h2
        exact .inl ⟨n, o, h1, h2, h3⟩
      · rw [List.getElem?_append_right (by omega)] at h1
        cases q : n - f.length with
        | zero => rw [q] at h1; simp at h1; exact .inr h1.symm
        | succ k => rw [q] at h1; simp at h1
    · rintro (⟨n, o, h1, h2, h3⟩ | rfl)
      · refine ⟨n, o, ?_, ?_, h3⟩
        · rw [List.getElem?_append_left (List.getElem?_eq_some_iff.mp h1).1]; exact h1
        · rw [List.getElem?_append_left (List.getElem?_eq_some_iff.mp h2).1]; exact h2
      · exact ⟨f.length, mo, by simp, by rw [he]; simp, hl⟩
  have : (A b ∨ InU (f ++ [D]) (s.objs ++ [mo]) b ∨ ∃ ps, H b = some (.tbl ps)) ↔ ((A b ∨ b = D) ∨ InU f s.objs b ∨ ∃ ps, H b = some (.tbl ps)) := by
    rw [iff]
    constructor
    · rintro (h | (h | h) | h)
      · exact .inl (.inl h)
      · exact .inr (.inl h)
      · exact .inl (.inr h)
      · exact .inr (.inr h)
    · rintro ((h | h) | h | h)
      · exact .inl h
      · exact .inr (.inl (.inr h))
      · exact .inr (.inl (.inl h))
      · exact .inr (.inr h)
  by_cases h : (A b ∨ b = D) ∨ InU f s.objs b ∨ ∃ ps, H b = some (.tbl ps)
  · rw [if_pos h, if_pos (this.mpr h)]
  · rw [if_neg h, if_neg fun z => h (this.mp z)]
theorem R.reveal {D : Addr} {mo : MO} (r : R W (AD A D) f s σ H) (hl : mo.live = true) (nA : ¬ A D) (hp : ObjR W (f ++ [D]) (hid (AD A D) f s.objs H) H D mo) : R W A (f ++ [D]) { s with objs := s.objs ++ [mo] } σ H := by
  have e : hid A (f ++ [D]) (s.objs ++ [mo]) H = hid (AD A D) f s.objs H := hid_reveal hl r.len
  have nf : D ∉ f := fun z => r.disj D z (.inr rfl)
  refine ⟨by simp [r.len], ?_, fun b hb => r.hA b (.inl hb), fun b hb z => ?_, fun n o a h1 h2 => ?_, fun i v h => ?_, r.elen, r.tabs⟩
  · rw [List.nodup_append]
    exact ⟨r.nd, by simp, fun a ha b hb z => nf (by simp at hb; rw [← hb, ← z]; exact ha)⟩
  · rcases List.mem_append.mp hb with hb | hb
    · exact r.disj b hb (.inl z)
    · simp at hb
      exact nA (hb ▸ z)
  · show ObjR W (f ++ [D]) (hid A (f ++ [D]) (s.objs ++ [mo]) H) H a o
    rw [e]
    by_cases hn : n < f.length
    · rw [List.getElem?_append_left hn] at h2
      have h1' : (s.objs ++ [mo])[n]? = some o := h1
      rw [List.getElem?_append_left (by rw [← r.len]; exact hn)] at h1'
      exact (r.obj n o a h1' h2).mono (fun u v z => RepV.mono (fun _ _ z => z) ⟨[D], rfl⟩ u v z) (fun _ _ z => z) rfl
    · rw [List.getElem?_append_right (by omega)] at h2
      have h1' : (s.objs ++ [mo])[n]? = some o := h1
      rw [List.getElem?_append_right (by rw [← r.len]; omega)] at h1'
      cases q : n - f.length with
      | zero =>
        rw [q] at h2
        rw [← r.len, q] at h1'
        simp at h1' h2
        subst h1' h2
        exact hp
      | succ k => rw [q] at h2; simp at h2
  · show ∃ u, σ[i]? = some (some u) ∧ RepV W (f ++ [D]) (hid A (f ++ [D]) (s.objs ++ [mo]) H) u v
    rw [e]
    obtain ⟨u, h1, h2⟩ := r.env i v h
    exact ⟨u, h1, RepV.mono (fun _ _ z => z) ⟨[D], rfl⟩ u v h2⟩
end

section
variable {X : Cx} {Φ : Fx} {Z : L2.WX}
def Z0 : L2.WX := fun _ _ _ _ => False
/-- what a block's evaluation tells: data behind, or nothing at all -/
theorem go_block {α β : Type} {W : Wx} {Rel : List Addr → Hp → α → β → Prop} {A : Addr → Prop} {f : List Addr} {os : List MO} {σ : St} {H : Hp} {Q : α → Hp → Prop} {o : Out β} {b : β} {s' : MS} (e : o = .ok b s')
    (h : ∀ f' H' a, Ext f os H f' s'.objs H' → R W.toWd A f' s' σ H' → Rel f' (hid A f' s'.objs H') a b → Q a H') : GoO W Z0 Rel A f os σ H Q o := by
  rw [e]
  exact h
theorem lcG_tLc {t : MT} {F : MS → Out (List Item)} {T : MS → Out Bool} {E : MS → Out Val} {own : List Nat} {σ : St} {H : Hp} {Q : VK} (hown : ∀ i ∈ t.slots, i ∈ own)
    (h : tE (wx X Φ) Z (fun s => (F s).bind fun its s2 => lcG (asgI t) T E own its s2) σ H Q) : tLc (tI (wx X Φ) Z F) (gM X.K t) (tT (wx X Φ) Z0 T) (tE (wx X Φ) Z0 E) own σ H Q := by
  obtain ⟨A, f, s, r, h⟩ := h
  refine ⟨A, f, s, r, h.of_bind fun its s1 f1 H1 J e1 eX R1 rw g D hD => ?_⟩
  obtain ⟨G, Y, hw, hG, hY⟩ := rw
  unfold lcG at g
  split at g
  rotate_left
  · exact g.elim
  rename_i hsz
  have hsz := sizeOk_of hsz
  have hAD : ¬ A D := R1.nA hD
  refine lc_it hw (fun i H' => ∃ f' s' us vs, Ext f1 s1.objs H1 f' s'.objs H' ∧ Same (hid A f1 s1.objs H1) (hid (AD A D) f' s'.objs H') ∧ R (wx X Φ).toWd (AD A D) f' { s' with env := wipeE s1.env own } (wipe σ own) H' ∧ H' D = some (.lst us) ∧ us.length ≤ i ∧
      PV (wx X Φ).toWd f' (hid (AD A D) f' s'.objs H') us vs ∧ GoO (wx X Φ) Z (RlV (wx X Φ)) A f1 s1.objs σ H1 Q ((lcL (asgI t) T E (wipeE s1.env own) (its.drop i) s').bind fun xs s3 => if noFns (vs ++ xs) then newLst { s3 with env := s1.env } (vs ++ xs) else .bad))
    ?_ (fun i H' _ ⟨f', s', us, vs, ex, sm, R', _⟩ => hG H' fun b o e => hid_sub b o (sm b o e)) (fun i x H' H'' hlt ⟨f', s', us, vs, ex, sm, R', hus, hul, hv, g'⟩ y => ?_) fun H' ⟨f', s', us, vs, ex, sm, R', hus, hul, hv, g'⟩ => ?_
  · have e0 := hid_AD (o := .lst []) hD R1
    exact ⟨f1, s1, [], [], Ext.of_same (same_upd hD), by rw [e0]; exact fun _ _ z => z, (R1.hideNew hD ⟨fun _ z => (by cases z), fun _ z => (by unfold LamX.CodeO at z; cases z)⟩).wiped, upd_same, Nat.le_refl _, .nil, by simpa using g⟩
  · obtain ⟨it, hit⟩ : ∃ it, its[i]? = some it := ⟨its[i], by simp [hlt]⟩
    have hd : its.drop i = it :: its.drop (i + 1) := by
      rw [List.drop_eq_getElem_cons hlt]
      congr 1
      rw [List.getElem?_eq_getElem hlt] at hit
      exact Option.some.inj hit
    rw [hd] at g'
    unfold lcL at g'
    split at g'
    · exact g'.elim
    · rename_i s2 ea
      have ri := hY i x H' H'' (hid (AD A D) f' s'.objs H') it sm hid_sub y hit f' ex.pre
      refine gi_ok ea R' ri fun σ2 ho ex2 oa R2 => ⟨?_, ?_⟩
      · rw [oa own hown, wipe_wipe]
      · have exA : Ext f' s'.objs H' f' s2.objs H'' := by rw [ho]; exact ex2
        have no0 : NoTbl (HO.lst us) ∧ ∀ q, (HO.lst us) ≠ LamX.CodeO D q := ⟨fun _ z => (by cases z), fun _ z => (by unfold LamX.CodeO at z; cases z)⟩
        have keepD : ∀ {fa : List Addr} {sa : MS} {σa : St} {Ha Hb : Hp} {fb : List Addr} {ob : List MO}, R (wx X Φ).toWd (AD A D) fa sa σa Ha → Ha D = some (.lst us) → Ext fa sa.objs Ha fb ob Hb → Hb D = some (.lst us) := fun {fa sa σa Ha Hb fb ob} ra e x => x.keep D _ e (fun z => ra.disj D z.mem (.inr rfl)) no0.1
        have hus2 : H'' D = some (.lst us) := keepD R' hus ex2
        refine ⟨AD A D, f', s2, R2, ?_⟩
        cases eT : T s2 with
        | bad => rw [eT] at g'; exact g'.elim
        | exc c z s3 => rw [eT] at g'; exact g'.elim
        | ok b s3 =>
          intro f3 H3 b' ex3 R3 eb
          cases eb
          have hus3 : H3 D = some (.lst us) := keepD R2 hus2 ex3
          have ex03 : Ext f' s'.objs H' f3 s3.objs H3 := exA.trans ex3
          rw [eT] at g'
          cases b with
          | false =>
            rw [if_neg Bool.false_ne_true]
            exact ⟨f3, s3, us, vs, ex.trans ex03, fun b o e => ex03.same b o (sm b o e), R3.withEnv R' fun u v z => RepV.ext ex03 z, hus3, by omega, PV.ext ex03 hv, g'⟩
          | true =>
            rw [if_pos rfl]
            refine ⟨AD A D, f3, s3, R3, ?_⟩
            dsimp only at g'
            cases eE : E s3 with
            | bad => rw [eE] at g'; exact g'.elim
            | exc c z s4 => rw [eE] at g'; exact g'.elim
            | ok v s4 =>
              rw [eE] at g'
              intro f4 H4 y ex4 R4 ry
              have hus4 : H4 D = some (.lst us) := keepD R3 hus3 ex4
              have ex04 : Ext f' s'.objs H' f4 s4.objs H4 := ex03.trans ex4
              refine ⟨us, hus4, by omega, f4, s4, us ++ [y], vs ++ [v], ?_, ?_, ?_, upd_same, by simp; omega, ?_, ?_⟩
              · have e5 := ex.trans ex04
                refine ⟨e5.pre, fun b o e q n => ?_, fun b hb => e5.newU b hb⟩
                rw [upd_ne fun z => by rw [z, hD] at e; cases e]
                exact e5.keep b o e q n
              · rw [hid_upd (o := .lst us) (s := s4) (A := AD A D) (.inr rfl)]
                exact fun b o e => ex04.same b o (sm b o e)
              · exact (R4.withEnv R' fun u v z => RepV.ext ex04 z).hidden (.inr rfl) hus4 no0 ⟨fun _ z => (by cases z), fun _ z => (by unfold LamX.CodeO at z; cases z)⟩
              · rw [hid_upd (o := .lst us) (s := s4) (A := AD A D) (.inr rfl)]
                exact Paired.app (PV.ext ex04 hv) (.cons ry .nil)
              · have e6 : ∀ o : Out (List Val), (o.bind fun vs' s4 => Out.ok (v :: vs') s4).bind (fun xs s3 => if noFns (vs ++ xs) then newLst { s3 with env := s1.env } (vs ++ xs) else .bad) = o.bind fun xs s3 => if noFns (vs ++ [v] ++ xs) then newLst { s3 with env := s1.env } (vs ++ [v] ++ xs) else .bad := by
                  intro o
                  cases o with
                  | ok a s => simp [Out.bind]
                  | exc c x s => rfl
                  | bad => rfl
                rw [← e6]
                exact g'
  · rw [List.drop_eq_nil_of_le (Nat.le_refl _)] at g'
    unfold lcL at g'
    simp only [Out.bind, List.append_nil] at g'
    split at g'
    · unfold newLst at g'
      split at g'
      · unfold newObj at g'
        have hl : f'.length = s'.objs.length := R'.len
        have hp : ObjR (wx X Φ).toWd (f' ++ [D]) (hid (AD A D) f' s'.objs H') H' D (.lst vs true) := ⟨us, hus, pv_up (fun _ _ z => z) ⟨[D], rfl⟩ hv⟩
        have R5 := R'.reveal (mo := .lst vs true) rfl hAD hp
        have e5 : Ext f1 s1.objs H1 (f' ++ [D]) (s'.objs ++ [MO.lst vs true]) H' := by
          obtain ⟨t1, et⟩ := ex.pre
          refine ⟨⟨t1 ++ [D], by rw [et, List.append_assoc]⟩, ex.keep, fun b hb => ?_⟩
          obtain ⟨n, o, h1, h2, h3⟩ := hb
          by_cases hn : n < f'.length
          · rw [List.getElem?_append_left hn] at h1
            rw [List.getElem?_append_left (by omega)] at h2
            exact ex.newU b ⟨n, o, h1, h2, h3⟩
          · rw [List.getElem?_append_right (by omega)] at h1
            cases q : n - f'.length with
            | zero => rw [q] at h1; simp at h1; rw [← h1]; exact .inr fun u q => by rw [hD] at q; cases q
            | succ k => rw [q] at h1; simp at h1
        refine g' (f' ++ [D]) H' (.ref D) e5 ?_ ⟨D, by rw [← hl]; simp, rfl⟩
        exact R.withEnv (s := s1) R5 R1 fun u v z => RepV.ext e5 z
      · exact g'.elim
    · exact g'.elim
end
end MI

set_option Elab.async false
set_option linter.all false
set_option maxRecDepth 100000
set_option maxHeartbeats 1000000
/-! MI: dict comprehensions with keys of any kind. -/
namespace MI
open PySem PySem.Spec L2
open PyProof.Rows hiding St

section
variable {X : Cx}
/-- {k: v for target in iter if ..}: D the new dict, a raw object -/
def tDr (P : Program) (w : World) (K : PySem.W.Frag) (wi : TI) (g : TG) (tt : TT) (tk tv : TE) (vs : List Nat) : TE := fun σ H Q => wi σ H fun J H1 => ∀ D o, H1 D = none → (∀ H' : Hp, H' D = some (rawO D o) → DcA w H' D []) →
  ∃ W : Nat → Nat → Hp → Prop, (∃ m, W 0 m (upd H1 D (rawO D o))) ∧ ∀ i m H, W i m H →
    (J.stop i H ∧ Q (.ref D) H) ∨ (J.go i H ∧ ∃ Nx : Hp → Prop, (∀ H', Nx H' → ∃ m', m' < m ∧ W (i + 1) m' H') ∧ ∀ x H', J.yld i H x H' → g x (wipe σ vs) H' fun σ2 H2 => wipe σ2 vs = wipe σ vs ∧ tt σ2 H2 fun b H3 =>
      if b = true then tk σ2 H3 fun y H4 => tv σ2 H4 fun z H5 => ∃ es d, DcA w H5 D es ∧ RpA P w K H5 (es.map (·.1)) (es.map (·.2.1)) ∧ Rp P w K H5 y d ∧ isKey d = true ∧ (es.all fun e => keyFit d e.2.1) = true ∧ es.length < sizeLine ∧
        ∀ o', (∀ H' : Hp, H' D = some (rawO D o') → DcA w H' D (putE y d z es)) → Nx (upd H5 D (rawO D o')) else Nx H3)
abbrev BlkPE (X : Cx) (scope : Scope) (e : Expr) (t : TE) : Prop := ∀ (s : Shared) (H : Hp) (C : Addr) (cl : List (Str × Addr)) (fp : List Addr), PE (X.blk s H scope (compEnvC scope cl C X.env) fp) e t
abbrev BlkPG (X : Cx) (scope : Scope) (e : Expr) (t : TG) : Prop := ∀ (s : Shared) (H : Hp) (C : Addr) (cl : List (Str × Addr)) (fp : List Addr), PG (X.blk s H scope (compEnvC scope cl C X.env) fp) e t
abbrev BlkPTs (X : Cx) (scope : Scope) (e : List Expr) (t : TT) : Prop := ∀ (s : Shared) (H : Hp) (C : Addr) (cl : List (Str × Addr)) (fp : List Addr), PTs (X.blk s H scope (compEnvC scope cl C X.env) fp) e t
theorem pe_dcR {kx vx tg iter : Expr} {ifs : List Expr} {scope : Scope} {own : List (Str × Nat)} {pos : Pos} {wi : TI} {g : TG} {tt : TT} {tk tv : TE} (hu : X.A.units + 65 < cLine) (hc : X.calm = true) (hN : X.N.Nodup) (hi : PI X tg iter wi) (ok : BlkOk X.N X.env.scope scope own)
    (hg : BlkPG X scope tg g) (ht : BlkPTs X scope ifs tt) (hk : BlkPE X scope kx tk) (he : BlkPE X scope vx tv) (hs : ∀ x, foldedSetIterable iter X.env x = pure x) :
    PE X (.DictComp kx vx [⟨tg, iter, ifs, 0⟩] scope pos) (tDr X.prog X.w X.K wi g tt tk tv (own.map (·.2))) := by
  refine ⟨fun pins s σ H Q I h => ?_⟩
  rw [arm_eval_DictComp]
  have free : ∀ y ∈ scope.names, y.2 = .free → ∃ c, X.env.cells.lookup y.1 = some c := fun y hy e => (ok.free y hy e).elim (fun k => I.ok.has _ (.inl k)) fun k => I.ok.has _ (.inr k)
  refine wpAny_comprehension_free (use := none) rfl hs (closure_ok free) ok.kind (fun y hy e => by rw [ok.uniq y hy, e]) (thn (hi.run pins s σ H _ I h) fun xv sa hx => thn hx fun itv sb hb => ?_)
  obtain ⟨it, fp, tn, J, Hb, rfl, Ib, T, stb, fb, q⟩ := hb
  refine wpAny_newObj_type (newEnv_comp ?_)
  generalize hD : sb.heap.objs.size = D
  have hDn : Hb D = none := Ib.hok.fresh (Nat.le_of_eq hD)
  generalize hsc : ({ sb with heap := sb.heap.push { cls := .type "dict", data := .dict #[] } } : Shared) = sc
  have hsc' : sc.heap = sb.heap.push { cls := .type "dict", data := .dict #[] } := by rw [← hsc]
  have Ik : L2.Inv X pins σ (upd Hb D (.dK [])) sc := by
    rw [← hsc]
    refine Ib.laid (t' := sb.toks) (fun b o e => Heap.get?_push_of_some _ e) (Nat.le_of_eq hD) ?_
    rw [← hD]
    exact dk_empty sb.heap Ib.big
  obtain ⟨o, Ic, hdc⟩ := dct_empty Ik
  obtain ⟨W, ⟨m0, w0⟩, turn⟩ := q D o hDn hdc
  generalize hHc : upd Hb D (rawO D o) = Hc at Ic w0
  have low : ∀ b ∈ fp, b < sb.heap.objs.size := fun b hb => by
    obtain ⟨u, e, _⟩ := T.obj _ _ stb b hb
    exact Heap.lt_size e
  have fc : ∀ b ∈ fp, FpOk X pins Hc b ∧ b < sc.heap.objs.size := fun b hb => by
    refine ⟨⟨?_, (fb b hb).2⟩, by rw [hsc', Heap.size_push]; exact Nat.lt_succ_of_lt (low b hb)⟩
    rw [← hHc, upd_ne (by rw [← hD]; exact Nat.ne_of_lt (low b hb))]
    exact (fb b hb).1
  have stc : tn 0 sc.heap := T.keep _ _ _ stb fun b _ u e => by rw [hsc']; exact Heap.get?_push_of_some _ e
  have Id := block_start Ic ok hN fc
  have pg := hg sc Hc sc.heap.objs.size (cellsFrom (sc.heap.objs.size + 1) scope.names (cloFrom X.env.cells scope.names [])) fp
  have pt := ht sc Hc sc.heap.objs.size (cellsFrom (sc.heap.objs.size + 1) scope.names (cloFrom X.env.cells scope.names [])) fp
  have pk := hk sc Hc sc.heap.objs.size (cellsFrom (sc.heap.objs.size + 1) scope.names (cloFrom X.env.cells scope.names [])) fp
  have pv := he sc Hc sc.heap.objs.size (cellsFrom (sc.heap.objs.size + 1) scope.names (cloFrom X.env.cells scope.names [])) fp
  show codeAny _ _ (.compStart (.DictComp kx vx [⟨tg, iter, ifs, 0⟩] scope pos) 0 (.ref it) (.ref D) (compEnvC scope (cellsFrom (sc.heap.objs.size + 1) scope.names (cloFrom X.env.cells scope.names [])) sc.heap.objs.size X.env)) (compPost (model X.prog X.w) X.A X.xe none (EP X pins σ Q) (.ref D) sc.heap.objs.size) { sc with heap := pushCells (sc.heap.push { cls := .type "dict", data := .dict #[] }) scope.names }
  generalize hce : compEnvC scope (cellsFrom (sc.heap.objs.size + 1) scope.names (cloFrom X.env.cells scope.names [])) sc.heap.objs.size X.env = ce at Id pg pt pk pv ⊢
  have cL : ce.locals = sc.heap.objs.size := by subst hce; rfl
  generalize hsd : ({ sc with heap := pushCells (sc.heap.push { cls := .type "dict", data := .dict #[] }) scope.names } : Shared) = sd at Id ⊢
  have std : tn 0 sd.heap := T.keep _ _ _ stc fun b _ u e => by rw [← hsd]; exact pushCells_keeps _ _ _ _ (Heap.get?_push_of_some _ e)
  have nfp : ∀ b ∈ fp, Hc b = none := fun b hb => (fc b hb).1.1
  have stat : ∀ {σ' : St} {H' : Hp} {s' : Shared}, L2.Inv (X.blk sc Hc scope ce fp) [] σ' H' s' → (∀ b ∈ fp, H' b = none) → ∀ b ∈ fp, FpOk (X.blk sc Hc scope ce fp) [] H' b := fun {σ' H' s'} I' hn b hb =>
    ⟨hn b hb, (I'.ok.exf b hb).1, I'.ok.exfs b hb, .inl hb, fun x c e => (I'.ok.exf b hb).2 x c e, fun p hp => absurd (show p ∈ ([] : List (Addr × Obj)) ++ [] from hp) (by simp)⟩
  have loop : codeAny (model X.prog X.w) X.A (.compLoop (.DictComp kx vx [⟨tg, iter, ifs, 0⟩] scope pos) 0 (.ref it) (.ref D) ce) (compPost (model X.prog X.w) X.A X.xe none (EP X pins σ Q) (.ref D) sc.heap.objs.size) sd := by
    refine compLoop_anyD (fun n s' => ∃ i H', L2.Inv (X.blk sc Hc scope ce fp) [] (wipe σ (own.map (·.2))) H' s' ∧ tn i s'.heap ∧ (∀ b ∈ fp, H' b = none) ∧ W i n H') ?_ m0 ⟨0, Hc, Id, std, nfp, w0⟩
    rintro n s5 ⟨i, H5, I5, st5, n5, w5⟩
    rcases turn i n H5 w5 with ⟨stop, qq⟩ | ⟨go, Nx, hNx, step⟩
    · have td := T.done (X.blk sc Hc scope ce fp) rfl rfl rfl hc i [] s5 _ H5 (fun _ _ => False) I5 (stat I5 n5) st5 stop
      refine thnF td fun r s6 ⟨hr, I6⟩ => ?_
      subst hr
      have I7 : L2.Inv X pins σ H5 s6 := Ic.call' (ch := fp) I6.os I6.base I6.hok I6.bare fun b hb => ⟨(fc b hb).1.2.2.2.1, (fc b hb).1.2.1, (fc b hb).1.2.2.2.2.1, (fc b hb).1.2.2.2.2.2⟩
      have nC : H5 sc.heap.objs.size = none := by
        rw [← cL]
        exact I6.free
      obtain ⟨m, hn, _⟩ := I6.loc
      replace hn : s6.heap.Ns ce.locals m := hn
      rw [cL] at hn
      obtain ⟨f0, f1, f2, f3, f4, f5⟩ := Ic.fpOk (Nat.le_refl _) nC
      exact ⟨m, hn, fun h'' sb => ⟨.ref D, H5, I7.turned (t' := s6.toks) (fun b u hb e => (sb.2 b hb).trans e) f0 f1 f3 f4 f5, rfl, qq⟩⟩
    · have ti := T.item (X.blk sc Hc scope ce fp) rfl rfl rfl hc i [] s5 _ H5 (fun _ _ => False) I5 (stat I5 n5) st5 go
      refine thnF ti fun r s6 ⟨u, hr, h6⟩ => ?_
      subst hr
      refine thnF h6 fun _ s7 ⟨x, H7, I7, r7, y7, st7, n7⟩ => ?_
      have I7' := I7.pinned (stat I7 n7) (T.obj _ _ st7)
      refine thnF (pg.run _ s7 _ H7 x u _ I7' r7 (step x H7 y7)) fun _ s8 ⟨σ8, H8, I8, hw8, q8⟩ => thnF (pt.run _ s8 σ8 H8 _ I8 q8) fun b s9 ⟨H9, I9, q9⟩ => ?_
      have fin : ∀ {s' : Shared} {H' : Hp}, L2.Inv (X.blk sc Hc scope ce fp) ([] ++ pinsAt fp s7.heap) σ8 H' s' → Nx H' → ∃ m, m < n ∧ ∃ i H', L2.Inv (X.blk sc Hc scope ce fp) [] (wipe σ (own.map (·.2))) H' s' ∧ tn i s'.heap ∧ (∀ b ∈ fp, H' b = none) ∧ W i m H' := fun {s' H'} I' nx => by
        obtain ⟨m', hm, w'⟩ := hNx H' nx
        have pin' : ∀ b ∈ fp, ∀ u, s7.heap.get? b = some u → s'.heap.get? b = some u ∧ H' b = none := fun b hb u e =>
          let z := I'.pin (b, u) (List.mem_append_right _ (List.mem_append_right _ (mem_pinsAt hb e)))
          ⟨z.1, z.2.1⟩
        refine ⟨m', hm, i + 1, H', (I'.unpinned (pins := [])).weak (by rw [← hw8, wipe_length]) (fun j v e => ?_), T.keep _ _ _ st7 fun b hb u e => (pin' b hb u e).1, fun b hb => ?_, w'⟩
        · rw [← hw8] at e
          exact (L2.wipe_some e).1
        · obtain ⟨u, e, _⟩ := T.obj _ _ st7 b hb
          exact (pin' b hb u e).2
      cases b with
      | false =>
        simp only [Bool.false_eq_true, if_false] at q9 ⊢
        exact fin I9 q9
      | true =>
        simp only [if_true] at q9 ⊢
        refine thnF (pk.run _ s9 σ8 H9 _ I9 q9) fun z sA ⟨yk, HA, IA, rA, qA⟩ => thnF (pv.run _ sA σ8 HA _ IA qA) fun z2 sB ⟨yv, HB, IB, rB, es, d, h1, h2, h3, h4, h5, h6, nx⟩ => ?_
        have dv := dct_view IB h1 h2 h3 h4 h5
        exact raw_dictSet (X := X.blk sc Hc scope ce fp) (show (X.blk sc Hc scope ce fp).A.units + 9 < cLine by show X.A.units + 9 < cLine; omega) IB dv h4 h5 h6 rA rB fun o' s' J hd' => fin J (nx o' hd')
  exact codeAny_compStart_dict loop (T.self X.A 0 _ _ _ std loop)
/-- a walk, for a raw dict -/
theorem dr_it {P : Program} {w : World} {K : PySem.W.Frag} {J : It} {n : Nat} {G : Hp → Prop} {Y : Nat → Hp → V → Hp → Prop} (wk : Walk J n G Y) {g : TG} {tt : TT} {tk tv : TE} {vs : List Nat} {σ : St} {H1 : Hp} {D : Addr} {o : Obj} {Qd : Hp → Prop} (Pv : Nat → Hp → Prop) (h0 : Pv 0 (upd H1 D (rawO D o))) (hG : ∀ i H, i ≤ n → Pv i H → G H)
    (hs : ∀ i x H H', i < n → Pv i H → Y i H x H' → g x (wipe σ vs) H' fun σ2 H2 => wipe σ2 vs = wipe σ vs ∧ tt σ2 H2 fun b H3 =>
      if b = true then tk σ2 H3 fun y H4 => tv σ2 H4 fun z H5 => ∃ es d, DcA w H5 D es ∧ RpA P w K H5 (es.map (·.1)) (es.map (·.2.1)) ∧ Rp P w K H5 y d ∧ isKey d = true ∧ (es.all fun e => keyFit d e.2.1) = true ∧ es.length < sizeLine ∧
        ∀ o', (∀ H' : Hp, H' D = some (rawO D o') → DcA w H' D (putE y d z es)) → Pv (i + 1) (upd H5 D (rawO D o')) else Pv (i + 1) H3) (hd : ∀ H, Pv n H → Qd H) :
    ∃ W : Nat → Nat → Hp → Prop, (∃ m, W 0 m (upd H1 D (rawO D o))) ∧ ∀ i m H, W i m H →
      (J.stop i H ∧ Qd H) ∨ (J.go i H ∧ ∃ Nx : Hp → Prop, (∀ H', Nx H' → ∃ m', m' < m ∧ W (i + 1) m' H') ∧ ∀ x H', J.yld i H x H' → g x (wipe σ vs) H' fun σ2 H2 => wipe σ2 vs = wipe σ vs ∧ tt σ2 H2 fun b H3 =>
      if b = true then tk σ2 H3 fun y H4 => tv σ2 H4 fun z H5 => ∃ es d, DcA w H5 D es ∧ RpA P w K H5 (es.map (·.1)) (es.map (·.2.1)) ∧ Rp P w K H5 y d ∧ isKey d = true ∧ (es.all fun e => keyFit d e.2.1) = true ∧ es.length < sizeLine ∧
        ∀ o', (∀ H' : Hp, H' D = some (rawO D o') → DcA w H' D (putE y d z es)) → Nx (upd H5 D (rawO D o')) else Nx H3) := by
  refine ⟨fun i m H => m = n - i ∧ i ≤ n ∧ Pv i H, ⟨n, by simp, Nat.zero_le _, h0⟩, fun i m H ⟨em, hi, p⟩ => ?_⟩
  subst em
  have q := hG i H hi p
  by_cases hlt : i < n
  · exact .inr ⟨wk.goes i H hlt q, Pv (i + 1), fun H' p' => ⟨n - (i + 1), by omega, rfl, hlt, p'⟩, fun x H' y => hs i x H H' hlt p (wk.yields i H x H' hlt q y)⟩
  · obtain rfl : i = n := by omega
    exact .inl ⟨wk.stops H q, hd H p⟩
end
section
variable {X : Cx} {Φ : Fx} {Z : L2.WX}
theorem dcG_tDr {t : MT} {F : MS → Out (List Item)} {T : MS → Out Bool} {EK EV : MS → Out Val} {own : List Nat} {σ : St} {H : Hp} {Q : VK} (hown : ∀ i ∈ t.slots, i ∈ own)
    (h : tE (wx X Φ) Z (fun s => (F s).bind fun its s2 => dcG (asgI t) T EK EV own its s2) σ H Q) : tDr X.prog X.w X.K (tI (wx X Φ) Z F) (gM X.K t) (tT (wx X Φ) Z0 T) (tE (wx X Φ) Z0 EK) (tE (wx X Φ) Z0 EV) own σ H Q := by
  obtain ⟨A, f, s, r, h⟩ := h
  refine ⟨A, f, s, r, h.of_bind fun its s1 f1 H1 J e1 eX R1 rw g D o hD hd0 => ?_⟩
  obtain ⟨G, Y, hw, hG, hY⟩ := rw
  unfold dcG at g
  have hAD : ¬ A D := R1.nA hD
  refine dr_it hw (fun i H' => ∃ f' s' es kvs, Ext f1 s1.objs H1 f' s'.objs H' ∧ Same (hid A f1 s1.objs H1) (hid (AD A D) f' s'.objs H') ∧ R (wx X Φ).toWd (AD A D) f' { s' with env := wipeE s1.env own } (wipe σ own) H' ∧ DcA X.w H' D es ∧
      (wx X Φ).toWd.rpA (hid (AD A D) f' s'.objs H') (es.map (·.1)) (es.map (·.2.1)) ∧ es.map (·.2.1) = kvs.map (·.1) ∧ PV (wx X Φ).toWd f' (hid (AD A D) f' s'.objs H') (es.map (·.2.2)) (kvs.map (·.2)) ∧
      GoO (wx X Φ) Z (RlV (wx X Φ)) A f1 s1.objs σ H1 Q ((dcL (asgI t) T EK EV (wipeE s1.env own) (its.drop i) kvs s').bind fun kvs s3 => newObj { s3 with env := s1.env } (.dct kvs true)))
    ?_ (fun i H' _ ⟨f', s', es, kvs, ex, sm, R', _⟩ => hG H' fun b o e => hid_sub b o (sm b o e)) (fun i x H' H'' hlt ⟨f', s', es, kvs, ex, sm, R', hes, hk, hke, hv, g'⟩ y => ?_) fun H' ⟨f', s', es, kvs, ex, sm, R', hes, hk, hke, hv, g'⟩ => ?_
  · have e0 := hid_AD (o := rawO D o) hD R1
    exact ⟨f1, s1, [], [], Ext.of_same (same_upd hD), by rw [e0]; exact fun _ _ z => z, (R1.hideNew hD (raw_noTbl (H := upd H1 D (rawO D o)) (hd0 _ upd_same) upd_same)).wiped, hd0 _ upd_same, .nil, rfl, .nil, by simpa using g⟩
  · obtain ⟨it, hit⟩ : ∃ it, its[i]? = some it := ⟨its[i], by simp [hlt]⟩
    have hd : its.drop i = it :: its.drop (i + 1) := by
      rw [List.drop_eq_getElem_cons hlt]
      congr 1
      rw [List.getElem?_eq_getElem hlt] at hit
      exact Option.some.inj hit
    rw [hd] at g'
    unfold dcL at g'
    split at g'
    · exact g'.elim
    · rename_i s2 ea
      have ri := hY i x H' H'' (hid (AD A D) f' s'.objs H') it sm hid_sub y hit f' ex.pre
      refine gi_ok ea R' ri fun σ2 ho ex2 oa R2 => ⟨?_, ?_⟩
      · rw [oa own hown, wipe_wipe]
      · have exA : Ext f' s'.objs H' f' s2.objs H'' := by rw [ho]; exact ex2
        obtain ⟨u0, hu0⟩ : ∃ u, H' D = some (rawO D u) := by obtain ⟨u, _, _, q, _⟩ := hes; exact ⟨u, q⟩
        have no0 := raw_noTbl hes hu0
        have keepD : ∀ {fa : List Addr} {sa : MS} {σa : St} {Ha Hb : Hp} {fb : List Addr} {ob : List MO}, R (wx X Φ).toWd (AD A D) fa sa σa Ha → Ha D = some (rawO D u0) → Ext fa sa.objs Ha fb ob Hb → Hb D = some (rawO D u0) := fun {fa sa σa Ha Hb fb ob} ra e x => x.keep D _ e (fun z => ra.disj D z.mem (.inr rfl)) no0.1
        have at2 : H'' D = some (rawO D u0) := keepD R' hu0 ex2
        refine ⟨AD A D, f', s2, R2, ?_⟩
        cases eT : T s2 with
        | bad => rw [eT] at g'; exact g'.elim
        | exc c z s3 => rw [eT] at g'; exact g'.elim
        | ok b s3 =>
          intro f3 H3 b' ex3 R3 eb
          cases eb
          have at3 := keepD R2 at2 ex3
          have ex03 : Ext f' s'.objs H' f3 s3.objs H3 := exA.trans ex3
          rw [eT] at g'
          cases b with
          | false =>
            rw [if_neg Bool.false_ne_true]
            exact ⟨f3, s3, es, kvs, ex.trans ex03, fun b o e => ex03.same b o (sm b o e), R3.withEnv R' fun u v z => RepV.ext ex03 z, hes.congr (by rw [at3, hu0]), RpA.same ex03.same hk, hke, PV.ext ex03 hv, g'⟩
          | true =>
            rw [if_pos rfl]
            refine ⟨AD A D, f3, s3, R3, ?_⟩
            dsimp only at g'
            cases eK : EK s3 with
            | bad => rw [eK] at g'; exact g'.elim
            | exc c z s4 => rw [eK] at g'; exact g'.elim
            | ok kv s4 =>
              rw [eK] at g'
              intro f4 H4 y ex4 R4 ry
              have at4 := keepD R3 at3 ex4
              have ex04 := ex03.trans ex4
              refine ⟨AD A D, f4, s4, R4, ?_⟩
              cases kv with
              | ref n => exact g'.elim
              | fn n => exact g'.elim
              | d k =>
                dsimp only at g'
                cases eV : EV s4 with
                | bad => rw [eV] at g'; exact g'.elim
                | exc c z s5 => rw [eV] at g'; exact g'.elim
                | ok v s5 =>
                  rw [eV] at g'
                  intro f5 H5 z ex5 R5 rz
                  have at5 := keepD R4 at4 ex5
                  have ex05 := ex04.trans ex5
                  dsimp only at g'
                  split at g'
                  rotate_left
                  · exact g'.elim
                  rename_i hcond
                  simp only [Bool.and_eq_true] at hcond
                  obtain ⟨⟨⟨hkey, hall⟩, hsz⟩, hfn⟩ := hcond
                  have hsz := sizeOk_of hsz
                  have hle : es.length = kvs.length := by simpa using congrArg List.length hke
                  have hks := all_map1 es kvs hke (keyFit k) hall
                  have hes5 : DcA X.w H5 D es := hes.congr (by rw [at5, hu0])
                  have ry5 : (wx X Φ).toWd.rp (hid (AD A D) f5 s5.objs H5) y k := Rp.same ex5.same ry
                  refine ⟨es, k, hes5, rpA_mono (RpA.same ex05.same hk), rp_mono ry5, hkey, hks, by omega, fun o' ho' => ⟨f5, s5, putE y k z es, put k v kvs, ?_, ?_, ?_, ho' _ upd_same, ?_, putE_keys hke, ?_, g'⟩⟩
                  · have e5 := ex.trans ex05
                    refine ⟨e5.pre, fun b o e q n => ?_, fun b hb => e5.newU b hb⟩
                    rw [upd_ne fun z => by rw [z, hD] at e; cases e]
                    exact e5.keep b o e q n
                  · rw [hid_upd (o := rawO D u0) (s := s5) (A := AD A D) (.inr rfl)]
                    exact fun b o e => ex05.same b o (sm b o e)
                  · exact (R5.withEnv R' fun u v z => RepV.ext ex05 z).hidden (.inr rfl) at5 no0 (raw_noTbl (H := upd H5 D (rawO D o')) (ho' _ upd_same) upd_same)
                  · rw [hid_upd (o := rawO D u0) (s := s5) (A := AD A D) (.inr rfl)]
                    exact putE_rpA ry5 (RpA.same ex05.same hk)
                  · rw [hid_upd (o := rawO D u0) (s := s5) (A := AD A D) (.inr rfl)]
                    exact putE_vals rz hke (PV.ext ex05 hv)
  · rw [List.drop_eq_nil_of_le (Nat.le_refl _)] at g'
    unfold dcL at g'
    simp only [Out.bind] at g'
    unfold newObj at g'
    have hl : f'.length = s'.objs.length := R'.len
    have hp : ObjR (wx X Φ).toWd (f' ++ [D]) (hid (AD A D) f' s'.objs H') H' D (.dct kvs true) := ⟨es, hes, hk, hke, pv_up (fun _ _ z => z) ⟨[D], rfl⟩ hv⟩
    have R5 := R'.reveal (mo := .dct kvs true) rfl hAD hp
    have e5 : Ext f1 s1.objs H1 (f' ++ [D]) (s'.objs ++ [MO.dct kvs true]) H' := by
      obtain ⟨t1, et⟩ := ex.pre
      refine ⟨⟨t1 ++ [D], by rw [et, List.append_assoc]⟩, ex.keep, fun b hb => ?_⟩
      obtain ⟨n, o, h1, h2, h3⟩ := hb
      by_cases hn : n < f'.length
      · rw [List.getElem?_append_left hn] at h1
        rw [List.getElem?_append_left (by omega)] at h2
        exact ex.newU b ⟨n, o, h1, h2, h3⟩
      · rw [List.getElem?_append_right (by omega)] at h1
        cases q : n - f'.length with
        | zero => rw [q] at h1; simp at h1; rw [← h1]; exact .inr fun u q => by rw [hD] at q; cases q
        | succ k => rw [q] at h1; simp at h1
    refine g' (f' ++ [D]) H' (.ref D) e5 ?_ ⟨D, by rw [← hl]; simp, rfl⟩
    exact R.withEnv (s := s1) R5 R1 fun u v z => RepV.ext e5 z
end
end MI

set_option Elab.async false
set_option linter.all false
set_option maxRecDepth 100000
set_option maxHeartbeats 1000000
/-! MI: list comprehensions of two clauses. -/
namespace MI
open PySem PySem.Spec L2
open PyProof.Rows hiding St

theorem drop_at {α : Type} {l : List α} {i : Nat} {a : α} (h : l[i]? = some a) : l.drop i = a :: l.drop (i + 1) := by
  obtain ⟨hlt, e⟩ := List.getElem?_eq_some_iff.mp h
  rw [List.drop_eq_getElem_cons hlt, e]
/-- an appended hidden list, an own heap's extension -/
theorem Ext.hidStore {f f' : List Addr} {os os' : List MO} {H H' : Hp} {D : Addr} {o : HO} (e : Ext f os H f' os' H') (hD : H D = none) : Ext f os H f' os' (upd H' D o) := by
  refine ⟨e.pre, fun b u q n nt => ?_, e.newU⟩
  rw [upd_ne fun z => by rw [z, hD] at q; cases q]
  exact e.keep b u q n nt
section
variable {X : Cx} {Φ : Fx} {Z : L2.WX}
theorem lc2G_tLc2 {t t2 : MT} {F F2 : MS → Out (List Item)} {T T2 : MS → Out Bool} {E : MS → Out Val} {own : List Nat} {σ : St} {H : Hp} {Q : VK} (hown : ∀ i ∈ t.slots, i ∈ own)
    (h : tE (wx X Φ) Z (fun s => (F s).bind fun its s2 => lc2G (asgI t) T F2 (asgI t2) T2 E own t2.slots its s2) σ H Q) :
    tLc2 (tI (wx X Φ) Z F) (gM X.K t) (tT (wx X Φ) Z0 T) (tI (wx X Φ) Z0 F2) (gM X.K t2) (tT (wx X Φ) Z0 T2) (tE (wx X Φ) Z0 E) own t2.slots σ H Q := by
  obtain ⟨A, f, s, r, h⟩ := h
  refine ⟨A, f, s, r, h.of_bind fun its s1 f1 H1 J e1 eX R1 rw g D hD => ?_⟩
  obtain ⟨G, Y, hw, hG, hY⟩ := rw
  unfold lc2G at g
  have hAD : ¬ A D := R1.nA hD
  have no0 : ∀ us : List V, NoTbl (HO.lst us) ∧ ∀ q, (HO.lst us) ≠ LamX.CodeO D q := fun us => ⟨fun _ z => (by cases z), fun _ z => (by unfold LamX.CodeO at z; cases z)⟩
  have keepD : ∀ {us : List V} {fa : List Addr} {sa : MS} {σa : St} {Ha Hb : Hp} {fb : List Addr} {ob : List MO}, R (wx X Φ).toWd (AD A D) fa sa σa Ha → Ha D = some (.lst us) → Ext fa sa.objs Ha fb ob Hb → Hb D = some (.lst us) := fun {us fa sa σa Ha Hb fb ob} ra e x => x.keep D _ e (fun z => ra.disj D z.mem (.inr rfl)) (no0 us).1
  -- the outer turns
  let Pv : Nat → Hp → Prop := fun i H' => ∃ f' s' us acc, Ext f1 s1.objs H1 f' s'.objs H' ∧ Same (hid A f1 s1.objs H1) (hid (AD A D) f' s'.objs H') ∧ R (wx X Φ).toWd (AD A D) f' { s' with env := wipeE s1.env own } (wipe σ own) H' ∧ H' D = some (.lst us) ∧
    PV (wx X Φ).toWd f' (hid (AD A D) f' s'.objs H') us acc ∧ GoO (wx X Φ) Z (RlV (wx X Φ)) A f1 s1.objs σ H1 Q ((lcAA (asgI t) T (lc2E F2 (asgI t2) T2 E t2.slots) (wipeE s1.env own) (its.drop i) acc s').bind fun xs s3 => if noFns xs then newLst { s3 with env := s1.env } xs else .bad)
  refine ⟨fun i m H => m = its.length - i ∧ i ≤ its.length ∧ Pv i H, ⟨its.length, by simp, Nat.zero_le _, ?_⟩, fun i m H' ⟨em, hi, p⟩ => ?_⟩
  · have e0 := hid_AD (o := .lst []) hD R1
    exact ⟨f1, s1, [], [], Ext.of_same (same_upd hD), by rw [e0]; exact fun _ _ z => z, (R1.hideNew hD (no0 [])).wiped, upd_same, .nil, by simpa using g⟩
  obtain ⟨f', s', us, acc, ex, sm, R', hus, hv, g'⟩ := p
  have hGi : G H' := hG H' fun b o e => hid_sub b o (sm b o e)
  by_cases hlt : i < its.length
  rotate_left
  · -- the end
    obtain rfl : i = its.length := by omega
    refine .inl ⟨hw.stops H' hGi, ?_⟩
    rw [List.drop_eq_nil_of_le (Nat.le_refl _)] at g'
    unfold lcAA at g'
    simp only [Out.bind] at g'
    split at g'
    · unfold newLst at g'
      split at g'
      · unfold newObj at g'
        have hp : ObjR (wx X Φ).toWd (f' ++ [D]) (hid (AD A D) f' s'.objs H') H' D (.lst acc true) := ⟨us, hus, pv_up (fun _ _ z => z) ⟨[D], rfl⟩ hv⟩
        have R5 := R'.reveal (mo := .lst acc true) rfl hAD hp
        have hl : f'.length = s'.objs.length := R'.len
        have e5 : Ext f1 s1.objs H1 (f' ++ [D]) (s'.objs ++ [MO.lst acc true]) H' := by
          obtain ⟨t1, et⟩ := ex.pre
          refine ⟨⟨t1 ++ [D], by rw [et, List.append_assoc]⟩, ex.keep, fun b hb => ?_⟩
          obtain ⟨n, o, h1, h2, h3⟩ := hb
          by_cases hn : n < f'.length
          · rw [List.getElem?_append_left hn] at h1
            rw [List.getElem?_append_left (by omega)] at h2
            exact ex.newU b ⟨n, o, h1, h2, h3⟩
          · rw [List.getElem?_append_right (by omega)] at h1
            cases q : n - f'.length with
            | zero => rw [q] at h1; simp at h1; rw [← h1]; exact .inr fun u q => by rw [hD] at q; cases q
            | succ k => rw [q] at h1; simp at h1
        refine g' (f' ++ [D]) H' (.ref D) e5 ?_ ⟨D, by rw [← hl]; simp, rfl⟩
        exact R.withEnv (s := s1) R5 R1 fun u v z => RepV.ext e5 z
      · exact g'.elim
    · exact g'.elim
  refine .inr ⟨hw.goes i H' hlt hGi, fun H' => Pv (i + 1) H', fun H' p' => ⟨its.length - (i + 1), by omega, rfl, hlt, p'⟩, fun x H'' y => ?_⟩
  have y := hw.yields i H' x H'' hlt hGi y
  obtain ⟨it, hit⟩ : ∃ it, its[i]? = some it := ⟨its[i], by simp [hlt]⟩
  rw [drop_at hit] at g'
  unfold lcAA at g'
  split at g'
  · exact g'.elim
  rename_i s2 ea
  have ri := hY i x H' H'' (hid (AD A D) f' s'.objs H') it sm hid_sub y hit f' ex.pre
  refine gi_ok ea R' ri fun σ2 ho ex2 oa R2 => ⟨by rw [oa own hown, wipe_wipe], ?_⟩
  have exA : Ext f' s'.objs H' f' s2.objs H'' := by rw [ho]; exact ex2
  have hus2 : H'' D = some (.lst us) := keepD R' hus ex2
  refine ⟨AD A D, f', s2, R2, ?_⟩
  cases eT : T s2 with
  | bad => rw [eT] at g'; exact g'.elim
  | exc c z s3 => rw [eT] at g'; exact g'.elim
  | ok b s3 =>
    intro f3 H3 b' ex3 R3 eb
    cases eb
    have hus3 : H3 D = some (.lst us) := keepD R2 hus2 ex3
    have ex03 : Ext f' s'.objs H' f3 s3.objs H3 := exA.trans ex3
    rw [eT] at g'
    cases b with
    | false =>
      rw [if_neg Bool.false_ne_true]
      exact ⟨f3, s3, us, acc, ex.trans ex03, fun b o e => ex03.same b o (sm b o e), R3.withEnv R' fun u v z => RepV.ext ex03 z, hus3, PV.ext ex03 hv, g'⟩
    | true =>
      rw [if_pos rfl]
      refine ⟨AD A D, f3, s3, R3, ?_⟩
      dsimp only at g'
      cases eF : F2 s3 with
      | bad =>
        rw [show lc2E F2 (asgI t2) T2 E t2.slots acc s3 = .bad by unfold lc2E; rw [eF]] at g'
        exact g'.elim
      | exc c z s5 =>
        rw [show lc2E F2 (asgI t2) T2 E t2.slots acc s3 = .bad by unfold lc2E; rw [eF]] at g'
        exact g'.elim
      | ok its2 s5 =>
        rw [show lc2E F2 (asgI t2) T2 E t2.slots acc s3 = lcA (asgI t2) T2 E (wipeE s3.env t2.slots) its2 acc s5 by unfold lc2E; rw [eF]] at g'
        intro f5 H5 J1 ex5 R5 rw1
        have hus5 : H5 D = some (.lst us) := keepD R3 hus3 ex5
        have ex05 : Ext f' s'.objs H' f5 s5.objs H5 := ex03.trans ex5
        obtain ⟨G1, Y1, hw1, hG1, hY1⟩ := rw1
        -- the inner turns
        let Pw : Nat → Hp → Prop := fun j Hj => ∃ f6 s6 us6 acc6, Ext f1 s1.objs H1 f6 s6.objs Hj ∧ Same (hid A f1 s1.objs H1) (hid (AD A D) f6 s6.objs Hj) ∧ Same (hid (AD A D) f5 s5.objs H5) (hid (AD A D) f6 s6.objs Hj) ∧ (∃ tt, f6 = f5 ++ tt) ∧
          R (wx X Φ).toWd (AD A D) f6 { s6 with env := wipeE s3.env t2.slots } (wipe σ2 t2.slots) Hj ∧ R (wx X Φ).toWd (AD A D) f6 { s6 with env := wipeE s1.env own } (wipe σ own) Hj ∧ Hj D = some (.lst us6) ∧ PV (wx X Φ).toWd f6 (hid (AD A D) f6 s6.objs Hj) us6 acc6 ∧
          GoO (wx X Φ) Z (RlV (wx X Φ)) A f1 s1.objs σ H1 Q ((match lcA (asgI t2) T2 E (wipeE s3.env t2.slots) (its2.drop j) acc6 s6 with
            | .ok acc' s3 => lcAA (asgI t) T (lc2E F2 (asgI t2) T2 E t2.slots) (wipeE s1.env own) (its.drop (i + 1)) acc' s3
            | _ => .bad).bind fun xs s3 => if noFns xs then newLst { s3 with env := s1.env } xs else .bad)
        refine ⟨fun j m Hj => m = its2.length - j ∧ j ≤ its2.length ∧ Pw j Hj, ⟨its2.length, by simp, Nat.zero_le _, ?_⟩, fun j m Hj ⟨em1, hj, p1⟩ => ?_⟩
        · refine ⟨f5, s5, us, acc, ex.trans ex05, fun b o e => ex05.same b o (sm b o e), fun _ _ z => z, ⟨[], by simp⟩, ?_, R5.withEnv R' fun u v z => RepV.ext ex05 z, hus5, PV.ext ex05 hv, by rw [List.drop_zero]; exact g'⟩
          exact (R.withEnv (s := s3) R5 R3 fun u v z => RepV.ext ex5 z).wiped
        obtain ⟨f6, s6, us6, acc6, ex6, sm6, sm65, pf6, R6, R6o, hus6, hv6, g6⟩ := p1
        have hGj : G1 Hj := hG1 Hj fun b o e => hid_sub b o (sm65 b o e)
        by_cases hjl : j < its2.length
        rotate_left
        · obtain rfl : j = its2.length := by omega
          refine .inl ⟨hw1.stops Hj hGj, f6, s6, us6, acc6, ex6, sm6, R6o, hus6, hv6, ?_⟩
          rw [List.drop_eq_nil_of_le (Nat.le_refl _)] at g6
          exact g6
        refine .inr ⟨hw1.goes j Hj hjl hGj, fun Hj => Pw (j + 1) Hj, fun Hj p' => ⟨its2.length - (j + 1), by omega, rfl, hjl, p'⟩, fun x1 Hk y1 => ?_⟩
        have y1 := hw1.yields j Hj x1 Hk hjl hGj y1
        obtain ⟨it1, hit1⟩ : ∃ it, its2[j]? = some it := ⟨its2[j], by simp [hjl]⟩
        rw [drop_at hit1] at g6
        unfold lcA at g6
        split at g6
        rotate_left
        · exact g6.elim
        rename_i acc' s8 eL
        split at eL
        · cases eL
        rename_i s7 ea1
        have ri1 := hY1 j x1 Hj Hk (hid (AD A D) f6 s6.objs Hj) it1 sm65 hid_sub y1 hit1 f6 pf6
        refine gi_ok ea1 R6 ri1 fun σ3 ho7 ex7 oa7 R7 => ⟨by rw [oa7 t2.slots fun _ z => z, wipe_wipe], ?_⟩
        have exB : Ext f6 s6.objs Hj f6 s7.objs Hk := by rw [ho7]; exact ex7
        have hus7 : Hk D = some (.lst us6) := keepD R6 hus6 ex7
        refine ⟨AD A D, f6, s7, R7, ?_⟩
        cases eT2 : T2 s7 with
        | bad => rw [eT2] at eL; cases eL
        | exc c z s9 => rw [eT2] at eL; cases eL
        | ok b9 s9 =>
          intro f9 H9 b9' ex9 R9 eb9
          cases eb9
          have hus9 : H9 D = some (.lst us6) := keepD R7 hus7 ex9
          have ex69 : Ext f6 s6.objs Hj f9 s9.objs H9 := exB.trans ex9
          have pf9 : ∃ tt, f9 = f5 ++ tt := by
            obtain ⟨ta, ea⟩ := pf6
            obtain ⟨tb, eb⟩ := ex69.pre
            exact ⟨ta ++ tb, by rw [eb, ea, List.append_assoc]⟩
          rw [eT2] at eL
          cases b9 with
          | false =>
            rw [if_neg Bool.false_ne_true]
            dsimp only at eL
            refine ⟨f9, s9, us6, acc6, ex6.trans ex69, fun b o e => ex69.same b o (sm6 b o e), fun b o e => ex69.same b o (sm65 b o e), pf9, R9.withEnv R6 fun u v z => RepV.ext ex69 z, R.withEnv (s := { s6 with env := wipeE s1.env own }) R9 R6o fun u v z => RepV.ext ex69 z, hus9, PV.ext ex69 hv6, ?_⟩
            rw [eL]
            exact g6
          | true =>
            rw [if_pos rfl]
            refine ⟨AD A D, f9, s9, R9, ?_⟩
            dsimp only at eL
            cases eE : E s9 with
            | bad => rw [eE] at eL; cases eL
            | exc c z sa => rw [eE] at eL; cases eL
            | ok v sa =>
              rw [eE] at eL
              dsimp only at eL
              split at eL
              rotate_left
              · cases eL
              rename_i hsz
              have hsz := sizeOk_of hsz
              intro fa Ha ya exa Ra rya
              have husa : Ha D = some (.lst us6) := keepD R9 hus9 exa
              have ex6a : Ext f6 s6.objs Hj fa sa.objs Ha := ex69.trans exa
              have pfa : ∃ tt, fa = f5 ++ tt := by
                obtain ⟨ta, ea⟩ := pf9
                obtain ⟨tb, eb⟩ := exa.pre
                exact ⟨ta ++ tb, by rw [eb, ea, List.append_assoc]⟩
              have hlen := Paired.length' hv6
              have eh : hid (AD A D) fa sa.objs (upd Ha D (.lst (us6 ++ [ya]))) = hid (AD A D) fa sa.objs Ha := hid_upd (o := .lst us6) (s := sa) (A := AD A D) (.inr rfl)
              refine ⟨us6, husa, by omega, fa, sa, us6 ++ [ya], acc6 ++ [v], (ex6.trans ex6a).hidStore hD, ?_, ?_, pfa, ?_, ?_, upd_same, ?_, ?_⟩
              · rw [eh]
                exact fun b o e => ex6a.same b o (sm6 b o e)
              · rw [eh]
                exact fun b o e => ex6a.same b o (sm65 b o e)
              · exact (Ra.withEnv R6 fun u v z => RepV.ext ex6a z).hidden (.inr rfl) husa (no0 us6) (no0 _)
              · exact (R.withEnv (s := { s6 with env := wipeE s1.env own }) Ra R6o fun u v z => RepV.ext ex6a z).hidden (.inr rfl) husa (no0 us6) (no0 _)
              · rw [eh]
                exact Paired.app (PV.ext ex6a hv6) (.cons rya .nil)
              · rw [eL]
                exact g6
end
end MI

set_option Elab.async false
set_option linter.all false
set_option maxRecDepth 100000
set_option maxHeartbeats 1000000
/-! MI: defs: what they promise, how they are called. -/
namespace MI
open PySem PySem.Spec L2
open PyProof.Rows hiding St

section
variable {W : Wd} {A B : Addr → Prop} {f : List Addr} {s : MS} {σ : St} {H H' : Hp}
theorem R.frameG (r : R W A f s σ H) (kp : ∀ b ∈ f, H' b = H b) (hs : Same (hid A f s.objs H) (hid B f s.objs H')) (tb : LamX.Tabs W.T H') (hB : ∀ b, B b → ∃ o, H' b = some o ∧ NoTbl o ∧ ∀ q, o ≠ LamX.CodeO b q) (dj : ∀ b ∈ f, ¬ B b) : R W B f s σ H' :=
  ⟨r.len, r.nd, hB, dj, fun n o a h1 h2 => (r.obj n o a h1 h2).mono (fun u v z => RepV.mono hs ⟨[], by simp⟩ u v z) hs (kp a (List.mem_of_getElem? h2)), fun i v h => by
    obtain ⟨u, h1, h2⟩ := r.env i v h
    exact ⟨u, h1, RepV.mono hs ⟨[], by simp⟩ u v h2⟩, r.elen, tb⟩
theorem R.frameSet {n : Nat} {a : Addr} {mo mo' : MO} (r : R W A f s σ H) (hn : f[n]? = some a) (h1 : s.objs[n]? = some mo) (kp : ∀ b ∈ f, b ≠ a → H' b = H b) (hs : Same (hid A f s.objs H) (hid B f (s.objs.set n mo') H')) (tb : LamX.Tabs W.T H')
    (hB : ∀ b, B b → ∃ o, H' b = some o ∧ NoTbl o ∧ ∀ q, o ≠ LamX.CodeO b q) (dj : ∀ b ∈ f, ¬ B b) (hp : ObjR W f (hid B f (s.objs.set n mo') H') H' a mo') : R W B f { s with objs := s.objs.set n mo' } σ H' := by
  refine ⟨by simp [r.len], r.nd, hB, dj, fun m o b q1 q2 => ?_, fun i v h => ?_, r.elen, tb⟩
  · by_cases z : n = m
    · subst z
      rw [hn] at q2
      cases q2
      have q1' : (s.objs.set n mo')[n]? = some o := q1
      rw [List.getElem?_set_self (List.getElem?_eq_some_iff.mp h1).1] at q1'
      cases q1'
      exact hp
    · have q1' : (s.objs.set n mo')[m]? = some o := q1
      rw [List.getElem?_set_ne z] at q1'
      refine (r.obj m o b q1' q2).mono (fun u v z => RepV.mono hs ⟨[], by simp⟩ u v z) hs (kp b (List.mem_of_getElem? q2) fun w => z ?_)
      subst w
      exact (List.getElem_inj (h₀ := (List.getElem?_eq_some_iff.mp hn).1) (h₁ := (List.getElem?_eq_some_iff.mp q2).1) r.nd).mp (by rw [(List.getElem?_eq_some_iff.mp hn).2, (List.getElem?_eq_some_iff.mp q2).2])
  · obtain ⟨u, e1, e2⟩ := r.env i v h
    exact ⟨u, e1, RepV.mono hs ⟨[], by simp⟩ u v e2⟩
/-- heaps that hide the same -/
theorem hid_congr {f' : List Addr} {os os' : List MO} (h : ∀ b, (A b ∨ InU f os b) ↔ (B b ∨ InU f' os' b)) : hid A f os H = hid B f' os' H := by
  funext b
  unfold hid
  have h2 : (A b ∨ InU f os b ∨ ∃ ps, H b = some (.tbl ps)) ↔ (B b ∨ InU f' os' b ∨ ∃ ps, H b = some (.tbl ps)) := by
    rw [← or_assoc, h b, or_assoc]
  by_cases q : A b ∨ InU f os b ∨ ∃ ps, H b = some (.tbl ps)
  · rw [if_pos q, if_pos (h2.mp q)]
  · rw [if_neg q, if_neg fun z => q (h2.mpr z)]
end
theorem R.own {W : Wd} {A : Addr → Prop} {f : List Addr} {s : MS} {σ : St} {H : Hp} (r : R W A f s σ H) {b : Addr} (hb : b ∈ f) : ∃ o, H b = some o ∧ NoTbl o ∧ ∀ q, o ≠ LamX.CodeO b q := by
  obtain ⟨n, hn⟩ := List.getElem?_of_mem hb
  have hl : n < s.objs.length := by rw [← r.len]; exact (List.getElem?_eq_some_iff.mp hn).1
  have q := r.obj n s.objs[n] b (by simp [hl]) hn
  cases hq : H b with
  | none => exact absurd hq q.there
  | some u => exact ⟨u, rfl, q.noTbl hq⟩
/-! ### the promise -/
def st0 : Option (List PyData) → MS
  | none => ⟨[], []⟩
  | some xs => ⟨[], [.lst (xs.map .d) true]⟩
def ref0 : Option (List PyData) → List Val
  | none => []
  | some _ => [.ref 0]
def outO (inp : Option (List PyData)) (r : RF) : Out Val := match inp with
  | none => ofRF r (st0 none)
  | some xs => ofRFr r 0 (st0 (some xs))
/-- what a def promises: by-ref or not, so many arguments -/
def spF (W : Wx) (cl : Option (List PyData) → List PyData → RF) (br : Bool) (np : Nat) : Sp := fun vs H Q E => vs.length = np ∧ ∃ (A : Addr → Prop) (inp : Option (List PyData)) (args : List PyData) (f : List Addr), inp.isSome = br ∧ R W.toWd A f (st0 inp) [] H ∧
  PV W.toWd f (hid A f (st0 inp).objs H) vs (ref0 inp ++ args.map .d) ∧ GoO W (fun c d _ H => E c d H) (RlV W) A f (st0 inp).objs [] H Q (outO inp (cl inp args))
theorem inU_nil {f : List Addr} {b : Addr} : ¬ InU f [] b := by
  rintro ⟨n, o, _, h, _⟩
  simp at h
section
variable {W : Wx} {Z : L2.WX} {A : Addr → Prop} {f : List Addr} {s : MS} {σ : St} {H : Hp} {Q : VK}
/-- the callee's start: everything of the caller's is hidden -/
theorem start_none (r : R W.toWd A f s σ H) : R W.toWd (fun b => A b ∨ InU f s.objs b) [] (st0 none) [] H := by
  refine ⟨rfl, List.nodup_nil, fun b hb => ?_, fun b hb => by simp at hb, fun n o a h1 h2 => by simp at h2, fun i v h => by simp [st0] at h, rfl, r.tabs⟩
  rcases hb with hb | hb
  · exact r.hA b hb
  · exact r.own hb.mem
theorem hid_none {os : List MO} : hid (fun b => A b ∨ InU f os b) [] [] H = hid A f os H := hid_congr fun b => ⟨fun h => h.elim id fun z => (inU_nil z).elim, fun h => .inl h⟩
theorem rpA_of_PV {W : Wd} {f : List Addr} {Hh : Hp} : ∀ {us : List V} {ds : List PyData}, PV W f Hh us (ds.map .d) → W.rpA Hh us ds
  | [], [], _ => .nil
  | _ :: _, d :: ds, h => by
    cases h with
    | cons r t => exact .cons r (rpA_of_PV t)
  | [], _ :: _, h => by cases h
  | _ :: _, [], h => by cases h
/-- nothing of the caller's is touched -/
theorem keep_all {f' : List Addr} {os' : List MO} {H' : Hp} (r : R W.toWd A f s σ H) (e : Ext [] [] H f' os' H') : (∀ b ∈ f, H' b = H b) ∧ ∀ b o, H b = some o → NoTbl o → H' b = some o := by
  have k : ∀ b o, H b = some o → NoTbl o → H' b = some o := fun b o h n => e.keep b o h (fun z => inU_nil z) n
  refine ⟨fun b hb => ?_, k⟩
  obtain ⟨n, hn⟩ := List.getElem?_of_mem hb
  have hl : n < s.objs.length := by rw [← r.len]; exact (List.getElem?_eq_some_iff.mp hn).1
  have q := r.obj n s.objs[n] b (by simp [hl]) hn
  cases hq : H b with
  | none => exact absurd hq q.there
  | some u => exact k b u hq (q.noTbl hq).1
theorem ext_none {f' : List Addr} {H' : Hp} (e : Ext [] [] H f' [] H') : Ext f s.objs H f s.objs H' := ⟨⟨[], by simp⟩, fun b o h _ n => e.keep b o h (fun z => inU_nil z) n, fun b h => .inl h⟩
/-- a new object comes back -/
theorem back_new {p : Addr} {mo : MO} {H' : Hp} (r : R W.toWd A f s σ H) (hl : mo.live = true) (e : Ext [] [] H [p] [mo] H') (rc : R W.toWd (fun b => A b ∨ InU f s.objs b) [p] ⟨[], [mo]⟩ [] H')
    (pure : ∀ (f f' : List Addr) (Hh : Hp), ObjR W.toWd f Hh H' p mo → ObjR W.toWd f' Hh H' p mo) :
    Ext f s.objs H (f ++ [p]) (s.objs ++ [mo]) H' ∧ R W.toWd A (f ++ [p]) { s with objs := s.objs ++ [mo] } σ H' := by
  have hp : InU [p] [mo] p := ⟨0, mo, rfl, rfl, hl⟩
  have hnew : ∀ o, H p = some o → ¬ NoTbl o := (e.newU p hp).elim (fun z => (inU_nil z).elim) id
  have hnf : p ∉ f := fun z => by obtain ⟨o, q, n⟩ := r.own z; exact hnew o q n.1
  have hnA : ¬ A p := fun z => by obtain ⟨o, q, n⟩ := r.hA p z; exact hnew o q n.1
  obtain ⟨k1, k2⟩ := keep_all r e
  have hat := rc.own (b := p) (by simp)
  have hs : Same (hid A f s.objs H) (hid (AD A p) f s.objs H') := by
    intro b o h
    obtain ⟨h1, h2, h3, h4⟩ := hid_of h
    refine hid_at (k2 b o h1 h4) (fun z => ?_) h3 h4
    rcases z with z | z
    · exact h2 z
    · exact hnew o (z ▸ h1) h4
  have R1 : R W.toWd (AD A p) f s σ H' := r.frameG k1 hs rc.tabs (fun b hb => by
    rcases hb with hb | hb
    · obtain ⟨o, q, n⟩ := r.hA b hb
      exact ⟨o, k2 b o q n.1, n⟩
    · rw [hb]; exact hat) fun b hb z => by
      rcases z with z | z
      · exact r.disj b hb z
      · exact hnf (z ▸ hb)
  have eq : hid (fun b => A b ∨ InU f s.objs b) [p] [mo] H' = hid (AD A p) f s.objs H' := hid_congr fun b => by
    have : InU [p] [mo] b ↔ b = p := by
      constructor
      · rintro ⟨n, o, h1, h2, h3⟩
        cases n with
        | zero => simp at h1; exact h1.symm
        | succ n => simp at h1
      · rintro rfl
        exact hp
    rw [this]
    constructor
    · rintro ((h | h) | h)
      · exact .inl (.inl h)
      · exact .inr h
      · exact .inl (.inr h)
    · rintro ((h | h) | h)
      · exact .inl (.inl h)
      · exact .inr h
      · exact .inl (.inr h)
  have ob : ObjR W.toWd (f ++ [p]) (hid (AD A p) f s.objs H') H' p mo := by
    rw [← eq]
    exact pure [p] _ _ (rc.obj 0 mo p rfl rfl)
  refine ⟨⟨⟨[p], rfl⟩, fun b o h _ n => k2 b o h n, fun b hb => ?_⟩, R1.reveal hl hnA ob⟩
  obtain ⟨n, o, h1, h2, h3⟩ := hb
  have hlen := r.len
  by_cases hn : n < f.length
  · rw [List.getElem?_append_left hn] at h1
    rw [List.getElem?_append_left (by omega)] at h2
    exact .inl ⟨n, o, h1, h2, h3⟩
  · rw [List.getElem?_append_right (by omega)] at h1
    cases q : n - f.length with
    | zero => rw [q] at h1; simp at h1; rw [← h1]; exact .inr hnew
    | succ k => rw [q] at h1; simp at h1
theorem obj_pure_lst {W : Wd} {H' : Hp} {p : Addr} {xs : List PyData} (f f' : List Addr) (Hh : Hp) (h : ObjR W f Hh H' p (.lst (xs.map .d) true)) : ObjR W f' Hh H' p (.lst (xs.map .d) true) := by
  obtain ⟨us, h1, h2⟩ := h
  exact ⟨us, h1, PV_map (rpA_of_PV h2)⟩
theorem obj_pure_dct {W : Wd} {H' : Hp} {p : Addr} {kvs : List (PyData × PyData)} (f f' : List Addr) (Hh : Hp) (h : ObjR W f Hh H' p (.dct (pureKv kvs) true)) : ObjR W f' Hh H' p (.dct (pureKv kvs) true) := by
  obtain ⟨es, h1, h2, h3, h4⟩ := h
  refine ⟨es, h1, h2, h3, ?_⟩
  have e : (pureKv kvs).map (·.2) = (kvs.map (·.2)).map .d := by simp [pureKv, Function.comp_def]
  rw [e] at h4 ⊢
  exact PV_map (rpA_of_PV h4)
theorem one_of {f : List Addr} (h : f.length = 1) : ∃ p, f = [p] := by
  cases f with
  | nil => cases h
  | cons p r =>
    cases r with
    | nil => exact ⟨p, rfl⟩
    | cons _ _ => simp at h
/-- what comes back is the caller's -/
theorem back_none {E : XK} {r' : RF} (hZ : ∀ c d H, Z c d σ H → E c d H) (r : R W.toWd A f s σ H) (g : GoO W Z (RlV W) A f s.objs σ H Q (ofRF r' s)) :
    GoO W (fun c d _ H => E c d H) (RlV W) (fun b => A b ∨ InU f s.objs b) [] (st0 none).objs [] H Q (ofRF r' (st0 none)) := by
  have fr : ∀ {f' : List Addr} {H' : Hp}, Ext [] [] H f' [] H' → R W.toWd (fun b => A b ∨ InU f s.objs b) f' ⟨[], []⟩ [] H' → f' = [] ∧ R W.toWd A f s σ H' := fun {f' H'} e rc => by
    have h0 : f' = [] := List.length_eq_zero_iff.mp (rc.len.trans rfl)
    obtain ⟨k1, k2⟩ := keep_all r e
    exact ⟨h0, r.frameG k1 (ext_none (s := s) e).same rc.tabs (fun b hb => by obtain ⟨o, q, n⟩ := r.hA b hb; exact ⟨o, k2 b o q n.1, n⟩) r.disj⟩
  cases r' with
  | bad => exact g
  | exc c x out =>
    intro f' H' cls dd e rc ex
    obtain ⟨rfl, R1⟩ := fr e rc
    refine hZ cls dd H' (g f H' cls dd (ext_none e) R1 ?_)
    have := ex
    rw [show (st0 none).objs = [] from rfl, hid_none] at this
    exact this
  | ok rv out =>
    cases rv with
    | d x =>
      intro f' H' u e rc ru
      obtain ⟨rfl, R1⟩ := fr e rc
      refine g f H' u (ext_none e) R1 ?_
      have := ru
      rw [show (st0 none).objs = [] from rfl] at this
      have e2 : hid (fun b => A b ∨ InU f s.objs b) [] [] H' = hid A f s.objs H' := hid_none
      show W.rp (hid A f s.objs H') u x
      rw [← e2]
      exact this
    | lst xs =>
      intro f' H' u e rc ru
      obtain ⟨p, rfl⟩ := one_of (rc.len.trans rfl)
      obtain ⟨e1, R1⟩ := back_new r rfl e rc obj_pure_lst
      obtain ⟨a, ha, rfl⟩ := ru
      have ha' : a = p := by simpa [st0] using ha.symm
      subst ha'
      refine g (f ++ [a]) H' (.ref a) e1 R1 ⟨a, ?_, rfl⟩
      rw [← r.len]
      simp
    | dct kvs =>
      intro f' H' u e rc ru
      obtain ⟨p, rfl⟩ := one_of (rc.len.trans rfl)
      obtain ⟨e1, R1⟩ := back_new r rfl e rc obj_pure_dct
      obtain ⟨a, ha, rfl⟩ := ru
      have ha' : a = p := by simpa [st0] using ha.symm
      subst ha'
      refine g (f ++ [a]) H' (.ref a) e1 R1 ⟨a, ?_, rfl⟩
      rw [← r.len]
      simp
/-- by-ref: all but the list itself is hidden -/
abbrev AL (A : Addr → Prop) (f : List Addr) (os : List MO) (a : Addr) : Addr → Prop := fun b => A b ∨ (InU f os b ∧ b ≠ a)
theorem inU_one {a b : Addr} {mo : MO} (hl : mo.live = true) : InU [a] [mo] b ↔ b = a := by
  constructor
  · rintro ⟨n, o, h1, h2, h3⟩
    cases n with
    | zero => simp at h1; exact h1.symm
    | succ n => simp at h1
  · rintro rfl
    exact ⟨0, mo, rfl, rfl, hl⟩
theorem hid_some {os : List MO} {a : Addr} {mo : MO} (hl : mo.live = true) (ha : InU f os a) : hid (AL A f os a) [a] [mo] H = hid A f os H := hid_congr fun b => by
  rw [inU_one hl]
  constructor
  · rintro ((h | h) | h)
    · exact .inl h
    · exact .inr h.1
    · rw [h]; exact .inr ha
  · rintro (h | h)
    · exact .inl (.inl h)
    · by_cases e : b = a
      · exact .inr e
      · exact .inl (.inr ⟨h, e⟩)
theorem start_some {n : Nat} {a : Addr} {inp : List PyData} (r : R W.toWd A f s σ H) (hn : f[n]? = some a) (h1 : s.objs[n]? = some (.lst (inp.map .d) true)) : R W.toWd (AL A f s.objs a) [a] (st0 (some inp)) [] H := by
  have ha : InU f s.objs a := ⟨n, _, hn, h1, rfl⟩
  have eq : hid (AL A f s.objs a) [a] (st0 (some inp)).objs H = hid A f s.objs H := hid_some rfl ha
  refine ⟨rfl, by simp, fun b hb => ?_, fun b hb z => ?_, fun m o b q1 q2 => ?_, fun i v h => by simp [st0] at h, rfl, r.tabs⟩
  · rcases hb with hb | hb
    · exact r.hA b hb
    · exact r.own hb.1.mem
  · have e : b = a := by simpa using hb
    rcases z with z | z
    · exact r.disj a (List.mem_of_getElem? hn) (e ▸ z)
    · exact z.2 e
  · cases m with
    | succ m => simp at q2
    | zero =>
      simp at q2
      subst q2
      have q1' : (st0 (some inp)).objs[0]? = some o := q1
      simp [st0] at q1'
      subst q1'
      rw [eq]
      exact obj_pure_lst f [a] _ (r.obj n _ a h1 hn)
/-- nothing but the list is touched -/
theorem keep_but {a : Addr} {mo : MO} {f' : List Addr} {os' : List MO} {H' : Hp} (r : R W.toWd A f s σ H) (e : Ext [a] [mo] H f' os' H') (hl : mo.live = true) : (∀ b ∈ f, b ≠ a → H' b = H b) ∧ ∀ b o, H b = some o → b ≠ a → NoTbl o → H' b = some o := by
  have k : ∀ b o, H b = some o → b ≠ a → NoTbl o → H' b = some o := fun b o h z n => e.keep b o h (fun q => z ((inU_one hl).mp q)) n
  refine ⟨fun b hb z => ?_, k⟩
  obtain ⟨n, hn⟩ := List.getElem?_of_mem hb
  have hl : n < s.objs.length := by rw [← r.len]; exact (List.getElem?_eq_some_iff.mp hn).1
  have q := r.obj n s.objs[n] b (by simp [hl]) hn
  cases hq : H b with
  | none => exact absurd hq q.there
  | some u => exact k b u hq z (q.noTbl hq).1
theorem inU_set {f : List Addr} {os : List MO} {n : Nat} {mo mo' : MO} {b : Addr} (h1 : os[n]? = some mo) (hl : mo.live = true) (hl' : mo'.live = true) : InU f (os.set n mo') b ↔ InU f os b := by
  have hlt : n < os.length := (List.getElem?_eq_some_iff.mp h1).1
  constructor
  · rintro ⟨m, o', q1, q2, q3⟩
    by_cases e : n = m
    · subst e
      exact ⟨n, mo, q1, h1, hl⟩
    · rw [List.getElem?_set_ne e] at q2
      exact ⟨m, o', q1, q2, q3⟩
  · rintro ⟨m, o', q1, q2, q3⟩
    by_cases e : n = m
    · subst e
      exact ⟨n, mo', q1, by simp [hlt], hl'⟩
    · exact ⟨m, o', q1, by rw [List.getElem?_set_ne e]; exact q2, q3⟩
theorem back_set {n : Nat} {a : Addr} {inp out : List PyData} {H' : Hp} (r : R W.toWd A f s σ H) (hn : f[n]? = some a) (h1 : s.objs[n]? = some (.lst (inp.map .d) true)) (e : Ext [a] [.lst (inp.map .d) true] H [a] [.lst (out.map .d) true] H')
    (rc : R W.toWd (AL A f s.objs a) [a] ⟨[], [.lst (out.map .d) true]⟩ [] H') : Ext f s.objs H f (s.objs.set n (.lst (out.map .d) true)) H' ∧ R W.toWd A f { s with objs := s.objs.set n (.lst (out.map .d) true) } σ H' ∧
      hid (AL A f s.objs a) [a] [.lst (out.map .d) true] H' = hid A f (s.objs.set n (.lst (out.map .d) true)) H' := by
  have ha : InU f s.objs a := ⟨n, _, hn, h1, rfl⟩
  obtain ⟨k1, k2⟩ := keep_but r e rfl
  have ex : Ext f s.objs H f (s.objs.set n (.lst (out.map .d) true)) H' := ⟨⟨[], by simp⟩, fun b o h z nt => k2 b o h (fun q => z (q ▸ ha)) nt, fun b hb => .inl ((inU_set h1 rfl rfl).mp hb)⟩
  have eq : hid (AL A f s.objs a) [a] [.lst (out.map .d) true] H' = hid A f (s.objs.set n (.lst (out.map .d) true)) H' := (hid_some rfl ha).trans (hid_congr fun b => by rw [inU_set h1 rfl rfl])
  refine ⟨ex, r.frameSet hn h1 k1 ex.same rc.tabs (r.hA' ex) r.disj ?_, eq⟩
  rw [← eq]
  exact obj_pure_lst [a] f _ (rc.obj 0 _ a rfl rfl)
theorem two_of {f : List Addr} {a : Addr} (h : f.length = 2) (p : ∃ t, f = [a] ++ t) : ∃ q, f = [a, q] := by
  obtain ⟨t, rfl⟩ := p
  cases t with
  | nil => simp at h
  | cons q t =>
    cases t with
    | nil => exact ⟨q, rfl⟩
    | cons _ _ => simp at h
theorem back_newS {n : Nat} {a q : Addr} {inp out : List PyData} {mo : MO} {H' : Hp} (hl : mo.live = true) (r : R W.toWd A f s σ H) (hn : f[n]? = some a) (h1 : s.objs[n]? = some (.lst (inp.map .d) true)) (e : Ext [a] [.lst (inp.map .d) true] H [a, q] [.lst (out.map .d) true, mo] H')
    (rc : R W.toWd (AL A f s.objs a) [a, q] ⟨[], [.lst (out.map .d) true, mo]⟩ [] H') (pure : ∀ (f f' : List Addr) (Hh : Hp), ObjR W.toWd f Hh H' q mo → ObjR W.toWd f' Hh H' q mo) :
    Ext f s.objs H (f ++ [q]) (s.objs.set n (.lst (out.map .d) true) ++ [mo]) H' ∧ R W.toWd A (f ++ [q]) { s with objs := s.objs.set n (.lst (out.map .d) true) ++ [mo] } σ H' := by
  have ha : InU f s.objs a := ⟨n, _, hn, h1, rfl⟩
  have hqa : q ≠ a := fun z => by
    have := rc.nd
    rw [z] at this
    simp at this
  have hq : InU [a, q] [.lst (out.map .d) true, mo] q := ⟨1, mo, rfl, rfl, hl⟩
  have hnew : ∀ o, H q = some o → ¬ NoTbl o := (e.newU q hq).elim (fun z => absurd ((inU_one rfl).mp z) hqa) id
  have hnf : q ∉ f := fun z => by obtain ⟨o, w, n⟩ := r.own z; exact hnew o w n.1
  have hnA : ¬ A q := fun z => by obtain ⟨o, w, n⟩ := r.hA q z; exact hnew o w n.1
  obtain ⟨k1, k2⟩ := keep_but r e rfl
  have hat := rc.own (b := q) (by simp)
  have two : ∀ b, InU [a, q] [MO.lst (out.map .d) true, mo] b ↔ b = a ∨ b = q := fun b => by
    constructor
    · rintro ⟨m, o, q1, q2, q3⟩
      match m with
      | 0 => simp at q1; exact .inl q1.symm
      | 1 => simp at q1; exact .inr q1.symm
      | m + 2 => simp at q1
    · rintro (z | z)
      · rw [z]; exact ⟨0, _, rfl, rfl, rfl⟩
      · rw [z]; exact hq
  have eq : hid (AL A f s.objs a) [a, q] [.lst (out.map .d) true, mo] H' = hid (AD A q) f (s.objs.set n (.lst (out.map .d) true)) H' := hid_congr fun b => by
    rw [two, inU_set h1 rfl rfl]
    constructor
    · rintro ((h | h) | h | h)
      · exact .inl (.inl h)
      · exact .inr h.1
      · rw [h]; exact .inr ha
      · exact .inl (.inr h)
    · rintro ((h | h) | h)
      · exact .inl (.inl h)
      · exact .inr (.inr h)
      · by_cases z : b = a
        · exact .inr (.inl z)
        · exact .inl (.inr ⟨h, z⟩)
  have hs : Same (hid A f s.objs H) (hid (AD A q) f (s.objs.set n (.lst (out.map .d) true)) H') := by
    intro b o h
    obtain ⟨q1, q2, q3, q4⟩ := hid_of h
    refine hid_at (k2 b o q1 (fun z => q3 (z ▸ ha)) q4) (fun z => ?_) (fun z => q3 ((inU_set h1 rfl rfl).mp z)) q4
    rcases z with z | z
    · exact q2 z
    · exact hnew o (z ▸ q1) q4
  have R1 : R W.toWd (AD A q) f { s with objs := s.objs.set n (.lst (out.map .d) true) } σ H' := r.frameSet hn h1 k1 hs rc.tabs (fun b hb => by
    rcases hb with hb | hb
    · obtain ⟨o, w, n⟩ := r.hA b hb
      exact ⟨o, k2 b o w (fun z => r.disj a (List.mem_of_getElem? hn) (z ▸ hb)) n.1, n⟩
    · rw [hb]; exact hat) (fun b hb z => by
      rcases z with z | z
      · exact r.disj b hb z
      · exact hnf (z ▸ hb)) (by
    rw [← eq]
    exact obj_pure_lst [a, q] f _ (rc.obj 0 _ a rfl rfl))
  have ob : ObjR W.toWd (f ++ [q]) (hid (AD A q) f (s.objs.set n (.lst (out.map .d) true)) H') H' q mo := by
    rw [← eq]
    exact pure [a, q] _ _ (rc.obj 1 mo q rfl rfl)
  refine ⟨⟨⟨[q], rfl⟩, fun b o h z nt => k2 b o h (fun w => z (w ▸ ha)) nt, fun b hb => ?_⟩, R1.reveal hl hnA ob⟩
  obtain ⟨m, o, q1, q2, q3⟩ := hb
  have hlen := R1.len
  by_cases hm : m < f.length
  · rw [List.getElem?_append_left hm] at q1
    rw [List.getElem?_append_left (by rw [← hlen]; exact hm)] at q2
    exact .inl ((inU_set h1 rfl rfl).mp ⟨m, o, q1, q2, q3⟩)
  · rw [List.getElem?_append_right (by omega)] at q1
    cases z : m - f.length with
    | zero => rw [z] at q1; simp at q1; rw [← q1]; exact .inr hnew
    | succ k => rw [z] at q1; simp at q1
theorem back_some {E : XK} {r' : RF} {n : Nat} {a : Addr} {inp : List PyData} (hZ : ∀ c d H, Z c d σ H → E c d H) (r : R W.toWd A f s σ H) (hn : f[n]? = some a) (h1 : s.objs[n]? = some (.lst (inp.map .d) true))
    (g : GoO W Z (RlV W) A f s.objs σ H Q (ofRFr r' n s)) : GoO W (fun c d _ H => E c d H) (RlV W) (AL A f s.objs a) [a] (st0 (some inp)).objs [] H Q (ofRFr r' 0 (st0 (some inp))) := by
  cases r' with
  | bad => exact g
  | exc c x out =>
    cases out with
    | none => exact g.elim
    | some out =>
      intro f' H' cls dd e rc ex
      obtain ⟨p, rfl⟩ := one_of (rc.len.trans rfl)
      have hp : p = a := by
        obtain ⟨t, ht⟩ := e.pre
        simp at ht
        exact ht.1
      subst hp
      obtain ⟨e1, R1, eq⟩ := back_set r hn h1 e rc
      refine hZ cls dd H' (g f H' cls dd e1 R1 ?_)
      show ExcR W.toWd W.ca (hid A f (s.objs.set n (.lst (out.map .d) true)) H') cls dd c x
      rw [← eq]
      exact ex
  | ok rv out =>
    cases out with
    | none => exact g.elim
    | some out =>
      cases rv with
      | d x =>
        intro f' H' u e rc ru
        obtain ⟨p, rfl⟩ := one_of (rc.len.trans rfl)
        have hp : p = a := by
          obtain ⟨t, ht⟩ := e.pre
          simp at ht
          exact ht.1
        subst hp
        obtain ⟨e1, R1, eq⟩ := back_set r hn h1 e rc
        refine g f H' u e1 R1 ?_
        show W.rp (hid A f (s.objs.set n (.lst (out.map .d) true)) H') u x
        rw [← eq]
        exact ru
      | lst xs =>
        intro f' H' u e rc ru
        obtain ⟨q, rfl⟩ := two_of (rc.len.trans rfl) e.pre
        obtain ⟨e1, R1⟩ := back_newS rfl r hn h1 e rc obj_pure_lst
        obtain ⟨b, hb, rfl⟩ := ru
        have hb' : b = q := by simpa [st0] using hb.symm
        subst hb'
        refine g (f ++ [b]) H' (.ref b) e1 R1 ⟨b, ?_, rfl⟩
        simp [← r.len]
      | dct kvs =>
        intro f' H' u e rc ru
        obtain ⟨q, rfl⟩ := two_of (rc.len.trans rfl) e.pre
        obtain ⟨e1, R1⟩ := back_newS rfl r hn h1 e rc obj_pure_dct
        obtain ⟨b, hb, rfl⟩ := ru
        have hb' : b = q := by simpa [st0] using hb.symm
        subst hb'
        refine g (f ++ [b]) H' (.ref b) e1 R1 ⟨b, ?_, rfl⟩
        simp [← r.len]
end
end MI

set_option Elab.async false
set_option linter.all false
set_option maxRecDepth 100000
set_option maxHeartbeats 1000000
/-! MI: calls of the text's own defs. -/
namespace MI
open PySem PySem.Spec L2
open PyProof.Rows hiding St

/-- a def that keeps its promise; gd: where nothing is guarded -/
structure FnX (gd : Bool) (P : Program) (w : World) (K : PySem.W.Frag) (mg : Str → Option Value) (base : Heap) (CX : CXT) (k : Nat) (f : Addr) (fd : FuncData) (ps : List Str) (sp : Sp) : Prop where
  len : ∀ vs H Q E, sp vs H Q E → vs.length = ps.length
  run : ∀ (A : Around) (outer : List Env) (s : Shared) (H : Hp) (args : Args) (us : List Value) (vs : List V) (Q : VK) (E : XK), (gd = true → A.guards = some []) → Room k A → Env0 P w K mg base A outer s H → BindsTo s fd args (ps.zip us) → Vals vs us → sp vs H Q E →
    codeAny (model P w) A (.call (.ref f) args) (CR CX outer P w H s Q E) s
theorem FnX.ok {P : Program} {w : World} {K : PySem.W.Frag} {mg : Str → Option Value} {base : Heap} {CX : CXT} {k : Nat} {f : Addr} {fd : FuncData} {ps : List Str} {sp : Sp} (F : FnX false P w K mg base CX k f fd ps sp) : FnOk P w K mg base CX k f fd ps sp :=
  ⟨F.len, fun A outer s H args us vs Q E hr => F.run A outer s H args us vs Q E (fun z => by cases z) hr⟩
theorem FnX.mono {gd : Bool} {P : Program} {w : World} {K : PySem.W.Frag} {mg : Str → Option Value} {base : Heap} {CX : CXT} {j k : Nat} {f : Addr} {fd : FuncData} {ps : List Str} {sp : Sp} (F : FnX gd P w K mg base CX j f fd ps sp) (h : j ≤ k) : FnX gd P w K mg base CX k f fd ps sp :=
  ⟨F.len, fun A outer s H args us vs Q E hg hr => F.run A outer s H args us vs Q E hg (hr.mono h)⟩
/-- how its arguments are bound: all given; the keyword-only ones left out; the one keyword-only parameter named -/
structure KwB (P : Program) (w : World) (K : PySem.W.Frag) (fd : FuncData) (ps : List Str) (kwo : List (Str × PyData)) : Prop where
  all : kwo = [] → Binds K fd ps []
  dfl : ∃ (ds : List Value) (dvs : List V), Vals dvs ds ∧ (∀ H, RpA P w K H dvs (kwo.map (·.2))) ∧ Binds K fd ps ds
  kw : ∀ kn d, kwo = [(kn, d)] → KBn K fd ps (ps.length - 1) [kn] (fun us ws => us ++ ws) (fun vs zs => vs ++ zs)
structure FnAt (gd : Bool) (P : Program) (w : World) (K : PySem.W.Frag) (mg : Str → Option Value) (base : Heap) (W : Wx) (k : Nat) (g : Nat) (cl : Option (List PyData) → List PyData → RF) (ps : List Str) (br : Bool) (kwo : List (Str × PyData)) : Prop where
  ex : ∃ f fd, W.fc g = some f ∧ PySem.W.keepIn K (.ref f) = true ∧ FnX gd P w K mg base (L2.CX P w) k f fd ps (spF W cl br ps.length) ∧ KwB P w K fd ps kwo
  len : ∀ inp args, cl inp args ≠ .bad → (ref0 inp).length + args.length = ps.length ∧ inp.isSome = br
theorem FnAt.mono {gd : Bool} {P : Program} {w : World} {K : PySem.W.Frag} {mg : Str → Option Value} {base : Heap} {W : Wx} {j k g : Nat} {cl : Option (List PyData) → List PyData → RF} {ps : List Str} {br : Bool} {kwo : List (Str × PyData)} (F : FnAt gd P w K mg base W j g cl ps br kwo) (h : j ≤ k) : FnAt gd P w K mg base W k g cl ps br kwo := by
  obtain ⟨f, fd, h1, h2, h3, h4⟩ := F.ex
  exact ⟨⟨f, fd, h1, h2, h3.mono h, h4⟩, F.len⟩
/-- a lambda that keeps its promise, wherever it lies -/
structure LamAt (P : Program) (w : World) (K : PySem.W.Frag) (mg : Str → Option Value) (base : Heap) (W : Wx) (k : Nat) (g : Nat) (cl : Option (List PyData) → List PyData → RF) (D : LamD) (ps : List Str) : Prop where
  run : ∀ (A : Around) (outer : List Env) (s : Shared) (H : Hp) (f c : Addr) (us : List Value) (vs : List V) (Q : VK) (E : XK), Room k A → Env0 P w K mg base A outer s H → H f = some (LamO f D c) → H c = some (LamX.CodeO c D.q) → Vals vs us → spF W cl false ps.length vs H Q E →
    codeAny (model P w) A (.call (.ref f) ⟨us, []⟩) (CR (L2.CX P w) outer P w H s Q E) s
  len : ∀ inp args, cl inp args ≠ .bad → (ref0 inp).length + args.length = ps.length ∧ inp.isSome = false
theorem lamO_get {P : Program} {w : World} {H : Hp} {h : Heap} {a c : Addr} {D : LamD} (hok : HOk P w H h) (e : H a = some (LamO a D c)) : ∃ pm ctv : Value, h.get? a = some (PySem.W.kla_obj "<lambda>" D.q D.params D.body D.scope [] pm c ctv) := (hok a _ e).1
theorem lamO_at {P : Program} {w : World} {H : Hp} {h : Heap} {a c : Addr} {D : LamD} (hok : HOk P w H h) (e : H a = some (LamO a D c)) : PySem.W.FnAt a h := by
  obtain ⟨pm, ctv, z⟩ := lamO_get hok e
  exact ⟨_, _, _, _, z⟩
section
variable {X : Cx} {CX : CXT} {gd : Bool} {k : Nat} {f : Addr} {fd : FuncData} {ps : List Str} {sp : Sp} {ds : List Value} {dvs : List V} {E : XK} {x : Str} {p pos : Pos} {e : Expr} {es : List Expr} {t : TA}
theorem run_fnX {pins : List (Addr × Obj)} {σ : St} {H : Hp} {s : Shared} {Q : VK} {us : List Value} {vs : List V} (F : FnX gd X.prog X.w X.K X.mg X.base CX k f fd ps sp) (hgd : gd = true → X.A.guards = some []) (hr : Room k X.A) (hb : Binds X.K fd ps ds) (hd : Vals dvs ds) (hx : Passes CX X E)
    (I : L2.Inv X pins σ H s) (r : Vals vs us) (h : sp (vs ++ dvs) H Q E) : wpAny (model X.prog X.w) X.A (call (.ref f) us) (EP X pins σ Q) X.xe s := by
  have both : Vals (vs ++ dvs) (us ++ ds) := r.append hd
  have len : (us ++ ds).length = ps.length := both.length.symm.trans (F.len _ _ _ _ h)
  have C := F.run X.A X.stack s H ⟨us, []⟩ (us ++ ds) (vs ++ dvs) Q E hgd hr I.env0 (hb s us I.kIn len) both h
  refine wpAny_call (codeAny_mono C fun o s' hq => ?_)
  rcases o with e | fl
  · exact hx pins σ H s e s' I hq
  · rcases fl with _ | _ | _ | u
    all_goals first | exact I.after hq | exact (show False from hq).elim
theorem pe_callX (F : FnX gd X.prog X.w X.K X.mg X.base CX k f fd ps sp) (hgd : gd = true → X.A.guards = some []) (hr : Room k X.A) (hg : Gl X x) (hm : X.mg x = some (.ref f)) (hk : PySem.W.keepIn X.K (.ref f) = true) (hb : Binds X.K fd ps ds) (hd : Vals dvs ds) (hx : Passes CX X E)
    (ha : PA X (e :: es) t) (hdb : (x == ("__debug__" : Str)) = false) (he : starEach (e :: es) X.env = (false, eval e X.env) :: starEach es X.env) (hpl : (backTo pos (starEach es X.env)).any (·.1) = false) : PE X (.Call (.Name x p) (e :: es) [] pos) (tCall sp dvs E t) :=
  ⟨fun pins s σ H Q I h => wpAny_Call_Name_kw (ld_glob I hg hm (PySem.W.callWith_K (h₀ := X.base) I.ok.mod.kin hk (thn (ha.run pos pins s σ H _ I h) fun us s1 ⟨vs, H1, I1, r, q⟩ => ⟨I1.kIn, run_fnX F hgd hr hb hd hx I1 r q⟩) he hpl) hdb)⟩
theorem pe_callX0 (F : FnX gd X.prog X.w X.K X.mg X.base CX k f fd ps sp) (hgd : gd = true → X.A.guards = some []) (hr : Room k X.A) (hg : Gl X x) (hm : X.mg x = some (.ref f)) (hk : PySem.W.keepIn X.K (.ref f) = true) (hb : Binds X.K fd ps ds) (hd : Vals dvs ds) (hx : Passes CX X E)
    (hdb : (x == ("__debug__" : Str)) = false) : PE X (.Call (.Name x p) [] [] pos) (tCall sp dvs E tNil) :=
  ⟨fun pins s σ H Q I h => wpAny_Call_Name_kw (ld_glob I hg hm (PySem.W.callWith_K0 I.kIn hk (run_fnX (us := []) F hgd hr hb hd hx I .nil h)) hdb)⟩
end
/-- exceptions do not hang on the slots -/
def Zi (Z : L2.WX) : Prop := ∀ c d σ σ' H, Z c d σ H → Z c d σ' H
section
variable {X : Cx} {Φ : Fx} {Z : L2.WX} {pos : Pos} {k : Nat} {gd : Bool}
def zE (Z : L2.WX) : XK := fun c d H => ∀ σ, Z c d σ H
theorem passesZ (tk : Takes X Z) : Passes (L2.CX X.prog X.w) X (zE Z) := passes_call tk fun _ _ σ _ h => h σ
theorem ref0_none {xs : List Val} : ref0 none ++ xs = xs := rfl
theorem not_bad {W : Wx} {A : Addr → Prop} {f : List Addr} {s : MS} {σ : St} {H : Hp} {Q : VK} {r : RF} (g : GoO W Z (RlV W) A f s.objs σ H Q (ofRF r s)) : r ≠ .bad := by
  rintro rfl
  exact g
theorem not_badR {W : Wx} {A : Addr → Prop} {f : List Addr} {os : List MO} {s : MS} {n : Nat} {σ : St} {H : Hp} {Q : VK} {r : RF} (g : GoO W Z (RlV W) A f os σ H Q (ofRFr r n s)) : r ≠ .bad := by
  rintro rfl
  exact g
/-- a call's promise, from MI's own call -/
theorem sp_call {K : Cfg} {g : Nat} {ps : List Str} {br : Bool} {A : Addr → Prop} {f : List Addr} {s : MS} {σ : St} {H : Hp} {Q : VK} {vs : List Val} {xs : List V} {dfl : List PyData} (zi : Zi Z) (len : ∀ inp args, K.call g inp args ≠ .bad → (ref0 inp).length + args.length = ps.length ∧ inp.isSome = br)
    (r : R (wx X Φ).toWd A f s σ H) (rv : PV (wx X Φ).toWd f (hid A f s.objs H) xs vs) (dvs : List V) (hd : ∀ H, RpA X.prog X.w X.K H dvs dfl) (h : GoO (wx X Φ) Z (RlV (wx X Φ)) A f s.objs σ H Q (callV K g vs dfl s)) :
    spF (wx X Φ) (K.call g) br ps.length (xs ++ dvs) H Q (zE Z) := by
  unfold callV at h
  split at h
  · rename_i ds os e
    obtain ⟨z, hp⟩ := frzs_ok e r rv
    have R1 := r.fz z
    have g1 := GoO.rebase h (z.ext (f := f) (H := H))
    obtain ⟨l1, l2⟩ := len none (ds ++ dfl) (not_bad g1)
    refine ⟨?_, fun b => A b ∨ InU f os b, none, ds ++ dfl, [], l2, start_none R1, ?_, back_none (fun c d H h σ' => zi c d _ σ' H h) R1 g1⟩
    · have q1 := RpA.length hp
      have q2 := RpA.length (hd H)
      simp only [ref0, List.length_nil, List.length_append, Nat.zero_add] at l1 ⊢
      omega
    · rw [ref0_none, show (st0 none).objs = [] from rfl, hid_none, List.map_append]
      exact Paired.app (PV_map hp) (PV_map (hd _))
  · exact h.elim
theorem sp_callr {K : Cfg} {g n : Nat} {a : Addr} {ps : List Str} {br : Bool} {A : Addr → Prop} {f : List Addr} {s : MS} {σ : St} {H : Hp} {Q : VK} {vs : List Val} {xs : List V} (zi : Zi Z) (len : ∀ inp args, K.call g inp args ≠ .bad → (ref0 inp).length + args.length = ps.length ∧ inp.isSome = br)
    (r : R (wx X Φ).toWd A f s σ H) (hn : f[n]? = some a) (rv : PV (wx X Φ).toWd f (hid A f s.objs H) xs vs) (h : GoO (wx X Φ) Z (RlV (wx X Φ)) A f s.objs σ H Q (callR K g n vs s)) :
    spF (wx X Φ) (K.call g) br ps.length (.ref a :: xs) H Q (zE Z) := by
  unfold callR at h
  split at h
  · rename_i ds os e
    obtain ⟨z, hp⟩ := frzs_ok e r rv
    have R1 := r.fz z
    have g1 := GoO.rebase h (z.ext (f := f) (H := H))
    split at g1
    · rename_i ys eo
      split at g1
      · rename_i inp ei
        have hys : ys = inp.map .d := by
          clear g1 eo
          induction ys generalizing inp with
          | nil => cases ei; rfl
          | cons y ys ih =>
            cases y with
            | d x =>
              unfold pures at ei
              split at ei
              · rename_i zs ez
                cases ei
                rw [ih zs ez]
                rfl
              · cases ei
            | ref _ => cases ei
            | fn _ => cases ei
        subst hys
        obtain ⟨l1, l2⟩ := len (some inp) ds (not_badR g1)
        have ha : InU f os a := ⟨n, _, hn, eo, rfl⟩
        refine ⟨?_, AL A f os a, some inp, ds, [a], l2, start_some R1 hn eo, ?_, back_some (fun c d H h σ' => zi c d _ σ' H h) R1 hn eo g1⟩
        · have q1 := RpA.length hp
          simp only [ref0, List.length_cons, List.length_nil] at l1 ⊢
          omega
        · show PV (wx X Φ).toWd [a] (hid (AL A f os a) [a] (st0 (some inp)).objs H) (.ref a :: xs) (.ref 0 :: ds.map .d)
          have eq : hid (AL A f os a) [a] (st0 (some inp)).objs H = hid A f os H := hid_some rfl ha
          rw [eq]
          exact .cons ⟨a, rfl, rfl⟩ (PV_map hp)
      · exact g1.elim
    · exact g1.elim
  · exact h.elim
/-- f(..) -/
theorem e_call {kwo : List (Str × PyData)} {x : Str} {p : Pos} {e : Expr} {es : List Expr} {K : Cfg} {g : Nat} {ps : List Str} {br : Bool} {F : MS → Out (List Val)} (zi : Zi Z) (tk : Takes X Z) (hgd : gd = true → X.A.guards = some []) (hr : Room k X.A) (hn : nameOk x = true) (hg : Gl X x) (hm : ∀ f, (wx X Φ).fc g = some f → X.mg x = some (.ref f))
    (Fa : FnAt gd X.prog X.w X.K X.mg X.base (wx X Φ) k g (K.call g) ps br kwo) (hs : (e :: es).all notStar = true) (ha : PA X (e :: es) (tA (wx X Φ) Z F)) : PE X (.Call (.Name x p) (e :: es) [] pos) (tE (wx X Φ) Z fun s => (F s).bind fun vs s1 => callV K g vs (kwo.map (·.2)) s1) := by
  obtain ⟨f, fd, h1, h2, h3, h4⟩ := Fa.ex
  obtain ⟨ds, dvs, d1, d2, d3⟩ := h4.dfl
  rw [List.all_cons, Bool.and_eq_true] at hs
  refine PE_imp (pe_callX h3 hgd hr hg (hm f h1) h2 d3 d1 (passesZ tk) ha (nameOk_ok hn).1 (starEach_cons hs.1) (starEach_plain hs.2)) fun σ H Q h => ?_
  obtain ⟨A, f1, s, r, h⟩ := h
  exact ⟨A, f1, s, r, h.of_bind fun vs s1 f1 H1 xs e1 eX R1 rv g1 => sp_call zi Fa.len R1 rv dvs d2 g1⟩
/-- f() -/
theorem e_call0 {kwo : List (Str × PyData)} {x : Str} {p : Pos} {K : Cfg} {g : Nat} {ps : List Str} {br : Bool} (zi : Zi Z) (tk : Takes X Z) (hgd : gd = true → X.A.guards = some []) (hr : Room k X.A) (hn : nameOk x = true) (hg : Gl X x) (hm : ∀ f, (wx X Φ).fc g = some f → X.mg x = some (.ref f))
    (Fa : FnAt gd X.prog X.w X.K X.mg X.base (wx X Φ) k g (K.call g) ps br kwo) : PE X (.Call (.Name x p) [] [] pos) (tE (wx X Φ) Z fun s => callV K g [] (kwo.map (·.2)) s) := by
  obtain ⟨f, fd, h1, h2, h3, h4⟩ := Fa.ex
  obtain ⟨ds, dvs, d1, d2, d3⟩ := h4.dfl
  refine PE_imp (pe_callX0 h3 hgd hr hg (hm f h1) h2 d3 d1 (passesZ tk) (nameOk_ok hn).1) fun σ H Q h => ?_
  obtain ⟨A, f1, s, r, h⟩ := h
  exact sp_call (vs := []) (xs := []) zi Fa.len r .nil dvs d2 h
/-- f(x, ..), x a list that is changed -/
theorem e_callr {kwo : List (Str × PyData)} (hkw : kwo = []) {x y : Str} {p p2 : Pos} {es : List Expr} {K : Cfg} {g i : Nat} {ps : List Str} {br : Bool} {F : MS → Out (List Val)} (zi : Zi Z) (tk : Takes X Z) (hgd : gd = true → X.A.guards = some []) (hr : Room k X.A) (hn : nameOk x = true) (hg : Gl X x) (hm : ∀ f, (wx X Φ).fc g = some f → X.mg x = some (.ref f))
    (Fa : FnAt gd X.prog X.w X.K X.mg X.base (wx X Φ) k g (K.call g) ps br kwo) (hN : X.N[i]? = some y) (hv : Vis X.env.scope y) (hny : nameOk y = true) (hs : es.all notStar = true) (ha : PA X es (tA (wx X Φ) Z F)) :
    PE X (.Call (.Name x p) (.Name y p2 :: es) [] pos) (tE (wx X Φ) Z fun s => match s.env[i]? with
      | some (some (.ref n)) => (F s).bind fun vs s1 => callR K g n vs s1
      | _ => .bad) := by
  obtain ⟨f, fd, h1, h2, h3, h4⟩ := Fa.ex
  have hp : PA X (.Name y p2 :: es) (tCons (tVar i) (tA (wx X Φ) Z F)) := pa_cons (pe_var hN hv (nameOk_ok hny).1 (nameOk_ok hny).2.1) ha rfl
  refine PE_imp (pe_callX h3 hgd hr hg (hm f h1) h2 (h4.all hkw) .nil (passesZ tk) hp (nameOk_ok hn).1 rfl (starEach_plain hs)) fun σ H Q h => ?_
  obtain ⟨A, f1, s, r, h⟩ := h
  dsimp only at h
  split at h
  · rename_i n en
    obtain ⟨u, e1, a, hn1, rfl⟩ := r.env i _ en
    refine ⟨.ref a, e1, A, f1, s, r, h.of_bind fun vs s1 f2 H1 xs e2 eX R1 rv g1 => ?_⟩
    have hn2 : f2[n]? = some a := by
      obtain ⟨t, et⟩ := eX.pre
      rw [et, List.getElem?_append_left (List.getElem?_eq_some_iff.mp hn1).1, hn1]
    show spF (wx X Φ) (K.call g) br ps.length ((.ref a :: xs) ++ []) H1 Q (zE Z)
    rw [List.append_nil]
    exact sp_callr zi Fa.len R1 hn2 rv g1
  · exact h.elim
/-- a call of a lambda that lies at a -/
theorem call_la {x : Str} {p : Pos} {e : Expr} {es : List Expr} {K : Cfg} {i g : Nat} {D : LamD} {F : MS → Out (List Val)} {a c : Addr} {A : Addr → Prop} {f1 : List Addr} {ms : MS} {pins : List (Addr × Obj)} {s : Shared} {σ : St} {H : Hp} {Q : VK}
    (La : ∃ ps, LamAt X.prog X.w X.K X.mg X.base (wx X Φ) k g (K.call g) D ps) (zi : Zi Z) (tk : Takes X Z) (hr : Room k X.A) (hN : X.N[i]? = some x) (hv : Vis X.env.scope x) (hn : nameOk x = true) (hs : notStar e = true ∧ es.all notStar = true) (ha : PA X (e :: es) (tA (wx X Φ) Z F))
    (I : L2.Inv X pins σ H s) (e1 : σ[i]? = some (some (.ref a))) (r : R (wx X Φ).toWd A f1 ms σ H) (ha1 : hid A f1 ms.objs H a = some (LamO a D c)) (hc1 : hid A f1 ms.objs H c = some (LamX.CodeO c D.q))
    (h : GoO (wx X Φ) Z (RlV (wx X Φ)) A f1 ms.objs σ H Q ((F ms).bind fun vs s1 => callV K g vs [] s1)) : wpAny (model X.prog X.w) X.A (eval (.Call (.Name x p) (e :: es) [] pos) X.env) (EP X pins σ Q) X.xe s := by
  obtain ⟨ps, La⟩ := La
  refine wpAny_Call_Name_kw (thn ((pe_var (pos := p) hN hv (nameOk_ok hn).1 (nameOk_ok hn).2.1).run pins s σ H (fun v H1 => v = .ref a ∧ H1 = H) I ⟨.ref a, e1, rfl, rfl⟩) fun u s1 ⟨v, H1, I1, r1, q1⟩ => ?_)
  obtain ⟨ev, eH⟩ := q1
  subst ev
  rw [eH] at I1
  obtain rfl : u = Value.ref a := r1
  have here := lamO_at I1.hok (hid_sub _ _ ha1)
  refine PySem.W.callWith_F (first := []) here (thn (ha.run pos pins s1 σ H (fun vs H2 => H2 a = some (LamO a D c) ∧ H2 c = some (LamX.CodeO c D.q) ∧ spF (wx X Φ) (K.call g) false ps.length vs H2 Q (zE Z)) I1 ?_) fun us s2 ⟨vs, H2, I2, r2, h1, h2, q⟩ => ⟨lamO_at I2.hok h1, ?_⟩) (starEach_cons hs.1) (starEach_plain hs.2)
  · refine ⟨A, f1, ms, r, h.of_bind fun vs s1 f2 H1 xs e1 eX R1 rv g1 => ?_⟩
    refine ⟨hid_sub _ _ (eX.same _ _ ha1), hid_sub _ _ (eX.same _ _ hc1), ?_⟩
    have z := sp_call zi La.len R1 rv [] (fun _ => .nil) g1
    rwa [List.append_nil] at z
  show wpAny _ _ (call (.ref a) us) _ _ _
  refine wpAny_call (codeAny_mono (La.run X.A X.stack s2 H2 a c us vs Q (zE Z) hr I2.env0 h1 h2 r2 q) fun o s' hq => ?_)
  rcases o with er | fl
  · exact passesZ tk pins σ H2 s2 er s' I2 hq
  · rcases fl with _ | _ | _ | u
    all_goals first | exact I2.after hq | exact (show False from hq).elim
/-- x(..), x a name that holds a def -/
theorem e_callv {x : Str} {p : Pos} {e : Expr} {es : List Expr} {K : Cfg} {i : Nat} {F : MS → Out (List Val)} (zi : Zi Z) (tk : Takes X Z) (hr : Room k X.A) (hn : nameOk x = true) (hN : X.N[i]? = some x) (hv : Vis X.env.scope x)
    (Fa : ∀ g f, (wx X Φ).fa g = some f → (wx X Φ).fc g = some f ∧ ∃ ps br kwo, FnAt false X.prog X.w X.K X.mg X.base (wx X Φ) k g (K.call g) ps br kwo ∧ K.dfl g = kwo.map (·.2)) (La : ∀ g D, (wx X Φ).la g = some D → (∃ ps, LamAt X.prog X.w X.K X.mg X.base (wx X Φ) k g (K.call g) D ps) ∧ K.dfl g = []) (hs : (e :: es).all notStar = true) (ha : PA X (e :: es) (tA (wx X Φ) Z F)) :
    PE X (.Call (.Name x p) (e :: es) [] pos) (tE (wx X Φ) Z fun s => match s.env[i]? with
      | some (some (.fn g)) => (F s).bind fun vs s1 => callV K g vs (K.dfl g) s1
      | _ => .bad) := by
  rw [List.all_cons, Bool.and_eq_true] at hs
  refine ⟨fun pins s σ H Q I h => ?_⟩
  obtain ⟨A, f1, ms, r, h⟩ := h
  dsimp only at h
  split at h
  · rename_i g en
    obtain ⟨u, e1, a, rfl, hf⟩ := r.env i _ en
    rcases hf with hf | ⟨D, c, hD, ha1, hc1⟩
    rotate_left
    · obtain ⟨La1, La2⟩ := La g D hD
      rw [La2] at h
      exact call_la (i := i) (a := a) (c := c) La1 zi tk hr hN hv hn hs ha I e1 r ha1 hc1 h
    obtain ⟨hf2, ps, br, kwo, Fb, hd⟩ := Fa g a hf
    obtain ⟨f, fd, h1, h2, h3, h4⟩ := Fb.ex
    obtain ⟨ds, dvs, d1, d2, d3⟩ := h4.dfl
    rw [hd] at h
    have ea : f = a := Option.some.inj (h1.symm.trans hf2)
    subst ea
    refine (pe_callL (i := i) (dvs := dvs) (E := zE Z) h3.ok hr hN hv h2 d3 d1 (passesZ tk) ha (nameOk_ok hn).1 (nameOk_ok hn).2.1 (starEach_cons hs.1) (starEach_plain hs.2)).run pins s σ H Q I ⟨e1, A, f1, ms, r, h.of_bind fun vs s1 f2 H1 xs e2 eX R1 rv g1 => sp_call zi Fb.len R1 rv dvs d2 g1⟩
  · exact h.elim
end
end MI

set_option Elab.async false
set_option linter.all false
set_option maxRecDepth 100000
set_option maxHeartbeats 1000000
/-! MI: a def that calls a lambda within a try. -/
namespace MI
open PySem PySem.Spec L2
open PyProof.Rows hiding St

/-! ### try with several clauses, some of them with a name -/
abbrev SuT := Addr → Value → Option Addr → TS
def namedD (i : Nat) (D : Ends) : Ends := { nx := fun σ' H' => D.nx (σ'.set i none) H', rt := D.rt, bk := fun σ' H' => D.bk (σ'.set i none) H', ct := fun σ' H' => D.ct (σ'.set i none) H' }
/-- what the clauses wish of the body's exception -/
def wMix (K : PySem.W.Frag) (n : Nat) (Wout : L2.WX) (D : Ends) : List (Value × Option Nat × SuT) → L2.WX
  | [] => Wout
  | (c, none, ts) :: r => fun cls d σ H => ∃ b, PySem.W.exmOne K cls c = some b ∧ (b = true → ∀ a, H a = none → ts a cls d D σ H) ∧ (b = false → wMix K n Wout D r cls d σ H)
  | (c, some i, ts) :: r => fun cls d σ H => ∃ b, PySem.W.exmOne K cls c = some b ∧ (b = true → ∀ a, H a = none → σ.length = n → ts a cls d (namedD i D) (σ.set i (some (.ref a))) H) ∧ (b = false → wMix K n Wout D r cls d σ H)
abbrev SuiteOk (X : Cx) (suite : List Stmt) (ts : SuT) : Prop := ∀ (a : Addr) (oe : Obj) (cls : Value) (d : Option Addr) (pn : List (Addr × Obj)), Zc cls d oe → (∃ vs, oe.data = .fields vs) → PSs (X.suite a ((a, oe) :: pn)) suite (ts a cls d)
inductive HdsMix (X : Cx) : List ExceptHandler → List (Value × Option Nat × SuT) → Prop
  | nil : HdsMix X [] []
  | plain {x : Str} {c : Value} {ts : SuT} {b₀ : Stmt} {su : List Stmt} {np hp : Pos} {hds : List ExceptHandler} {l : List (Value × Option Nat × SuT)} (hc : Names X x c) (hsu : SuiteOk X (b₀ :: su) ts) (r : HdsMix X hds l) :
      HdsMix X (.ExceptHandler (some (.Name x np)) none (b₀ :: su) hp :: hds) ((c, none, ts) :: l)
  | named {x n : Str} {i : Nat} {c : Value} {ts : SuT} {b₀ : Stmt} {su : List Stmt} {np hp : Pos} {hds : List ExceptHandler} {l : List (Value × Option Nat × SuT)} (hc : Names X x c) (hN : X.N.Nodup) (hi : X.N[i]? = some n) (hl : X.env.kindOf n = some .local) (hsu : SuiteOk X (b₀ :: su) ts) (r : HdsMix X hds l) :
      HdsMix X (.ExceptHandler (some (.Name x np)) (some n) (b₀ :: su) hp :: hds) ((c, some i, ts) :: l)
section
variable {X : Cx} {pos : Pos}
theorem ps_try_mix {body : List Stmt} {h₀ : ExceptHandler} {hds : List ExceptHandler} {l : List (Value × Option Nat × SuT)} {tb : L2.WX → TS} {Wout : L2.WX} (hs : X.stack = X.env :: X.outer) (hf : X.env.frame = some X.env.locals) (tk : Takes X Wout)
    (hb : ∀ (W : L2.WX) (pn : List (Addr × Obj)) (xe : Value → Shared → Prop), Takes (X.tr pn xe) W → PassesOwn (model X.prog X.w) X.A X.env xe → PSs (X.tr pn xe) body (tb W)) (hh : HdsMix X (h₀ :: hds) l) :
    PS X (.Try body (h₀ :: hds) [] [] pos) (fun D σ H => tb (wMix X.K X.N.length Wout D l) D σ H) := by
  refine ⟨fun pins s σ H D I hq => wpAny_Try_except ?_⟩
  have ok := I.ok
  have fr : X.A.frames = some (X.env :: X.outer) := by rw [ok.frames, hs]
  refine wpAny_mono ((hb (wMix X.K X.N.length Wout D l) (X.pn ++ pins) (fun e s₁ => wpAny (model X.prog X.w) X.A (noteFrame e X.env) (fun _ s₂ => wpAny (model X.prog X.w) X.A (setFlight e none) (fun _ s₃ =>
    wpAny (model X.prog X.w) X.A (handleBy e X.env (h₀ :: hds)) (SP X pins D) X.xe s₃) X.xe s₂) X.xe s₁) (fun u s' air => ?_) PassesOwn.looking).run [] s σ H D (I.toTry _) hq) (fun fl s1 e => ?_) fun _ _ e => e
  rotate_left
  · rcases fl with _ | _ | _ | u
    · obtain ⟨σ', H', J, q⟩ := e
      exact wpAny_execs_nil ⟨σ', H', J.ofTry ok, q⟩
    · obtain ⟨σ', H', J, q⟩ := e
      exact ⟨σ', H', J.ofTry ok, q⟩
    · obtain ⟨σ', H', J, q⟩ := e
      exact ⟨σ', H', J.ofTry ok, q⟩
    · obtain ⟨v, σ', H', J, rv, q⟩ := e
      exact ⟨v, σ', H', J.ofTry ok, rv, q⟩
  obtain ⟨a, G, sI, pins', σ', H', cls, d, rfl, J', nb, up, sky, na, os, ag, wish⟩ := air
  have J : L2.Inv X pins σ' H' sI := J'.ofTry ok
  rw [hs] at sky
  refine Sky.land Zc.steady fr hf sky fun h3 fl3 up3 => ?_
  have J3 : L2.Inv X pins σ' H' { s' with heap := h3 } := J.landed nb fl3.1 (up.trans up3) os ag
  obtain ⟨oe3, vs3, he3, hz3, hd3⟩ := fl3.there
  have nfr : a ∉ frs (X.env :: X.outer) := fun hm => by
    obtain ⟨_, o', e', hnf⟩ := fl3.2.2.1.mem hm
    rw [he3] at e'
    cases e'
    exact hnf _ hd3
  have nL : a ≠ X.env.locals := fun z => nfr (List.mem_filterMap.mpr ⟨X.env, List.mem_cons_self, by rw [hf, z]⟩)
  have nF : a ∉ X.fs := fun hm => by
    obtain ⟨e, he, q⟩ := List.mem_filterMap.mp hm
    exact nfr (List.mem_filterMap.mpr ⟨e, List.mem_cons_of_mem _ he, q⟩)
  have S3 := J3.suite he3 hd3 na nL nF
  have LT : PySem.W.Looks (model X.prog X.w) h3 (typeOf (.ref a)) cls := fun A Q E s k q => wpAny_typeOf_ref (k _ _ he3) (by rw [hz3.1]; exact q)
  have test : ∀ {x : Str} {c : Value} {np : Pos} {Q : Value → Shared → Prop} {E : Value → Shared → Prop}, Names X x c → Q c { s' with heap := h3 } → wpAny (model X.prog X.w) (X.A.mark (some (.ref a))) (eval (.Name x np) X.env) Q E { s' with heap := h3 } := fun {x c np Q E} hc q => by
    obtain ⟨hg, hdb, hm | ⟨hm, hv, hn⟩⟩ := hc
    · exact ld_glob (X := X.suite a ((a, oe3) :: (X.pn ++ pins))) S3 hg hm q hdb
    · exact ld_blt (X := X.suite a ((a, oe3) :: (X.pn ++ pins))) S3 hg hm hv q hn hdb
  have go : ∀ {hds' : List ExceptHandler} {l' : List (Value × Option Nat × SuT)}, HdsMix X hds' l' → wMix X.K X.N.length Wout D l' cls d σ' H' → wpAny (model X.prog X.w) X.A (handleBy (.ref a) X.env hds') (SP X pins D) X.xe { s' with heap := h3 } := by
    intro hds' l' hk
    induction hk with
    | nil =>
      intro w
      refine wpAny_handleBy_nil ?_
      obtain ⟨k1, k2, k3, oe, vs, TT, oT, ts', he, hz, hd, h1, hr⟩ := id fl3
      unfold PySem.passOn
      refine wpAny_bind (wpAny_field he hd h1 ?_)
      rw [if_neg (show ¬ ((Value.ref TT == Value.none) = true) from by simp)]
      have fin : wpAny (model X.prog X.w) X.A (setFlight (.ref a) X.env.frame) (fun _ s4 => wpAny (model X.prog X.w) X.A (throw (.ref a) : PySem.Sem PySem.Flow) (SP X pins D) X.xe s4) X.xe { s' with heap := h3 } := by
        rw [hf]
        exact HandSPX.setFlight_upZ fl3 fun h4 hh4 up4 => wpAny_throw (tk _ _ ⟨a, G, sI, pins, σ', H', cls, d, rfl, J, nb, (up.trans up3).trans up4, .inr (.inr (by rw [hs]; exact hh4)), na, os, ag, w⟩)
      first
        | exact wpAny_bind (wpAny_pure (wpAny_bind fin))
        | exact wpAny_bind fin
    | @plain x c ts b₀ su np hp hds2 l2 hc hsu r ih =>
      intro w
      obtain ⟨b, hb1, yes, no⟩ := w
      refine wpAny_handleBy_cons (codeAny_handlers_test (test hc ((PySem.W.exm_one (M := model X.prog X.w) J3.kIn LT hb1).here ?_))) (by intro q; cases q)
      cases b with
      | false => exact ih (no rfl)
      | true =>
        refine codeAny_handlers_suite (HandSPX.lands_againZ fl3 fun h4 fl4 up4 => ?_)
        have J4 : L2.Inv X pins σ' H' { s' with heap := h4 } := J.landed nb fl4.1 ((up.trans up3).trans up4) os ag
        obtain ⟨oe4, vs4, he4, hz4, hd4⟩ := fl4.there
        refine wpAny_mono ((hsu a oe4 cls d (X.pn ++ pins) hz4 ⟨_, hd4⟩).run [] _ _ H' _ (J4.suite he4 hd4 na nL nF) (yes rfl a na)) (fun f s6 e => ?_) fun _ _ z => False.elim z
        rcases f with _ | _ | _ | u
        · obtain ⟨σ6, H6, S6, q6⟩ := e
          exact ⟨_, _, S6.unsuite ok, q6⟩
        · obtain ⟨σ6, H6, S6, q6⟩ := e
          exact ⟨_, _, S6.unsuite ok, q6⟩
        · obtain ⟨σ6, H6, S6, q6⟩ := e
          exact ⟨_, _, S6.unsuite ok, q6⟩
        · obtain ⟨v6, σ6, H6, S6, r6, q6⟩ := e
          exact ⟨_, _, _, S6.unsuite ok, r6, q6⟩
    | @named x n i c ts b₀ su np hp hds2 l2 hc hN hi hl hsu r ih =>
      intro w
      obtain ⟨b, hb1, yes, no⟩ := w
      refine wpAny_handleBy_cons (codeAny_handlers_test (test hc ((PySem.W.exm_one (M := model X.prog X.w) J3.kIn LT hb1).here ?_))) (by intro q; cases q)
      cases b with
      | false => exact ih (no rfl)
      | true =>
        refine codeAny_handlers_suite_as (HandSPX.lands_againZ fl3 fun h4 fl4 up4 => ?_)
        have J4 : L2.Inv X pins σ' H' { s' with heap := h4 } := J.landed nb fl4.1 ((up.trans up3).trans up4) os ag
        obtain ⟨oe4, vs4, he4, hz4, hd4⟩ := fl4.there
        refine store_ok (X := X.suite a ((a, oe4) :: (X.pn ++ pins))) (v := .ref a) (J4.suite he4 hd4 na nL nF) hN hi (.inl hl) rfl (fun s5 S5 => ?_) (.inr hl)
        refine wpAny_mono ((hsu a oe4 cls d (X.pn ++ pins) hz4 ⟨_, hd4⟩).run [] s5 _ H' _ S5 (yes rfl a na J.len)) (fun f s6 e => ?_) fun _ _ z => False.elim z
        have out : ∀ {σ6 : St} {H6 : Hp} {Q : Shared → Prop}, L2.Inv (X.suite a ((a, oe4) :: (X.pn ++ pins))) [] σ6 H6 s6 → (∀ s7, L2.Inv X pins (σ6.set i none) H6 s7 → Q s7) →
            wpAny (model X.prog X.w) X.A (do bindName X.env n .none; unbindBehindTheSuite X.env n hp) (fun _ s7 => Q s7) X.xe s6 := fun {σ6 H6 Q} S6 hq => gone_ok (S6.unsuite ok) hN hi hl hq
        rcases f with _ | _ | _ | u
        · obtain ⟨σ6, H6, S6, q6⟩ := e
          exact out S6 fun s7 J7 => ⟨_, _, J7, q6⟩
        · obtain ⟨σ6, H6, S6, q6⟩ := e
          exact out S6 fun s7 J7 => ⟨_, _, J7, q6⟩
        · obtain ⟨σ6, H6, S6, q6⟩ := e
          exact out S6 fun s7 J7 => ⟨_, _, J7, q6⟩
        · obtain ⟨v6, σ6, H6, S6, r6, q6⟩ := e
          exact out S6 fun s7 J7 => ⟨_, _, _, J7, r6, q6⟩
  exact go hh wish
end

/-! ### the clauses -/
/-- what the answers ask, clause by clause -/
def EchM (W : Wx) (K : PySem.W.Frag) (Q : VK) : List (Nat × HR) → XK
  | [] => fun _ _ _ => False
  | (h, .con d) :: r => fun cls dd H => ∃ C k b, W.ca h = some (C, k) ∧ PySem.W.exmOne K cls (.ref C) = some b ∧ (b = true → ∃ z, d = .str z ∧ Q (.str z) H) ∧ (b = false → EchM W K Q r cls dd H)
  | (h, .kept d) :: r => fun cls dd H => ∃ C k b, W.ca h = some (C, some k) ∧ PySem.W.exmOne K cls (.ref C) = some b ∧ (b = true → ∃ z d1 v, d = .str z ∧ cls = .ref C ∧ dd = some d1 ∧ H d1 = some (.xd [(k, v)]) ∧ ∀ p, H p = none → Q (.ref p) (upd H p (.tup [.str z, v]))) ∧
      (b = false → EchM W K Q r cls dd H)
def TTm (W : Wx) (K : PySem.W.Frag) (tv : V) (hs : List (Nat × HR)) : (XK → Hp → VK → Prop) → Hp → VK → Prop := fun tl H Q => tl (EchM W K Q hs) H fun v H1 => ∀ p, H1 p = none → Q (.ref p) (upd H1 p (.tup [tv, v]))
/-- the clauses of such a def -/
def hdsOf (exn : List (Str × Nat × Bool)) (N : List Str) (sg : Scope) (fld : Str) : List ExceptHandler → Option (List (Nat × HR))
  | [] => some []
  | .ExceptHandler (some (.Name x _)) none [.Return (some (.Constant (.str z) _ _)) _] _ :: r => match exn.lookup x, hdsOf exn N sg fld r with
    | some (k, _), some l => if isGl sg x && nameOk x then some ((k, .con (.str z)) :: l) else none
    | _, _ => none
  | .ExceptHandler (some (.Name x _)) (some n) [.Return (some (.Tuple [.Constant (.str z) _ _, .Attribute (.Name m _) f _] _ _)) _] _ :: r => match exn.lookup x, hdsOf exn N sg fld r with
    | some (k, true), some l => if isGl sg x && nameOk x && nameOk m && decide (N[1]? = some n) && isPlain sg n && decide (m = n) && decide (f = fld) then some ((k, .kept (.str z)) :: l) else none
    | _, _ => none
  | _ => none
/-- the module's exceptions -/
structure ExnAt (X : Cx) (Φ : Fx) (exn : List (Str × Nat × Bool)) (sub : Nat → Nat → Bool) (fld : Str) : Prop where
  name : ∀ x k b, exn.lookup x = some (k, b) → ∃ C kk, Φ.ca k = some (C, kk) ∧ X.mg x = some (.ref C) ∧ (b = true → kk = some fld)
  one : ∀ c h C Ch kc kh, Φ.ca c = some (C, kc) → Φ.ca h = some (Ch, kh) → PySem.W.exmOne X.K (.ref C) (.ref Ch) = some (sub c h)
  fld : ∀ k C z, Φ.ca k = some (C, some z) → z = fld ∧ XfC X.K C ∧ PySem.W.findIn X.K (.ref C) fld = some none
  inj : ∀ c k q C z, Φ.ca c = some q → Φ.ca k = some (C, some z) → sub c k = true → c = k
def W0 : L2.WX := fun _ _ _ _ => False
theorem hds_mix {Y : Cx} {Φ : Fx} {exn : List (Str × Nat × Bool)} {sub : Nat → Nat → Bool} {fld : Str} {sg : Scope} (E : ExnAt Y Φ exn sub fld) (hsc : Y.env.scope = sg) (hN : Y.N.Nodup) : ∀ {hds : List ExceptHandler} {hs : List (Nat × HR)}, hdsOf exn Y.N sg fld hds = some hs →
    ∃ l, HdsMix Y hds l ∧ ∀ (D : Ends) (cls : Value) (d : Option Addr) (σ' : St) (H' : Hp), EchM (wx Y Φ) Y.K D.rt hs cls d H' → wMix Y.K Y.N.length W0 D l cls d σ' H' := by
  intro hds
  induction hds with
  | nil =>
    intro hs h
    cases h
    exact ⟨[], .nil, fun D cls d σ' H' z => z.elim⟩
  | cons hd hds ih =>
    intro hs h
    unfold hdsOf at h
    split at h
    · rename_i heq
      cases heq
    · rename_i x np z j p1 p2 p3 r heq
      cases heq
      split at h
      · rename_i k b l' e1 e2
        split at h
        · rename_i hc
          rw [Bool.and_eq_true] at hc
          cases h
          obtain ⟨l, h1, h2⟩ := ih e2
          obtain ⟨C, kk, q1, q2, _⟩ := E.name x k b e1
          have hgl : Gl Y x := by
            show Y.env.scope.names.lookup x = _
            rw [hsc]
            exact isGl_ok hc.1
          refine ⟨(.ref C, none, fun a cls d D σ H => D.rt (.str z) H) :: l, .plain ⟨hgl, (nameOk_ok hc.2).1, .inl q2⟩ (fun a oe cls d pn _ _ => PSs_imp (pss_one (ps_ret pe_str)) fun D σ H h => h) h1, fun D cls d σ' H' he => ?_⟩
          obtain ⟨C', k', b', g1, g2, g3, g4⟩ := he
          have eC : C' = C := by
            have g1' : Φ.ca k = some (C', k') := g1
            rw [q1] at g1'
            cases g1'
            rfl
          subst eC
          refine ⟨b', g2, fun hb a _ => ?_, fun hb => h2 D cls d σ' H' (g4 hb)⟩
          obtain ⟨z', e, q⟩ := g3 hb
          cases e
          exact q
        · cases h
      · cases h
    · rename_i x np n z j pz m pm f pf kt pt pr hp r heq
      cases heq
      split at h
      · rename_i k l' e1 e2
        split at h
        · rename_i hc
          simp only [Bool.and_eq_true, decide_eq_true_eq] at hc
          obtain ⟨⟨⟨⟨⟨⟨c1, c2⟩, c3⟩, c4⟩, c5⟩, c6⟩, c7⟩ := hc
          cases h
          subst c6 c7
          obtain ⟨l, h1, h2⟩ := ih e2
          obtain ⟨C, kk, q1, q2, q3⟩ := E.name x k true e1
          have q3 := q3 rfl
          subst q3
          obtain ⟨_, xf, nf⟩ := E.fld k C _ q1
          have hgl : Gl Y x := by
            show Y.env.scope.names.lookup x = _
            rw [hsc]
            exact isGl_ok c1
          have hm : Y.env.scope.names.lookup m = some .local := by
            rw [hsc]
            exact isPlain_ok c5
          refine ⟨(.ref C, some 1, fun a cls d D σ H => tXf a cls d C f (tVar 1) σ H fun v H1 => ∀ p, H1 p = none → D.rt (.ref p) (upd H1 p (.tup [.str z, v]))) :: l, .named ⟨hgl, (nameOk_ok c2).1, .inl q2⟩ hN c4 hm (fun a oe cls d pn hz hf => ?_) h1, fun D cls d σ' H' he => ?_⟩
          · have hv : PE (Y.suite a ((a, oe) :: pn)) (.Name m pm) (tVar 1) := pe_var (X := Y.suite a ((a, oe) :: pn)) c4 (.inl hm) (nameOk_ok c3).1 (nameOk_ok c3).2.1
            refine PSs_imp (pss_one (ps_ret (pe_tup (pa_cons pe_str (pa_cons (pe_xf xf nf hz hf hv) pa_nil))))) fun D σ H h => ?_
            obtain ⟨w, e1, e2, e3, dd, fs, v, e4, e5, e6, e7⟩ := h
            exact ⟨w, e1, e2, e3, dd, fs, v, e4, e5, e6, by show 2 ≤ sizeLine; rw [line_eq]; decide, e7⟩
          · obtain ⟨C', k', b', g1, g2, g3, g4⟩ := he
            have eC : C' = C ∧ k' = f := by
              have g1' : Φ.ca k = some (C', some k') := g1
              rw [q1] at g1'
              cases g1'
              exact ⟨rfl, rfl⟩
            obtain ⟨rfl, rfl⟩ := eC
            refine ⟨b', g2, fun hb a _ hlen => ?_, fun hb => h2 D cls d σ' H' (g4 hb)⟩
            obtain ⟨z', d1, v, e, r1, r2, r3, r4⟩ := g3 hb
            cases e
            have hlt : 1 < σ'.length := by
              rw [hlen]
              exact (List.getElem?_eq_some_iff.mp c4).1
            exact ⟨.ref a, by rw [List.getElem?_set_self hlt], rfl, r1, d1, _, v, r2, r3, by simp [List.lookup], r4⟩
        · cases h
      · cases h
    · cases h
theorem tries_give {X : Cx} {Φ : Fx} {exn : List (Str × Nat × Bool)} {sub : Nat → Nat → Bool} {fld : Str} {sg : Scope} {Ng : List Str} {x a q t : Str} {g : Addr} {cdg : Value} {hd0 : ExceptHandler} {hds : List ExceptHandler} {hs : List (Nat × HR)} {j kt : Nat} {p0 p1 p2 pt p3 p8 : Pos}
    (E : ExnAt X Φ exn sub fld) (hN : Ng.Nodup) (h0 : ∀ f : Addr, (L2.start Ng [V.ref f])[0]? = some (some (V.ref f))) (hh : hdsOf exn Ng sg fld (hd0 :: hds) = some hs) :
    LamX.GivesTo X Ng x sg g cdg [.Try [.Return (some (.Tuple [.Constant (.str t) j p0, .Call (.Name a p1) [] [] p2] kt pt)) p3] (hd0 :: hds) [] [] p8] a q (TTm (wx X Φ) X.K (.str t) hs) := by
  intro f c' s H Q tl act hc h
  have E' : ExnAt (cxOf C8.CX0 X.prog X.w X.K X.mg X.base Ng x sg g cdg X.A X.stack s H C8.E0).nox Φ exn sub fld := ⟨E.name, E.one, E.fld, E.inj⟩
  obtain ⟨l, h1, h2⟩ := hds_mix (Y := (cxOf C8.CX0 X.prog X.w X.K X.mg X.base Ng x sg g cdg X.A X.stack s H C8.E0).nox) (Φ := Φ) E' rfl hN hh
  refine ⟨_, pss_one (ps_try_mix (X := (cxOf C8.CX0 X.prog X.w X.K X.mg X.base Ng x sg g cdg X.A X.stack s H C8.E0).nox) (Wout := W0)
      (tb := fun W D σ H => ∃ Ech : XK, (∀ cls d σ' H', Ech cls d H' → W cls d σ' H') ∧ σ[0]? = some (some (.ref f)) ∧ H c' = some (LamX.CodeO c' q) ∧ tl Ech H fun v H1 => ∀ p, H1 p = none → D.rt (.ref p) (upd H1 p (.tup [.str t, v])))
      rfl rfl LamX.takes0 (fun W pn xe tk _ => ?_) h1), ?_⟩
  · refine ⟨fun pins s' σ H' D I h' => ?_⟩
    obtain ⟨Ech, hW, e1, e2, e3⟩ := h'
    have hp := act W pn xe Ech p1 p2 tk hW
    have hq := pss_one (ps_ret (pos := p3) (pe_tup (x1 := kt) (pos := pt) (pa_cons (pe_str (x := t) (j := j) (pos := p0)) (pa_cons hp pa_nil))))
    refine hq.run pins s' σ H' D I ⟨e1, e2, ?_⟩
    have e4 : (fun (v : V) (H1 : Hp) => ([V.str t, v] : List V).length ≤ sizeLine ∧ ∀ p, H1 p = none → D.rt (.ref p) (upd H1 p (.tup [.str t, v]))) = fun v H1 => ∀ p, H1 p = none → D.rt (.ref p) (upd H1 p (.tup [.str t, v])) := by
      funext v H1
      have : ([V.str t, v] : List V).length ≤ sizeLine := by show 2 ≤ sizeLine; rw [line_eq]; decide
      exact propext ⟨fun z => z.2, fun z => ⟨this, z⟩⟩
    rw [← e4] at e3
    exact e3
  · exact ⟨EchM (wx X Φ) X.K Q hs, fun cls d σ' H' z => h2 _ cls d σ' H' z, h0 f, hc, h⟩
/-- what the clauses are -/
def HsOk (Φ : Fx) (hs : List (Nat × HR)) : Prop := ∀ p ∈ hs, ∃ C k, Φ.ca p.1 = some (C, k) ∧ match p.2 with
  | .con d => ∃ z, d = .str z
  | .kept d => (∃ z, d = .str z) ∧ ∃ f, k = some f
theorem hs_ok {X : Cx} {Φ : Fx} {exn : List (Str × Nat × Bool)} {sub : Nat → Nat → Bool} {fld : Str} {sg : Scope} {N : List Str} (E : ExnAt X Φ exn sub fld) : ∀ {hds : List ExceptHandler} {hs : List (Nat × HR)}, hdsOf exn N sg fld hds = some hs → HsOk Φ hs := by
  intro hds
  induction hds with
  | nil =>
    intro hs h
    cases h
    exact fun p hp => by cases hp
  | cons hd hds ih =>
    intro hs h
    unfold hdsOf at h
    split at h
    · rename_i heq
      cases heq
    · rename_i heq
      cases heq
      split at h
      · rename_i k b l' e1 e2
        split at h
        · cases h
          obtain ⟨C, kk, q1, _, _⟩ := E.name _ k b e1
          intro p hp
          rcases List.mem_cons.mp hp with rfl | hp
          · exact ⟨C, kk, q1, _, rfl⟩
          · exact ih e2 p hp
        · cases h
      · cases h
    · rename_i heq
      cases heq
      split at h
      · rename_i k l' e1 e2
        split at h
        · cases h
          obtain ⟨C, kk, q1, _, q3⟩ := E.name _ k true e1
          intro p hp
          rcases List.mem_cons.mp hp with rfl | hp
          · exact ⟨C, kk, q1, ⟨_, rfl⟩, _, q3 rfl⟩
          · exact ih e2 p hp
        · cases h
      · cases h
    · cases h
/-- a def that calls what it gets, in a try: as its callers know it -/
structure TryAt (X : Cx) (Φ : Fx) (sub : Nat → Nat → Bool) (x t : Str) (hs : List (Nat × HR)) : Prop where
  exn : ∃ exn fld, ExnAt X Φ exn sub fld
  ok : HsOk Φ hs
  ex : ∃ (g c P : Addr) (pg : Arguments) (bg : List Stmt) (sg : Scope) (dV kV doc pm cdv ct oc : Value) (an od : Option Addr) (osl : Array (Option Value)) (Ng : List Str) (a : Str), X.mg x = some (.ref g) ∧ PySem.W.keepIn X.K (.ref g) = true ∧
    X.K.lookup g = some ⟨oc, od, .func (PySem.W.fnOf x x pg bg sg dV kV doc pm an cdv ct), osl⟩ ∧ PySem.W.codeIn X.K cdv x = true ∧ Binds X.K (PySem.W.fnOf x x pg bg sg dV kV doc pm an cdv ct) [a] [] ∧ FnScope Ng [a] sg ∧ Ng[0]? = some a ∧ Vis sg a ∧
    LamX.GivesTo X Ng x sg g cdv bg a (X.env.qual ++ "<lambda>") (TTm (wx X Φ) X.K (.str t) hs) ∧ LamX.TabB X.base X.mg c P ∧ X.env.code = .ref c ∧ (P, X.env.qual ++ "<lambda>") ∈ Φ.T ∧ (∀ p ∈ Φ.T, p.1 = P → p.2 = X.env.qual ++ "<lambda>") ∧ nameOk a = true
section
variable {X : Cx} {Φ : Fx} {Z : L2.WX} {pos : Pos}
theorem ech_of {sub : Nat → Nat → Bool} {cls : Value} {dd : Option Addr} {c : Nat} {x : PyData} {A : Addr → Prop} {f : List Addr} {s : MS} {σ : St} {H : Hp} {Q : VK} (hE : ∃ exn fld, ExnAt X Φ exn sub fld) (r : R (wx X Φ).toWd A f s σ H) (hx : ExcR (wx X Φ).toWd (wx X Φ).ca (hid A f s.objs H) cls dd c x) :
    ∀ {hs : List (Nat × HR)} {k : HR}, HsOk Φ hs → caught sub c hs = some k → GoO (wx X Φ) Z (RlV (wx X Φ)) A f s.objs σ H Q (.ok (.d (hrOf x k)) s) → EchM (wx X Φ) X.K Q hs cls dd H := by
  obtain ⟨exn, fld, E⟩ := hE
  intro hs
  induction hs with
  | nil => intro k _ h; cases h
  | cons hd hs ih =>
    intro k ok h g
    obtain ⟨h0, r0⟩ := hd
    obtain ⟨C, kk, q1, q2⟩ := ok _ List.mem_cons_self
    obtain ⟨a, ke, p1, rfl, p3⟩ := hx
    have one := E.one c h0 a C ke kk p1 q1
    have tl : sub c h0 = false → EchM (wx X Φ) X.K Q hs (.ref a) dd H := fun hb => by
      unfold caught at h
      rw [hb] at h
      exact ih (fun p hp => ok p (List.mem_cons_of_mem _ hp)) h g
    cases r0 with
    | con d =>
      refine ⟨C, kk, _, q1, one, fun hb => ?_, tl⟩
      unfold caught at h
      rw [hb] at h
      cases h
      obtain ⟨z, rfl⟩ := q2
      exact ⟨z, rfl, g f H (.str z) (Ext.refl _ _ _) r (Rp.str z)⟩
    | kept d =>
      obtain ⟨⟨z, rfl⟩, fl, rfl⟩ := q2
      refine ⟨C, fl, _, q1, one, fun hb => ?_, tl⟩
      unfold caught at h
      rw [hb] at h
      cases h
      have ec := E.inj c h0 _ C fl p1 q1 hb
      subst ec
      have p1' : Φ.ca c = some (a, ke) := p1
      rw [q1] at p1'
      cases p1'
      obtain ⟨d1, v, rfl, p4, p5⟩ := p3
      refine ⟨z, d1, v, rfl, rfl, rfl, hid_sub _ _ p4, fun p hp => ?_⟩
      exact go_tuple (W := wx X Φ) (us := [.str z, v]) g r (.cons (.str z) (.cons p5 .nil)) hp
def trylG (sub : Nat → Nat → Bool) (hs : List (Nat × HR)) (tag : PyData) (E : MS → Out Val) (s : MS) : Out Val := match E s with
  | .ok v s1 => pureV s1 v fun x s2 => .ok (.d (.tuple [tag, x])) s2
  | .exc c x s1 => match caught sub c hs with
    | some r => .ok (.d (hrOf x r)) s1
    | none => .bad
  | .bad => .bad
/-- x(lambda: body) -/
theorem e_tryl {x t : Str} {p lpos : Pos} {params : Arguments} {body : Expr} {scope : Scope} {sub : Nat → Nat → Bool} {E : MS → Out Val} {hs : List (Nat × HR)} {k : Nat} (T : TryAt X Φ sub x t hs) (hn : nameOk x = true) (hg : Gl X x) (hr : Room (k + 2) X.A) (L : LamX.lamSB X.env.scope scope = true) (hp : noParams params = true)
    (hbody : ∀ (A : Around) (outer : List Env) (s : Shared) (H : Hp) (Ex : XK) (f c' : Addr), Room k (A.deeper (LamX.lamEnv X scope s.heap.objs.size f c')) → PE (LamX.lamCx X A outer s H Ex scope f c') body (tE (wx X Φ) (fun c d _ H => Ex c d H) E)) :
    PE X (.Call (.Name x p) [.Lambda params body scope lpos] [] pos) (tE (wx X Φ) Z (trylG sub hs (.str t) E)) := by
  obtain ⟨g, c, P, pg, bg, sg, dV, kV, doc, pm, cdv, ct, oc, an, od, osl, Ng, a, hm, hk, lk, hcg, hb, Sg, hNg, hva, hG, TB, hcode, hmT, hu, hna⟩ := T.ex
  have ep : params = ⟨[], [], none, [], [], none, []⟩ := by
    unfold noParams at hp
    split at hp
    · rfl
    · cases hp
  refine PE_imp (LamX.pe_lamcall (t := fun Ex => tE (wx X Φ) (fun c d _ H => Ex c d H) E) hg hm hk lk hcg hb Sg hNg hva hG TB hcode hmT hu hr (LamX.lamS_by L) (by subst ep; rfl) (by subst ep; exact fun _ _ _ _ _ => rfl) hbody (nameOk_ok hn).1 (nameOk_ok hna).1 (nameOk_ok hna).2.1) fun σ H Q h => ?_
  obtain ⟨A, f, s, r, h⟩ := h
  refine ⟨r.tabs, fun H1 eN T1 => ?_⟩
  have ex1 : Ext f s.objs H f s.objs H1 := ⟨⟨[], by simp⟩, fun b o e _ nt => eN b o e nt, fun b hb => .inl hb⟩
  have r1 : R (wx X Φ).toWd A f s σ H1 := r.frameG (fun b hb => by
    obtain ⟨o, e, nt⟩ := r.own hb
    rw [e, eN b o e nt.1]) ex1.same T1 (r.hA' ex1) r.disj
  refine ⟨A, f, s, r1, ?_⟩
  replace h : GoO (wx X Φ) Z (RlV (wx X Φ)) A f s.objs σ H Q (trylG sub hs (.str t) E s) := h
  unfold trylG at h
  cases e : E s with
  | bad => rw [e] at h; exact h.elim
  | ok v s1 =>
    rw [e] at h
    intro f2 H2 u ex2 R2 ru q hq
    dsimp only at h
    unfold pureV at h
    split at h
    · rename_i y os ef
      obtain ⟨z, hy⟩ := frz_ok FD A f2 s1 σ H2 _ y _ u ef R2 ru
      have ez : Ext f2 s1.objs H2 f2 os H2 := z.ext
      exact go_tuple (W := wx X Φ) (us := [.str t, u]) (GoO.rebase h ((ex1.trans ex2).trans ez)) (R2.fz z) (.cons (.str t) (.cons hy .nil)) hq
    · exact h.elim
  | exc cx y s1 =>
    rw [e] at h
    intro f2 H2 cls dd ex2 R2 hx
    dsimp only at h
    split at h
    · rename_i k' ek
      exact ech_of T.exn R2 hx T.ok ek (GoO.rebase h (ex1.trans ex2))
    · exact h.elim
end
end MI

set_option Elab.async false
set_option linter.all false
set_option maxRecDepth 100000
set_option maxHeartbeats 2000000
/-! MI: a dict display of two entries; f(a, k = e). -/
namespace MI
open PySem PySem.Spec L2
open PyProof.Rows hiding St
section
variable {X : Cx} {Φ : Fx} {Z : L2.WX} {pos : Pos}
theorem hid_upd' {A : Addr → Prop} {f : List Addr} {os : List MO} {H : Hp} {D : Addr} {o' : HO} (hA : A D) : hid A f os (upd H D o') = hid A f os H := by
  funext b
  by_cases e : b = D
  · subst e
    unfold hid
    rw [if_pos (.inl hA), if_pos (.inl hA)]
  · unfold hid
    rw [upd_ne e]
theorem dicL_two {kv vv kv2 vv2 : Val} {kvs : List (PyData × Val)} (h : dicL [kv, kv2] [vv, vv2] [] = some kvs) : ∃ k k2, kv = .d k ∧ kv2 = .d k2 ∧ isKey k = true ∧ isFn vv = false ∧ isKey k2 = true ∧ keyFit k2 k = true ∧ isFn vv2 = false ∧ kvs = put k2 vv2 [(k, vv)] := by
  cases kv with
  | ref n => cases h
  | fn n => cases h
  | d k =>
    have e : dicL [.d k, kv2] [vv, vv2] [] = if isKey k && ([] : List (PyData × Val)).all (fun p => keyFit k p.1) && !isFn vv then dicL [kv2] [vv2] [(k, vv)] else none := rfl
    rw [e] at h
    split at h
    · rename_i hc
      simp only [Bool.and_eq_true] at hc
      cases kv2 with
      | ref n => cases h
      | fn n => cases h
      | d k2 =>
        have e : dicL [.d k2] [vv2] [(k, vv)] = if isKey k2 && [(k, vv)].all (fun p => keyFit k2 p.1) && !isFn vv2 then some (put k2 vv2 [(k, vv)]) else none := rfl
        rw [e] at h
        split at h
        · rename_i hc2
          simp only [Bool.and_eq_true, List.all_cons, List.all_nil, Bool.and_true] at hc2
          cases h
          exact ⟨k, k2, rfl, rfl, hc.1.1, by simpa using hc.2, hc2.1.1, hc2.1.2, by simpa using hc2.2, rfl⟩
        · cases h
    · cases h
theorem e_dic2 (hu : X.A.units + 65 < cLine) {k v k2 v2 : Expr} {E F E2 F2 : MS → Out Val} (hk : PE X k (tE (wx X Φ) Z E)) (hv : PE X v (tE (wx X Φ) Z F)) (hk2 : PE X k2 (tE (wx X Φ) Z E2)) (hv2 : PE X v2 (tE (wx X Φ) Z F2)) :
    PE X (.Dict [some k, some k2] [v, v2] pos) (tE (wx X Φ) Z fun s => (E s).bind fun kv s1 => (F s1).bind fun vv s2 => (E2 s2).bind fun kv2 s3 => (F2 s3).bind fun vv2 s4 => match dicL [kv, kv2] [vv, vv2] [] with
      | some kvs => newObj s4 (.dct kvs true)
      | none => .bad) := by
  refine ⟨fun pins st σ H Q I h => ?_⟩
  obtain ⟨A, f, s, r, g⟩ := h
  have hn : H st.heap.objs.size = none := I.hok.fresh (Nat.le_refl _)
  have I0 := I.laid (a := st.heap.objs.size) (o := .dK []) (h' := st.heap.push { cls := .type "dict", data := .dict #[] }) (t' := st.toks) (fun _ _ q => Heap.get?_push_of_some _ q) (Nat.le_refl _) (dk_empty st.heap I.big)
  obtain ⟨o, I1, hd⟩ := dct_empty I0
  have hA : ¬ A st.heap.objs.size := r.nA hn
  have ex0 : Ext f s.objs H f s.objs (upd H st.heap.objs.size (rawO st.heap.objs.size o)) := Ext.of_same (same_upd hn)
  have nt0 := raw_noTbl (H := upd H st.heap.objs.size (rawO st.heap.objs.size o)) (hd _ upd_same) upd_same
  have r0 : R (wx X Φ).toWd (plusA A st.heap.objs.size) f s σ (upd H st.heap.objs.size (rawO st.heap.objs.size o)) := r.hide hn nt0
  refine wpAny_Dict_any rfl rfl (by simp) (by simp) ?_
  refine pairTrees_cons_walk (thn (hk.run pins _ σ _ (fun x H1 => ∃ f1 s1 kv, Ext f s.objs H f1 s1.objs H1 ∧ R (wx X Φ).toWd (plusA A st.heap.objs.size) f1 s1 σ H1 ∧ RepV (wx X Φ).toWd f1 (hid (plusA A st.heap.objs.size) f1 s1.objs H1) x kv ∧ H1 st.heap.objs.size = some (rawO st.heap.objs.size o) ∧
      GoO (wx X Φ) Z (RlV (wx X Φ)) A f s.objs σ H Q ((F s1).bind fun vv s2 => (E2 s2).bind fun kv2 s3 => (F2 s3).bind fun vv2 s4 => match dicL [kv, kv2] [vv, vv2] [] with
      | some kvs => newObj s4 (.dct kvs true)
      | none => .bad)) I1 ⟨plusA A st.heap.objs.size, f, s, r0, g.of_bindA ex0 (fun b => .inl) fun kv s1 f1 H1 x e1 eX R1 rk g1 => ⟨f1, s1, kv, ex0.trans eX, R1, rk, eX.keep _ _ upd_same (fun z => r0.disj _ z.mem (.inr rfl)) nt0.1, g1⟩⟩) fun u s1 q => ?_)
  obtain ⟨x, H1, J1, rx, f1, ms1, kv, ex1, R1, rk, hr1, g1⟩ := q
  refine thn (hv.run pins _ σ _ (fun y H2 => ∃ f2 s2 vv, Ext f s.objs H f2 s2.objs H2 ∧ R (wx X Φ).toWd (plusA A st.heap.objs.size) f2 s2 σ H2 ∧ RepV (wx X Φ).toWd f2 (hid (plusA A st.heap.objs.size) f2 s2.objs H2) x kv ∧ RepV (wx X Φ).toWd f2 (hid (plusA A st.heap.objs.size) f2 s2.objs H2) y vv ∧ H2 st.heap.objs.size = some (rawO st.heap.objs.size o) ∧
      GoO (wx X Φ) Z (RlV (wx X Φ)) A f s.objs σ H Q ((E2 s2).bind fun kv2 s3 => (F2 s3).bind fun vv2 s4 => match dicL [kv, kv2] [vv, vv2] [] with
      | some kvs => newObj s4 (.dct kvs true)
      | none => .bad)) J1 ⟨plusA A st.heap.objs.size, f1, ms1, R1, g1.of_bindA ex1 (fun b => .inl) fun vv s2 f2 H2 y e2 eY R2 rv g2 => ⟨f2, s2, vv, ex1.trans eY, R2, rk.ext eY, rv, eY.keep _ _ hr1 (fun z => R1.disj _ z.mem (.inr rfl)) nt0.1, g2⟩⟩) fun w s2 q => ?_
  obtain ⟨y, H2, J2, ry, f2, ms2, vv, ex2, R2, rk2, rv2, hr2, g2⟩ := q
  refine pairTrees_cons_walk (thn (hk2.run pins _ σ _ (fun x2 H3 => ∃ f3 s3 kv2, Ext f s.objs H f3 s3.objs H3 ∧ R (wx X Φ).toWd (plusA A st.heap.objs.size) f3 s3 σ H3 ∧ RepV (wx X Φ).toWd f3 (hid (plusA A st.heap.objs.size) f3 s3.objs H3) x kv ∧ RepV (wx X Φ).toWd f3 (hid (plusA A st.heap.objs.size) f3 s3.objs H3) y vv ∧ RepV (wx X Φ).toWd f3 (hid (plusA A st.heap.objs.size) f3 s3.objs H3) x2 kv2 ∧ H3 st.heap.objs.size = some (rawO st.heap.objs.size o) ∧
      GoO (wx X Φ) Z (RlV (wx X Φ)) A f s.objs σ H Q ((F2 s3).bind fun vv2 s4 => match dicL [kv, kv2] [vv, vv2] [] with
      | some kvs => newObj s4 (.dct kvs true)
      | none => .bad)) J2 ⟨plusA A st.heap.objs.size, f2, ms2, R2, g2.of_bindA ex2 (fun b => .inl) fun kv2 s3 f3 H3 x2 e3 eX R3 rk3 g3 => ⟨f3, s3, kv2, ex2.trans eX, R3, rk2.ext eX, rv2.ext eX, rk3, eX.keep _ _ hr2 (fun z => R2.disj _ z.mem (.inr rfl)) nt0.1, g3⟩⟩) fun u2 s3 q => ?_)
  obtain ⟨x2, H3, J3, rx2, f3, ms3, kv2, ex3, R3, rk3, rv3, rq3, hr3, g3⟩ := q
  refine thn (hv2.run pins _ σ _ (fun y2 H4 => ∃ f4 s4 vv2, Ext f s.objs H f4 s4.objs H4 ∧ R (wx X Φ).toWd (plusA A st.heap.objs.size) f4 s4 σ H4 ∧ RepV (wx X Φ).toWd f4 (hid (plusA A st.heap.objs.size) f4 s4.objs H4) x kv ∧ RepV (wx X Φ).toWd f4 (hid (plusA A st.heap.objs.size) f4 s4.objs H4) y vv ∧ RepV (wx X Φ).toWd f4 (hid (plusA A st.heap.objs.size) f4 s4.objs H4) x2 kv2 ∧ RepV (wx X Φ).toWd f4 (hid (plusA A st.heap.objs.size) f4 s4.objs H4) y2 vv2 ∧ H4 st.heap.objs.size = some (rawO st.heap.objs.size o) ∧
      GoO (wx X Φ) Z (RlV (wx X Φ)) A f s.objs σ H Q (match dicL [kv, kv2] [vv, vv2] [] with
      | some kvs => newObj s4 (.dct kvs true)
      | none => .bad)) J3 ⟨plusA A st.heap.objs.size, f3, ms3, R3, g3.of_bindA ex3 (fun b => .inl) fun vv2 s4 f4 H4 y2 e4 eY R4 rv4 g4 => ⟨f4, s4, vv2, ex3.trans eY, R4, rk3.ext eY, rv3.ext eY, rq3.ext eY, rv4, eY.keep _ _ hr3 (fun z => R3.disj _ z.mem (.inr rfl)) nt0.1, g4⟩⟩) fun w2 s4 q => ?_
  obtain ⟨y2, H4, J4, ry2, f4, ms4, vv2, ex4, R4, rk4, rv4, rq4, rw4, hr4, g4⟩ := q
  refine pairTrees_nil_walk ?_
  split at g4
  · rename_i kvs ek
    obtain ⟨kd, kd2, rfl, rfl, hkey, hfn, hkey2, hfit, hfn2, rfl⟩ := dicL_two ek
    have dv := dct_view J4 (hd _ hr4) .nil (rp_mono rk4) hkey rfl
    unfold storeAll
    rw [List.forIn_cons]
    refine wpAny_bind (wpAny_bind (raw_dictSet (by omega) J4 dv hkey rfl (by rw [line_eq]; simp) rx ry fun o2 s5 J5 hd2 => wpAny_pure ?_))
    dsimp only
    rw [List.forIn_cons]
    have hh : hid (plusA A st.heap.objs.size) f4 ms4.objs (upd H4 st.heap.objs.size (rawO st.heap.objs.size o2)) = hid (plusA A st.heap.objs.size) f4 ms4.objs H4 := hid_upd' (.inr rfl)
    have rk5 := rk4
    have rq5 := rq4
    rw [← hh] at rk5 rq5
    have dv2 := dct_view J5 (hd2 _ upd_same) (.cons (rp_mono rk5) .nil) (rp_mono rq5) hkey2 (by show ((keyFit kd2 kd) && true) = true; rw [hfit]; rfl)
    refine wpAny_bind (wpAny_bind (raw_dictSet (by omega) J5 dv2 hkey2 (by show ((keyFit kd2 kd) && true) = true; rw [hfit]; rfl) (by rw [line_eq]; simp [putE]) rx2 ry2 fun o3 s6 J6 hd3 => wpAny_pure ?_))
    dsimp only
    rw [List.forIn_nil]
    rw [show upd (upd H4 st.heap.objs.size (rawO st.heap.objs.size o2)) st.heap.objs.size (rawO st.heap.objs.size o3) = upd H4 st.heap.objs.size (rawO st.heap.objs.size o3) from upd_upd] at J6
    refine wpAny_pure ⟨.ref st.heap.objs.size, _, J6, rfl, ?_⟩
    refine g4 (f4 ++ [st.heap.objs.size]) _ (.ref st.heap.objs.size) (ex4.claim R4.len hn) (R4.claim hA hr4 (raw_noTbl (hd _ hr4) hr4) fun Hh e => ⟨_, hd3 _ upd_same, putE_rpA (Rp.same e rq4) (.cons (Rp.same e rk4) .nil), putE_keys rfl, putE_vals (RepV.mono e ⟨_, rfl⟩ _ _ rw4) rfl (.cons (RepV.mono e ⟨_, rfl⟩ _ _ rv4) .nil)⟩) ⟨_, ?_, rfl⟩
    rw [← R4.len]
    simp
  · exact g4.elim
/-! ### min(o.values()) -/
theorem dct_at {W : Wd} {A : Addr → Prop} {f : List Addr} {s : MS} {σ : St} {H : Hp} {v : Val} {u : V} {kvs : List (PyData × Val)} (h : kvsOf s.objs v = some kvs) (r : R W A f s σ H) (rv : RepV W f (hid A f s.objs H) u v) :
    ∃ (a : Addr) (es : List Ent), u = .ref a ∧ DcA W.w H a es ∧ W.rpA (hid A f s.objs H) (es.map (·.1)) (es.map (·.2.1)) ∧ es.map (·.2.1) = kvs.map (·.1) ∧ PV W f (hid A f s.objs H) (es.map (·.2.2)) (kvs.map (·.2)) := by
  cases v with
  | d d =>
    cases d with
    | dict ds =>
      cases h
      cases rv with
      | dct h1 h2 h3 q =>
        have e2 : (pureKv ds).map (·.2) = (ds.map (·.2)).map .d := by simp [pureKv, Function.comp_def]
        have e1 : (pureKv ds).map (·.1) = ds.map (·.1) := by simp [pureKv, Function.comp_def]
        refine ⟨_, _, rfl, DcA.same hid_sub h1, h2, by rw [e1, q], ?_⟩
        rw [e2]
        exact PV_map h3
    | _ => cases h
  | ref n =>
    obtain ⟨a, hn, rfl⟩ := rv
    unfold kvsOf at h
    simp only at h
    split at h
    · rename_i xs l e
      cases h
      obtain ⟨es, h1, h2, h3, h4⟩ := r.obj n _ a e hn
      exact ⟨a, es, rfl, h1, h2, h3, h4⟩
    · cases h
  | fn g => cases h
theorem intsV_ok : ∀ {vs : List Val} {is : List Int}, intsV vs = some is → vs = is.map fun i => .d (.int i)
  | [], _, h => by cases h; rfl
  | .d (.int i) :: r, is, h => by
    unfold intsV at h
    split at h
    · rename_i js e
      cases h
      rw [intsV_ok e]
      rfl
    · cases h
  | .d (.none) :: _, _, h => by cases h
  | .d (.bool _) :: _, _, h => by cases h
  | .d (.str _) :: _, _, h => by cases h
  | .d (.tuple _) :: _, _, h => by cases h
  | .d (.list _) :: _, _, h => by cases h
  | .d (.dict _) :: _, _, h => by cases h
  | .ref _ :: _, _, h => by cases h
  | .fn _ :: _, _, h => by cases h
theorem foldl_min : ∀ (is : List Int) (i : Int), is.foldl min i ∈ i :: is ∧ ∀ j ∈ i :: is, is.foldl min i ≤ j
  | [], i => ⟨by simp, by simp⟩
  | k :: is, i => by
    obtain ⟨h1, h2⟩ := foldl_min is (min i k)
    refine ⟨?_, fun j hj => ?_⟩
    · rcases List.mem_cons.mp h1 with e | e
      · show is.foldl min (min i k) ∈ _
        rw [e]
        rcases Int.le_total i k with q | q
        · rw [Int.min_eq_left q]; simp
        · rw [Int.min_eq_right q]; simp
      · exact List.mem_cons_of_mem _ (List.mem_cons_of_mem _ e)
    · show is.foldl min (min i k) ≤ j
      rcases List.mem_cons.mp hj with rfl | hj
      · exact Int.le_trans (h2 _ List.mem_cons_self) (Int.min_le_left _ _)
      · rcases List.mem_cons.mp hj with rfl | hj
        · exact Int.le_trans (h2 _ List.mem_cons_self) (Int.min_le_right _ _)
        · exact h2 j (List.mem_cons_of_mem _ hj)
theorem e_minv {o : Expr} {p apos mpos : Pos} {E : MS → Out Val} (hc : X.calm = true) (hg : Gl X "min") (hm : X.mg "min" = none) (hb : noCall0 o = true) (hline : (apos.endLine == mpos.line) = true) (hd : PE X o (tE (wx X Φ) Z E)) :
    PE X (.Call (.Name "min" p) [.Call (.Attribute o "values" apos) [] [] mpos] [] pos) (tE (wx X Φ) Z fun s => (E s).bind fun v s1 => minVals v s1) := by
  refine ⟨fun pins s σ H Q I h => ?_⟩
  have h' : tE (wx X Φ) Z E σ H fun x H1 => ∃ A f s v, R (wx X Φ).toWd A f s σ H1 ∧ RepV (wx X Φ).toWd f (hid A f s.objs H1) x v ∧ GoO (wx X Φ) Z (RlV (wx X Φ)) A f s.objs σ H1 Q (minVals v s) := by
    obtain ⟨A, f, s, r, h⟩ := h
    exact ⟨A, f, s, r, h.of_bind fun v s1 f1 H1 x e1 eX R1 rv g => ⟨A, f1, s1, v, R1, rv, g⟩⟩
  refine wpAny_Call_Name_kw (ld_blt I hg hm (u := .builtin "min") (by first | rfl | decide +kernel) ?_ (by first | decide +kernel | decide) (by first | decide +kernel | decide))
  rw [show starEach [Expr.Call (.Attribute o "values" apos) [] [] mpos] X.env = [(false, eval (Expr.Call (.Attribute o "values" apos) [] [] mpos) X.env)] from rfl]
  refine PySem.callWith_builtin1 (wpAny_Call_method0_late (attrBase_ok hb) hline (thn (hd.run pins s σ H _ I h') fun v s1 ⟨x, H1, I1, r1, A, f, ms, mv, R1, rv, g⟩ => ?_))
  unfold minVals at g
  split at g
  rotate_left
  · exact g.elim
  rename_i kvs ek
  split at g
  rotate_left
  · exact g.elim
  rename_i hkp
  split at g
  rotate_left
  · exact g.elim
  rename_i i0 is0 ei
  obtain ⟨a, es, rfl, h1, h2, h3, h4⟩ := dct_at ek R1 rv
  obtain rfl : v = Value.ref a := r1
  obtain ⟨is, his⟩ : ∃ is : List Int, is = i0 :: is0 := ⟨_, rfl⟩
  have hvi := intsV_ok ei
  have hks : (es.all fun e => keyFit (.int 0) e.2.1) = true := by
    rw [List.all_eq_true]
    intro e he
    have m : e.2.1 ∈ kvs.map (·.1) := by
      rw [← h3]
      exact List.mem_map.mpr ⟨e, he, rfl⟩
    obtain ⟨q, hq, e2⟩ := List.mem_map.mp m
    unfold keysPlain at hkp
    have z := List.all_eq_true.mp hkp q hq
    rw [e2] at z
    simp only [Bool.and_eq_true, Bool.not_eq_true'] at z
    unfold keyFit
    rw [z.1, z.2]
    rfl
  have dv := dct_view I1 h1 (RpA.same hid_sub h2) (.int 0) rfl hks
  cases dv with
  | raw xs b mu e1 ht ki hp dd rel => cases ht
  | mix vs k mu e1 e2 hsys dof rel =>
  obtain ⟨ep, dat⟩ := dof.dictAt
  have dat' := dat
  obtain ⟨ob, ess, ho, ex, hdat, hko, hpr, hnd⟩ := dat'
  refine ⟨"dict", "dict.values", F.plainAttrs_dict, F.slot_dict_values, F.type_dict_values, ⟨ob, ho, ex.1⟩, fun b e => ?_, Calls.callWith_builtin rfl (PySem.evalArgs_none ?_)⟩
  · cases e
    exact ⟨ob, ho, ex.2.1⟩
  refine call_meetsIn F.slot_dict_values ⟨ob, ho, ex.1⟩ F.entry_dict_values (F.args_dict_values_1 _) (meets_dict_values (mixKind X.prog X.w) a hsys) ⟨⟨vs, dof⟩, ?_⟩
  have k1 : ∀ b u, s1.heap.get? b = some u → (s1.heap.push { cls := .type "dict_values", data := .fields #[.ref a] }).get? b = some u := fun b u e => Heap.get?_push_of_some _ e
  have dat1 : (s1.heap.push { cls := .type "dict_values", data := .fields #[.ref a] }).DictAt (mixKind X.prog X.w) a vs ep := dat.keep k1
  have hlk : kvs.length = is.length := by
    have z := congrArg List.length hvi
    rw [List.length_map, List.length_map] at z
    rw [z, his]
  have hle : es.length = kvs.length := by
    have z := congrArg List.length h3
    simpa using z
  have hlv : vs.length = is.length := by rw [mix_len rel, hle, hlk]
  have hlen : 0 < vs.length := by rw [hlv, his]; simp
  have hval : ∀ (i : Nat) (v : Value), (∃ k, vs[i]? = some (k, v)) → ∃ t, v = Value.int (is.getD i 0) t := fun i v ⟨k, hk⟩ => by
    obtain ⟨e, h5, _, _, h6⟩ := Paired.getR rel hk
    have hi : i < is.length := by
      rw [← hlv]
      exact (List.getElem?_eq_some_iff.mp hk).1
    have e7 : (kvs.map (·.2))[i]? = some (.d (.int is[i])) := by
      rw [hvi, ← his, List.getElem?_map, List.getElem?_eq_getElem hi]
      rfl
    obtain ⟨u, e8, e9⟩ := Paired.getR h4 e7
    rw [List.getElem?_map, h5] at e8
    cases e8
    have e10 : e.2.2 = .int is[i] := rep_int e9
    have h6' : L2.RelV e.2.2 v := h6
    rw [e10] at h6'
    obtain ⟨t, e11⟩ := h6'
    refine ⟨t, ?_⟩
    rw [e11, List.getD_eq_getElem?_getD, List.getElem?_eq_getElem hi] <;> rfl
  refine call_min_walk (wpAny_pyIter_values (v := s1.heap.objs.size) (d := a) ⟨_, Heap.get?_push_size _ rfl, rfl, rfl⟩ dat1 ?_)
  have hlt : a < s1.heap.objs.size := Heap.lt_size ho
  have hsz : (s1.heap.push { cls := .type "dict_values", data := .fields #[.ref a] }).objs.size = s1.heap.objs.size + 1 := Heap.size_push _ _
  refine ⟨_, _, _, _, _, _, _, rfl, Walks.dictValues (knd := mixKind X.prog X.w) (A := X.A.in1) (I1.ok.hd hc) (s1.heap.push { cls := .type "dict_values", data := .fields #[.ref a] }).objs.size a (by rw [hsz]; exact Nat.ne_of_lt (Nat.lt_succ_of_lt hlt)) vs ep,
    ⟨⟨_, Heap.get?_push_size _ rfl, rfl, rfl⟩, dat1.keep fun b u e => Heap.get?_push_of_some _ e⟩, fun b hb => ?_, hlen, CmpOf.ints_lt (fun i => is.getD i 0) hval, fun v h' tk hP hk => ?_⟩
  · show b < ((s1.heap.push _).push _).objs.size
    rw [Heap.size_push, Heap.size_push]
    rw [hsz] at hb
    rcases List.mem_cons.mp hb with e | hb
    · rw [e]
      exact Nat.lt_succ_self _
    · have e : b = a := List.mem_singleton.mp hb
      rw [e]
      exact Nat.lt_succ_of_lt (Nat.lt_succ_of_lt hlt)
  · obtain ⟨t, rfl⟩ := hval _ v hP
    obtain ⟨b1, b2⟩ := argBest_lt (fun i => is.getD i 0) (vs.length - 1)
    have res : is.getD (argBest (fun i j => decide (is.getD i 0 < is.getD j 0)) (vs.length - 1)) 0 = is0.foldl min i0 := by
      obtain ⟨m1, m2⟩ := foldl_min is0 i0
      have hb : argBest (fun i j => decide (is.getD i 0 < is.getD j 0)) (vs.length - 1) < is.length := by omega
      have mem : is.getD (argBest (fun i j => decide (is.getD i 0 < is.getD j 0)) (vs.length - 1)) 0 ∈ i0 :: is0 := by
        rw [← his, List.getD_eq_getElem?_getD, List.getElem?_eq_getElem hb]
        exact List.getElem_mem hb
      have q1 := m2 _ mem
      rw [← his] at m1
      obtain ⟨j, hj, e⟩ := List.mem_iff_getElem.mp m1
      have q2 := b2 j (by omega)
      have e2 : is.getD j 0 = is0.foldl min i0 := by rw [List.getD_eq_getElem?_getD, List.getElem?_eq_getElem hj, ← e] <;> rfl
      rw [e2] at q2
      omega
    refine ⟨.int _, H1, I1.kept (t' := tk) fun b u e => hk b u (fun hmem => ?_) (Heap.get?_push_of_some _ (k1 b u e)), ⟨t, rfl⟩, ?_⟩
    · have e1 : b = (s1.heap.push { cls := .type "dict_values", data := .fields #[.ref a] }).objs.size := List.mem_singleton.mp hmem
      have e2 := Heap.lt_size e
      rw [hsz] at e1
      rw [e1] at e2
      exact absurd e2 (Nat.not_lt.mpr (Nat.le_succ _))
    · rw [res]
      exact g f H1 _ (Ext.refl _ _ _) R1 (.int _)
/-! ### f(a, k = e) -/
theorem run_fnXN {gd : Bool} {kk n : Nat} {ff : Addr} {fd : FuncData} {ps ks : List Str} {sp : Sp} {E : XK} {g : List Value → List Value → List Value} {gV : List V → List V → List V} {CX : CXT} {pins : List (Addr × Obj)} {σ : St} {H : Hp} {s : Shared} {Q : VK} {us ws : List Value} {vs zs : List V}
    (F : FnX gd X.prog X.w X.K X.mg X.base CX kk ff fd ps sp) (hgd : gd = true → X.A.guards = some []) (hr : Room kk X.A) (hb : KBn X.K fd ps n ks g gV) (hx : Passes CX X E)
    (I : L2.Inv X pins σ H s) (r : Vals vs us) (rz : Vals zs ws) (l1 : vs.length = n) (l2 : zs.length = ks.length) (h : sp (gV vs zs) H Q E) : wpAny (model X.prog X.w) X.A (call (.ref ff) us (ks.zip ws)) (EP X pins σ Q) X.xe s := by
  have r2 := hb.rel r rz
  have C := F.run X.A X.stack s H ⟨us, ks.zip ws⟩ (g us ws) (gV vs zs) Q E hgd hr I.env0 (hb.to s us ws I.kIn (r.length.symm.trans l1) (rz.length.symm.trans l2)) r2 h
  refine wpAny_call (codeAny_mono C fun o s' hq => ?_)
  rcases o with e | fl
  · exact hx pins σ H s e s' I hq
  · rcases fl with _ | _ | _ | u
    all_goals first | exact I.after hq | exact (show False from hq).elim
theorem pe_callXN {gd : Bool} {kk n : Nat} {ff : Addr} {fd : FuncData} {ps ks : List Str} {sp : Sp} {E : XK} {g : List Value → List Value → List Value} {gV : List V → List V → List V} {CX : CXT} {x : Str} {p : Pos} {e : Expr} {es : List Expr} {kws : List Keyword} {t tk : TA}
    (F : FnX gd X.prog X.w X.K X.mg X.base CX kk ff fd ps sp) (hgd : gd = true → X.A.guards = some []) (hr : Room kk X.A) (hg : Gl X x) (hm : X.mg x = some (.ref ff)) (hk : PySem.W.keepIn X.K (.ref ff) = true) (hb : KBn X.K fd ps n ks g gV) (hx : Passes CX X E)
    (ha : PA X (e :: es) t) (hkw : PK X kws tk) (hall : (backToKw pos (keywordEach kws X.env)).all (·.1.isSome) = true) (hks : (backToKw pos (keywordEach kws X.env)).filterMap (·.1) = ks)
    (hdb : (x == ("__debug__" : Str)) = false) (he : starEach (e :: es) X.env = (false, eval e X.env) :: starEach es X.env)
    (hpl : ((backTo pos (starEach (e :: es) X.env)).any (·.1) || (backToKw pos (keywordEach kws X.env)).any (·.1.isNone)) = false) :
    PE X (.Call (.Name x p) (e :: es) kws pos) (tCallN n ks.length sp gV E t tk) := by
  refine ⟨fun pins s σ H Q I h => ?_⟩
  refine wpAny_Call_Name_kw (ld_glob I hg hm ?_ hdb)
  refine PySem.W.callWith_KW (h₀ := X.base) I.ok.mod.kin hk hall (thn (ha.run pos pins s σ H _ I h) fun us s1 ⟨vs, H1, I1, r, q⟩ => ?_) hpl he
  refine thn (hkw.run pos pins s1 σ H1 _ I1 q) fun ws s2 ⟨zs, H2, I2, rz, l1, l2, q2⟩ => ⟨I2.kIn, ?_⟩
  rw [hks]
  exact run_fnXN F hgd hr hb hx I2 r rz l1 l2 q2
theorem e_callK {kwo : List (Str × PyData)} {kn : Str} {d : PyData} (hkw : kwo = [(kn, d)]) {x : Str} {p kp : Pos} {e ek : Expr} {es : List Expr} {K : Cfg} {g k : Nat} {gd : Bool} {ps : List Str} {br : Bool} {F : MS → Out (List Val)} {G : MS → Out Val} (zi : Zi Z) (tk : Takes X Z) (hgd : gd = true → X.A.guards = some []) (hr : Room k X.A)
    (hn : nameOk x = true) (hg : Gl X x) (hm : ∀ f, (wx X Φ).fc g = some f → X.mg x = some (.ref f))
    (Fa : FnAt gd X.prog X.w X.K X.mg X.base (wx X Φ) k g (K.call g) ps br kwo) (hs : (e :: es).all notStar = true) (ha : PA X (e :: es) (tA (wx X Φ) Z F)) (hk : PE X ek (tE (wx X Φ) Z G)) :
    PE X (.Call (.Name x p) (e :: es) [⟨some kn, ek, kp⟩] pos) (tE (wx X Φ) Z fun s => (F s).bind fun vs s1 => (G s1).bind fun v s2 => callV K g (vs ++ [v]) [] s2) := by
  obtain ⟨f, fd, h1, h2, h3, h4⟩ := Fa.ex
  have hb := h4.kw kn d hkw
  have hs' := hs
  rw [List.all_cons, Bool.and_eq_true] at hs
  refine PE_imp (pe_callXN h3 hgd hr hg (hm f h1) h2 hb (passesZ tk) ha (pk_cons hk pk_nil) rfl rfl (nameOk_ok hn).1 (starEach_cons hs.1) ?_) fun σ H Q h => ?_
  · rw [starEach_plain hs']
    rfl
  · obtain ⟨A, f1, s, r, h⟩ := h
    refine ⟨A, f1, s, r, h.of_bind fun vs s1 f1 H1 xs e1 eX R1 rv h1 => ⟨A, f1, s1, R1, h1.of_bind fun v s2 f2 H2 y e2 eY R2 rw g2 => ?_⟩⟩
    have q := sp_call zi Fa.len R2 (Paired.app (PV.ext eY rv) (.cons rw .nil)) [] (fun _ => .nil) g2
    have hl := q.1
    rw [List.append_nil] at q hl
    simp only [List.length_append, List.length_cons, List.length_nil] at hl
    exact ⟨by omega, rfl, q⟩
theorem evs_snoc (E : ME → MS → Out Val) : ∀ (es : List ME) (e : ME) (s : MS), evs E (es ++ [e]) s = (evs E es s).bind fun vs s1 => (E e s1).bind fun v s2 => .ok (vs ++ [v]) s2
  | [], e, s => by
    show (E e s).bind (fun v s1 => (Out.ok [] s1 : Out (List Val)).bind fun vs s2 => .ok (v :: vs) s2) = _
    rfl
  | a :: es, e, s => by
    show (E a s).bind (fun v s1 => (evs E (es ++ [e]) s1).bind fun vs s2 => .ok (v :: vs) s2) = ((E a s).bind fun v s1 => (evs E es s1).bind fun vs s2 => .ok (v :: vs) s2).bind _
    cases E a s with
    | ok v s1 =>
      show (evs E (es ++ [e]) s1).bind (fun vs s2 => .ok (v :: vs) s2) = ((evs E es s1).bind fun vs s2 => .ok (v :: vs) s2).bind _
      rw [evs_snoc E es e s1]
      cases evs E es s1 with
      | ok vs s2 =>
        show ((E e s2).bind _).bind _ = (E e s2).bind _
        cases E e s2 <;> rfl
      | exc c x s2 => rfl
      | bad => rfl
    | exc c x s1 => rfl
    | bad => rfl
end
end MI

set_option Elab.async false
set_option linter.all false
set_option maxRecDepth 100000
set_option maxHeartbeats 2000000
/-! MI: each expression that the checker takes computes what MI computes. -/
namespace MI
open PySem PySem.Spec L2
open PyProof.Rows hiding St

/-- what the checker's scope promises of a context -/
structure Good (S : Nat → Option Sig) (K : Cfg) (X : Cx) (Φ : Fx) (c : SC) (k : Nat) (Z : L2.WX) : Prop where
  N : X.N = c.N
  nd : X.N.Nodup
  sc : X.env.scope = c.sc
  fnB : c.fnB = true → ∀ x, X.fn x = true
  calm : X.calm = true
  room : Room k X.A
  cons : ∀ x i, c.cons.lookup x = some i → ∃ (v : V) (u : Value) (d : PyData), X.mg x = some u ∧ L2.RelV v u ∧ K.con i = some d ∧ ∀ H, Rp X.prog X.w X.K H v d
  fns : ∀ x g, c.fns.lookup x = some g → ∀ f, Φ.fc g = some f → X.mg x = some (.ref f)
  fat : ∀ g sg, S g = some sg → FnAt sg.gd X.prog X.w X.K X.mg X.base (wx X Φ) k g (K.call g) sg.ps sg.br sg.kwo
  fav : ∀ g f, Φ.fa g = some f → Φ.fc g = some f ∧ ∃ ps br kwo, FnAt false X.prog X.w X.K X.mg X.base (wx X Φ) k g (K.call g) ps br kwo ∧ K.dfl g = kwo.map (·.2)
  lav : ∀ g D, Φ.la g = some D → (∃ ps, LamAt X.prog X.w X.K X.mg X.base (wx X Φ) k g (K.call g) D ps) ∧ K.dfl g = []
  free : ∀ x, c.free.contains x = true → X.mg x = none
  tk : Takes X Z
  zi : Zi Z
  rep : c.rep = true → X.A.guards = some []
  lroom : c.trys = [] ∨ Room (k + 2) X.A
  trys : ∀ x tag hs, c.trys.lookup x = some (tag, hs) → ∃ t, tag = .str t ∧ TryAt X Φ K.sub x t hs
section
variable {S : Nat → Option Sig} {K : Cfg} {X : Cx} {Φ : Fx} {c : SC} {k : Nat} {Z : L2.WX}
theorem Good.u65 (G : Good S K X Φ c k Z) : X.A.units + 65 < cLine := by have := G.room.un; omega
theorem Good.u70 (G : Good S K X Φ c k Z) : X.A.units + 70 < cLine := by have := G.room.un; omega
theorem Good.slot (G : Good S K X Φ c k Z) {x : Str} {i : Nat} (h : slotOf c.N x = some i) : X.N[i]? = some x := by
  rw [G.N]
  exact slotOf_get h
theorem Good.vis (G : Good S K X Φ c k Z) {x : Str} (h : isVis c.sc x = true) : Vis X.env.scope x := by
  rw [G.sc]
  exact isVis_ok h
theorem Good.gl (G : Good S K X Φ c k Z) {x : Str} (h : isGl c.sc x = true) : Gl X x := by
  show X.env.scope.names.lookup x = _
  rw [G.sc]
  exact isGl_ok h
/-- a block of the same def -/
theorem Good.blk (G : Good S K X Φ c k Z) (s : Shared) (H : Hp) (scope : Scope) (C : Addr) (cl : List (Str × Addr)) (fp : List Addr) : Good S K (X.blk s H scope (compEnvC scope cl C X.env) fp) Φ (blkSC c scope) k Z0 :=
  ⟨G.N, G.nd, by show relS scope X.env.scope = relS scope c.sc; rw [G.sc], (fun h => by cases h), G.calm, G.room, G.cons, G.fns, G.fat, G.fav, G.lav, G.free, takes0', fun _ _ _ _ _ h => h, G.rep, .inl rfl, fun x tag hs h => by cases h⟩
/-- a lambda of the def -/
theorem Good.lam (G : Good S K X Φ c k Z) {A : Around} {outer : List Env} {s : Shared} {H : Hp} {Ex : XK} {scope : Scope} {f c' : Addr} (hr : Room k (A.deeper (LamX.lamEnv X scope s.heap.objs.size f c'))) : Good S K (LamX.lamCx X A outer s H Ex scope f c') Φ (lamSC c scope) k (fun c d _ H => Ex c d H) :=
  ⟨G.N, G.nd, rfl, (fun h => by cases h), rfl, hr, G.cons, G.fns, G.fat, G.fav, G.lav, G.free, takes_of rfl rfl rfl rfl, fun _ _ _ _ _ h => h, (fun h => by cases h), .inl rfl, fun x tag hs h => by cases h⟩
def SndE (S : Nat → Option Sig) (K : Cfg) (F : Nat) : Prop := ∀ (n : Nat) (c : SC) (e : Expr) (m : ME) (X : Cx) (Φ : Fx) (k : Nat) (Z : L2.WX), comp S n c e = some m → Good S K X Φ c k Z →
  PE X e (tE (wx X Φ) Z ((sem K F).ev m)) ∧ PT X e (tT (wx X Φ) Z (tst (sem K F).ev m))
theorem snd_zero : SndE S K 0 := fun n c e m X Φ k Z h G => ⟨PE_false fun σ H Q h => tO_bad h, ⟨fun pins s σ H Q I h => (tO_bad (show tO (wx X Φ) Z RlB (fun _ => .bad) σ H Q from h)).elim⟩⟩
theorem both {F : Nat} {e : Expr} {m : ME} (hp : PE X e (tE (wx X Φ) Z ((sem K F).ev m))) (he : ∀ whole, isTrue e X.env whole = (do let v ← whole; standAt e.pos; holding [v] (truthy v)) := by intro _; rfl) :
    PE X e (tE (wx X Φ) Z ((sem K F).ev m)) ∧ PT X e (tT (wx X Φ) Z (tst (sem K F).ev m)) := ⟨hp, p_val hp he⟩
theorem pa_of {n F : Nat} (ih : SndE S K F) (G : Good S K X Φ c k Z) : ∀ {es : List Expr} {ms : List ME}, compL (comp S n c) es = some ms → es.all notStar = true → PA X es (tA (wx X Φ) Z (evs (sem K F).ev ms))
  | [], _, h, _ => by
    cases h
    exact a_nil
  | e :: es, ms, h, hs => by
    unfold compL at h
    split at h
    · rename_i b r e1 e2
      cases h
      rw [List.all_cons, Bool.and_eq_true] at hs
      exact a_cons hs.1 (ih n c e b X Φ k Z e1 G).1 (pa_of ih G e2 hs.2)
    · cases h
theorem walkF_one (E : ME → MS → Out Val) (kd : ItK) (m : ME) : walkF E kd [m] = fun s => (E m s).bind fun v s1 => walkG kd [v] s1 := by
  funext s
  unfold walkF
  show ((E m s).bind fun v s1 => (evs E [] s1).bind fun vs s2 => .ok (v :: vs) s2).bind _ = _
  cases E m s <;> rfl
theorem evs_one {α : Type} (g : List Val → MS → Out α) (E : ME → MS → Out Val) (m : ME) (s : MS) : (evs E [m] s).bind g = (E m s).bind fun v s1 => g [v] s1 := by
  show ((E m s).bind fun v s1 => (evs E [] s1).bind fun vs s2 => .ok (v :: vs) s2).bind _ = _
  cases E m s <;> rfl
theorem bltOf_ne {x : Str} {n : Nat} {b : Blt} (h : bltOf x n = some b) : b ≠ .range1 := by
  have t1 : ∀ p ∈ blt1, p.2 ≠ .range1 := by
    simp only [blt1, List.forall_mem_cons]
    refine ⟨by decide, by decide, by decide, by decide, by decide, by decide, by decide, by decide, by decide, by decide, by decide, by decide, fun _ h => by cases h⟩
  have t2 : ∀ p ∈ blt2, p.2 ≠ .range1 := by
    simp only [blt2, List.forall_mem_cons]
    refine ⟨by decide, by decide, fun _ h => by cases h⟩
  unfold bltOf at h
  split at h
  · exact t1 _ (PySem.mem_of_lookup h)
  · split at h
    · exact t2 _ (PySem.mem_of_lookup h)
    · cases h
theorem walkF_eq (E : ME → MS → Out Val) (kd : ItK) (ms : List ME) : walkF E kd ms = fun s => (evs E ms s).bind fun vs s1 => walkG kd vs s1 := rfl
theorem pi_of {n F : Nat} (ih : SndE S K F) (G : Good S K X Φ c k Z) {tg it : Expr} {kd : ItK} {ms : List ME} (h : compIt (comp S n c) c it = some (kd, ms)) (ht : tgFor kd tg = true) : PI X tg it (tI (wx X Φ) Z (walkF (sem K F).ev kd ms)) := by
  have seq : ∀ (o : Option ME) (kd : ItK) (ms : List ME), o = comp S n c it → (o.map fun e' => (ItK.seq, [e'])) = some (kd, ms) → PI X tg it (tI (wx X Φ) Z (walkF (sem K F).ev kd ms)) := fun o kd ms ho hm => by
    obtain ⟨m, e1, e2⟩ := map_some hm
    cases e2
    rw [walkF_one]
    exact pi_seq G.calm (ih n c it m X Φ k Z (ho ▸ e1) G).1
  have tup : ∀ {kd : ItK}, tgFor.isTupE tg = true → ∃ es kk p, tg = .Tuple es kk p := fun h => by
    unfold tgFor.isTupE at h
    split at h
    · exact ⟨_, _, _, rfl⟩
    · cases h
  unfold compIt at h
  split at h
  · rename_i x p args pos
    split at h
    · rename_i hc
      obtain ⟨hg, hf, hs⟩ := hc
      have hgl := G.gl hg
      have hmg := G.free x hf
      split at h
      · rename_i hx
        subst hx
        split at h
        · rename_i a
          obtain ⟨m, e1, e2⟩ := map_some h
          cases e2
          rw [List.all_cons, Bool.and_eq_true] at hs
          rw [walkF_eq]
          exact pi_rng1 hs.1 hgl hmg (pa_of ih G (ms := [m]) (by unfold compL; rw [e1]; rfl) (by simp [hs.1]))
        · rename_i a b
          split at h
          · rename_i m m' e1 e2
            cases h
            rw [List.all_cons, List.all_cons, Bool.and_eq_true, Bool.and_eq_true] at hs
            rw [walkF_eq]
            exact pi_rng2 hs.1 hs.2.1 hgl hmg (pa_of ih G (ms := [m, m']) (by unfold compL; rw [e1]; unfold compL; rw [e2]; rfl) (by simp [hs.1, hs.2.1]))
          · cases h
        · cases h
      · split at h
        · rename_i hx
          subst hx
          split at h
          · rename_i a
            obtain ⟨m, e1, e2⟩ := map_some h
            cases e2
            rw [List.all_cons, Bool.and_eq_true] at hs
            obtain ⟨es, kk, p2, rfl⟩ := tup (kd := .enum) ht
            rw [walkF_eq]
            exact pi_enumV G.calm hs.1 hgl hmg (pa_of ih G (ms := [m]) (by unfold compL; rw [e1]; rfl) (by simp [hs.1]))
          · cases h
        · split at h
          · rename_i hx
            subst hx
            split at h
            · rename_i a b
              split at h
              · rename_i m m' e1 e2
                cases h
                rw [List.all_cons, List.all_cons, Bool.and_eq_true, Bool.and_eq_true] at hs
                obtain ⟨es, kk, p2, rfl⟩ := tup (kd := .zip) ht
                rw [walkF_eq]
                exact pi_zipV G.calm hs.1 hs.2.1 hgl hmg (pa_of ih G (ms := [m, m']) (by unfold compL; rw [e1]; unfold compL; rw [e2]; rfl) (by simp [hs.1, hs.2.1]))
              · cases h
            · cases h
          · exact seq _ kd ms rfl h
    · exact seq _ kd ms rfl h
  · rename_i o m apos pos
    split at h
    · rename_i hc
      obtain ⟨hl, hb⟩ := hc
      split at h
      · rename_i hm
        subst hm
        obtain ⟨m', e1, e2⟩ := map_some h
        cases e2
        obtain ⟨es, kk, p2, rfl⟩ := tup (kd := .items) ht
        rw [walkF_one]
        exact pi_itemsV G.calm hb hl (ih n c o m' X Φ k Z e1 G).1
      · split at h
        · rename_i hm
          subst hm
          obtain ⟨m', e1, e2⟩ := map_some h
          cases e2
          rw [walkF_one]
          exact pi_valsV G.calm hb hl (ih n c o m' X Φ k Z e1 G).1
        · exact seq _ kd ms rfl h
    · cases h
  · exact seq _ kd ms rfl h
theorem slotsB_ok : (∀ (t : MT) (own : List Nat), t.slotsB own = true → ∀ i ∈ t.slots, i ∈ own) ∧ ∀ (ts : List MT) (own : List Nat), MT.slotsBL own ts = true → ∀ i ∈ MT.slotsL ts, i ∈ own := by
  have key : ∀ (n : Nat), (∀ t : MT, sizeOf t < n → ∀ own, t.slotsB own = true → ∀ i ∈ t.slots, i ∈ own) ∧ ∀ ts : List MT, sizeOf ts < n → ∀ own, MT.slotsBL own ts = true → ∀ i ∈ MT.slotsL ts, i ∈ own := by
    intro n
    induction n with
    | zero => exact ⟨fun _ h => absurd h (Nat.not_lt_zero _), fun _ h => absurd h (Nat.not_lt_zero _)⟩
    | succ n ih =>
      refine ⟨fun t ht own h i hi => ?_, fun ts ht own h i hi => ?_⟩
      · cases t with
        | n j =>
          unfold MT.slotsB at h
          unfold MT.slots at hi
          simp at hi
          subst hi
          simpa using h
        | t xs =>
          unfold MT.slotsB at h
          unfold MT.slots at hi
          exact ih.2 xs (by simp at ht; omega) own h i hi
      · cases ts with
        | nil => unfold MT.slotsL at hi; cases hi
        | cons x xs =>
          unfold MT.slotsBL at h
          unfold MT.slotsL at hi
          rw [Bool.and_eq_true] at h
          rcases List.mem_append.mp hi with z | z
          · exact ih.1 x (by simp at ht; omega) own h.1 i z
          · exact ih.2 xs (by simp at ht; omega) own h.2 i z
  exact ⟨fun t own h => (key _).1 t (Nat.lt_succ_self _) own h, fun ts own h => (key _).2 ts (Nat.lt_succ_self _) own h⟩
theorem pts_of {n F : Nat} (ih : SndE S K F) (G : Good S K X Φ c k Z) {ifs : List Expr} {ms : List ME} (h : compL (comp S n c) ifs = some ms) (hl : ifs.length ≤ 1) : PTs X ifs (tT (wx X Φ) Z (tests (sem K F).ev ms)) := by
  cases ifs with
  | nil =>
    cases h
    exact ⟨fun pins s σ H Q I hw => pts_nil.run pins s σ H Q I (by
      obtain ⟨A, f, s, r, h⟩ := hw
      exact h f H true (Ext.refl _ _ _) r rfl)⟩
  | cons e es =>
    cases es with
    | cons _ _ => simp at hl
    | nil =>
      unfold compL at h
      split at h
      · rename_i b r e1 e2
        cases h
        cases e2
        exact pts_one (ih n c e b X Φ k Z e1 G).2
      · cases h
/-! ### the forms, by MI's own trees -/
theorem s_lc {n F : Nat} (ih : SndE S K F) (G : Good S K X Φ c k Z) {elt tg it : Expr} {ifs : List Expr} {scope : Scope} {own : List (Str × Nat)} {pos : Pos} {kd : ItK} {es ifs' : List ME} {t : MT} {m : ME} (hset : noSet it = true) (hl : ifs.length ≤ 1) (hb : blkC c.N c.sc scope own = true)
    (hi : compIt (comp S n c) c it = some (kd, es)) (ht : compT (blkSC c scope) 3 tg = some t) (hif : compL (comp S n (blkSC c scope)) ifs = some ifs') (he : comp S n (blkSC c scope) elt = some m) (h1 : tgFor kd tg = true) (h2 : t.slotsB (own.map (·.2)) = true) :
    PE X (.ListComp elt [⟨tg, it, ifs, 0⟩] scope pos) (tE (wx X Φ) Z fun s => (walkF (sem K F).ev kd es s).bind fun its s2 => lcG (asgI t) (tests (sem K F).ev ifs') ((sem K F).ev m) (own.map (·.2)) its s2) := by
  have ok : BlkOk X.N X.env.scope scope own := by
    rw [G.N, G.sc]
    exact blkOk_by hb
  refine PE_imp (pe_lc G.calm G.nd (pi_of ih G hi h1) ok (g := gM X.K t) (tt := tT (wx X Φ) Z0 (tests (sem K F).ev ifs')) (te := tE (wx X Φ) Z0 ((sem K F).ev m)) (fun s H C cl fp => ?_) (fun s H C cl fp => ?_) (fun s H C cl fp => ?_) (foldSet hset)) fun σ H Q h => ?_
  · have GB := G.blk s H scope C cl fp
    exact pg_of (c := blkSC c scope) GB.calm GB.N GB.nd GB.sc GB.fnB 3 tg t ht
  · exact pts_of ih (G.blk s H scope C cl fp) hif hl
  · exact (ih n _ elt m _ Φ k Z0 he (G.blk s H scope C cl fp)).1
  · exact lcG_tLc (slotsB_ok.1 t _ h2) h
theorem sp_call_form {n F : Nat} (ih : SndE S K F) (G : Good S K X Φ c k Z) {x : Str} {p pos : Pos} {args : List Expr} {m : ME} (hn : nameOk x = true) (hs : args.all notStar = true) (h : compCall S (comp S n c) c x args = some m) :
    PE X (.Call (.Name x p) args [] pos) (tE (wx X Φ) Z ((sem K (F + 1)).ev m)) := by
  unfold compCall at h
  split at h
  · rename_i hv
    unfold cvCall at h
    split at h
    · cases h
    · rename_i a r
      split at h
      · rename_i i es e1 e2
        cases h
        exact e_callv G.zi G.tk G.room hn (G.slot e1) (G.vis hv) G.fav G.lav hs (pa_of ih G e2 hs)
      · cases h
  · split at h
    · rename_i hg
      have hgl := G.gl hg
      split at h
      · rename_i g eg
        split at h
        · rename_i sg es
          split at h
          · rename_i hgd0
            have hgd : sg.gd = true → X.A.guards = some [] := fun z => by
              simp only [Bool.and_eq_true, Bool.or_eq_true, Bool.not_eq_true'] at hgd0
              rcases hgd0.2 with q | q
              · exact G.rep q
              · rw [z] at q; cases q
            split at h
            · rename_i hbr
              have hkw : sg.kwo = [] := by
                simp only [Bool.and_eq_true, Bool.or_eq_true, Bool.not_eq_true', List.isEmpty_iff] at hgd0
                rcases hgd0.1 with q | q
                · rw [hbr] at q; cases q
                · exact q
              unfold crCall at h
              split at h
              · rename_i y p2 rest
                split at h
                · rename_i hy
                  rw [Bool.and_eq_true] at hy
                  rw [List.all_cons, Bool.and_eq_true] at hs
                  split at h
                  · rename_i i ms e1 e2
                    cases h
                    exact e_callr hkw G.zi G.tk hgd G.room hn hgl (G.fns x g eg) (G.fat g sg es) (G.slot e1) (G.vis hy.2) hy.1 hs.2 (pa_of ih G e2 hs.2)
                  · cases h
                · cases h
              · cases h
            · unfold cgCall at h
              obtain ⟨ms, e1, rfl⟩ := map_some h
              cases args with
              | nil =>
                cases e1
                exact e_call0 G.zi G.tk hgd G.room hn hgl (G.fns x g eg) (G.fat g sg es)
              | cons a r => exact e_call G.zi G.tk hgd G.room hn hgl (G.fns x g eg) (G.fat g sg es) hs (pa_of ih G e1 hs)
          · cases h
        · cases h
      · split at h
        · rename_i hf
          have hmg := G.free x hf
          unfold bltCall at h
          split at h
          · rename_i hx
            subst hx
            unfold isiCall at h
            split at h
            · rename_i a t p2
              split at h
              · rename_i hc
                rw [Bool.and_eq_true] at hc
                rw [List.all_cons, Bool.and_eq_true] at hs
                split at h
                · rename_i a' t' e1 e2
                  cases h
                  exact e_isi e2 hgl hmg (G.gl hc.1) (G.free t hc.2) hs.1 (ih n c a a' X Φ k Z e1 G).1
                · cases h
              · cases h
            · cases h
          · split at h
            · rename_i a er
              obtain ⟨a', e1, rfl⟩ := map_some h
              unfold minvArg at er
              split at er
              · rename_i o m apos mpos
                split at er
                · rename_i hcc
                  cases er
                  obtain ⟨rfl, rfl, hb, hl⟩ := hcc
                  exact e_minv G.calm hgl hmg hb hl (ih n c a a' X Φ k Z e1 G).1
                · cases er
              · cases er
            rename_i hmv
            clear hmv
            split at h
            · rename_i a er
              obtain ⟨a', e1, rfl⟩ := map_some h
              unfold rngArg at er
              split at er
              · rename_i y p2 a2 p3
                split at er
                · rename_i hc
                  cases er
                  obtain ⟨rfl, rfl, h1, h2, h3⟩ := hc
                  have := e_range1 (pos := pos) (p := p) (p2 := p2) (p3 := p3) G.calm hgl hmg (G.gl h1) (G.free _ h2) h3 (ih n c a a' X Φ k Z e1 G).1
                  refine PE_imp this fun σ H Q ⟨A, f, s, r, h⟩ => ⟨A, f, s, r, ?_⟩
                  rw [show (sem K (F + 1)).ev (.blt .range1 [a']) s = ((sem K F).ev a' s).bind fun v s1 => range1B [v] s1 from evs_one (fun vs s1 => bltV .range1 vs s1) (sem K F).ev a' s] at h
                  exact h
                · cases er
              · cases er
            · unfold gbCall at h
              split at h
              · cases h
              · rename_i a r
                split at h
                · rename_i b es e1 e2
                  split at h
                  rotate_left
                  · cases h
                  rename_i hrep
                  cases h
                  have hboot := bltOf_boot e1
                  have hne : b ≠ .range1 := by
                    rintro rfl
                    exact bltOf_ne e1 rfl
                  have hrg : b = .repr → X.A.guards = some [] := fun z => by
                    rw [Bool.or_eq_true] at hrep
                    rcases hrep with q | q
                    · exact G.rep q
                    · rw [z] at q; cases q
                  have hcr := cr_blt (X := X) (Φ := Φ) (Z := Z) b hrg G.calm G.u70 hne
                  have ha := pa_of ih G e2 hs
                  cases b <;> first | exact e_blt hcr hgl hmg hboot hn hs ha | exact e_bty hcr hgl hmg hboot hn hs ha
                · cases h
        · cases h
    · cases h
theorem s_kwcall {n F : Nat} (ih : SndE S K F) (G : Good S K X Φ c k Z) {x : Str} {p pos : Pos} {args : List Expr} {kws : List Keyword} {m : ME} (hn : nameOk x = true) (hs : args.all notStar = true) (h : kwCall S (comp S n c) c x args kws = some m) :
    PE X (.Call (.Name x p) args kws pos) (tE (wx X Φ) Z ((sem K (F + 1)).ev m)) := by
  unfold kwCall at h
  split at h
  · rename_i a r kn ek kp
    split at h
    · rename_i hg
      rw [Bool.and_eq_true] at hg
      have hgl := G.gl hg.2
      split at h
      · rename_i g eg
        split at h
        · rename_i sg es
          split at h
          · rename_i kk d ms mk ekw e1 e2
            split at h
            · rename_i hc
              simp only [Bool.and_eq_true, decide_eq_true_eq, Bool.or_eq_true, Bool.not_eq_true'] at hc
              obtain ⟨rfl, hbr, hgd0⟩ := hc
              cases h
              have hgd : sg.gd = true → X.A.guards = some [] := fun z => by
                rcases hgd0 with q | q
                · exact G.rep q
                · rw [z] at q; cases q
              refine PE_imp (e_callK ekw G.zi G.tk hgd G.room hn hgl (G.fns x g eg) (G.fat g sg es) hs (pa_of ih G e1 hs) (ih n c ek mk X Φ k Z e2 G).1) fun σ H Q ⟨A, f, s, r, h⟩ => ⟨A, f, s, r, ?_⟩
              have e : (sem K (F + 1)).ev (.call g (ms ++ [mk]) []) s = (evs (sem K F).ev ms s).bind fun vs s1 => ((sem K F).ev mk s1).bind fun v s2 => callV K g (vs ++ [v]) [] s2 := by
                show (evs (sem K F).ev (ms ++ [mk]) s).bind _ = _
                rw [evs_snoc]
                cases evs (sem K F).ev ms s with
                | ok vs s1 =>
                  show (((sem K F).ev mk s1).bind _).bind _ = ((sem K F).ev mk s1).bind _
                  cases (sem K F).ev mk s1 <;> rfl
                | exc _ _ _ => rfl
                | bad => rfl
              rw [e] at h
              exact h
            · cases h
          · cases h
        · cases h
      · cases h
    · cases h
  · cases h
theorem s_tryl {n F : Nat} (ih : SndE S K F) (G : Good S K X Φ c k Z) {x : Str} {p pos : Pos} {args : List Expr} {m : ME} (hn : nameOk x = true) (h : tryCall (comp S n) c x args = some m) : PE X (.Call (.Name x p) args [] pos) (tE (wx X Φ) Z ((sem K (F + 1)).ev m)) := by
  unfold tryCall at h
  split at h
  · rename_i ps body scope lp
    split at h
    · rename_i hc
      simp only [Bool.and_eq_true] at hc
      split at h
      · rename_i tag hs el
        obtain ⟨m', e1, rfl⟩ := map_some h
        obtain ⟨t, rfl, T⟩ := G.trys x tag hs el
        have hr : Room (k + 2) X.A := G.lroom.elim (fun z => by rw [z] at el; cases el) id
        have hsc : LamX.lamSB X.env.scope scope = true := by rw [G.sc]; exact hc.2
        exact e_tryl T hn (G.gl hc.1.1) hr hsc hc.1.2 fun A outer s H Ex f c' hr' => (ih n (lamSC c scope) body m' _ Φ k _ e1 (G.lam hr')).1
      · cases h
    · cases h
  · cases h
/-! ### displays with stars -/
theorem pa_ofS {n F : Nat} (ih : SndE S K F) (G : Good S K X Φ c k Z) : ∀ {es : List Expr} {ms : List ME}, compL (compStar (comp S n c)) es = some ms → PA X es (tA (wx X Φ) Z (evd (sem K F).ev ms))
  | [], _, h => by
    cases h
    exact a_nil
  | e :: es, ms, h => by
    unfold compL at h
    split at h
    · rename_i b r e1 e2
      cases h
      have tl := pa_ofS ih G e2
      by_cases hs : notStar e = true
      · have e1' : comp S n c e = some b := by
          unfold compStar at e1
          split at e1
          · cases hs
          · split at e1
            · split at e1
              · cases e1
              · rename_i m em hm
                cases e1
                exact em
            · cases e1
        have hb : ∀ e', b ≠ .star e' := fun e' z => by
          unfold compStar at e1
          split at e1
          · cases hs
          · rw [e1', z] at e1
            cases e1
        refine PA_imp (a_cons hs (ih n c e b X Φ k Z e1' G).1 tl) fun σ H Q h => ?_
        have : evd (sem K F).ev (b :: r) = fun s => ((sem K F).ev b s).bind fun v s1 => (evd (sem K F).ev r s1).bind fun vs s2 => .ok (v :: vs) s2 := by
          funext s
          cases b <;> first | rfl | exact absurd rfl (hb _)
        rw [this] at h
        exact h
      · cases e with
        | Starred e p =>
          obtain ⟨b', e3, rfl⟩ := map_some (show (comp S n c e).map .star = some b from e1)
          refine PA_imp (StX.pa_star (ih n c e b' X Φ k Z e3 G).1 tl) fun σ H Q h => ?_
          obtain ⟨A, f, s, r0, h⟩ := h
          refine ⟨A, f, s, r0, h.of_bind fun v s1 f1 H1 x ee eX R1 rv g => ?_⟩
          split at g
          · rename_i xs ei
            have fin : ∀ us, PV (wx X Φ).toWd f1 (hid A f1 s1.objs H1) us xs → tA (wx X Φ) Z (evd (sem K F).ev r) σ H1 fun ys H2 => Q (us ++ ys) H2 := fun us hv =>
              ⟨A, f1, s1, R1, g.of_bind fun vs s2 f2 H2 ys e4 eY R2 rs g2 => g2 f2 H2 (us ++ ys) (Ext.refl _ _ _) R2 (Paired.app (PV.ext eY hv) rs)⟩
            rcases items_ty ei with ht | ht
            · obtain ⟨a, us, rfl, q1, hv⟩ := items_list ei ht R1 rv
              exact ⟨a, us, rfl, .inr q1, fin us hv⟩
            · obtain ⟨a, us, ds, rfl, rfl, rfl, q1, hv⟩ := items_tuple ei ht R1 rv
              exact ⟨a, us, rfl, .inl q1, fin us (PV_map hv)⟩
          · exact g.elim
        | _ => exact absurd rfl hs
    · cases h
theorem part_of {n F : Nat} (ih : SndE S K F) (G : Good S K X Φ c k Z) {o : Option Expr} {m : ME} (h : comp.compO (comp S n c) o = some m) (hF : F ≠ 0) : partV X Φ Z o ((sem K F).ev m) := by
  cases o with
  | none =>
    cases h
    cases F with
    | zero => exact absurd rfl hF
    | succ F => rfl
  | some e => exact (ih n c e m X Φ k Z h G).1
theorem s_lc2 {n F : Nat} (ih : SndE S K F) (G : Good S K X Φ c k Z) {elt tg it tg2 it2 : Expr} {ifs ifs2 : List Expr} {scope : Scope} {own : List (Str × Nat)} {pos : Pos} {kd kd2 : ItK} {es ifs' es2 ifs2' : List ME} {t t2 : MT} {m : ME} (hset : noSet it = true) (hset2 : noSet it2 = true) (hl : ifs.length ≤ 1) (hl2 : ifs2.length ≤ 1) (hb : blkC c.N c.sc scope own = true)
    (hi : compIt (comp S n c) c it = some (kd, es)) (ht : compT (blkSC c scope) 3 tg = some t) (hif : compL (comp S n (blkSC c scope)) ifs = some ifs') (hi2 : compIt (comp S n (blkSC c scope)) (blkSC c scope) it2 = some (kd2, es2)) (ht2 : compT (blkSC c scope) 3 tg2 = some t2)
    (hif2 : compL (comp S n (blkSC c scope)) ifs2 = some ifs2') (he : comp S n (blkSC c scope) elt = some m) (h1 : tgFor kd tg = true) (h12 : tgFor kd2 tg2 = true) (h2 : t.slotsB (own.map (·.2)) = true) (h22 : t2.slotsB (own.map (·.2)) = true) :
    PE X (.ListComp elt [⟨tg, it, ifs, 0⟩, ⟨tg2, it2, ifs2, 0⟩] scope pos) (tE (wx X Φ) Z fun s => (walkF (sem K F).ev kd es s).bind fun its s2 => lc2G (asgI t) (tests (sem K F).ev ifs') (walkF (sem K F).ev kd2 es2) (asgI t2) (tests (sem K F).ev ifs2') ((sem K F).ev m) (own.map (·.2)) t2.slots its s2) := by
  have ok : BlkOk X.N X.env.scope scope own := by
    rw [G.N, G.sc]
    exact blkOk_by hb
  refine PE_imp (pe_lc2 G.calm G.nd (pi_of ih G hi h1) ok (slotsB_ok.1 t2 _ h22) (g := gM X.K t) (tt := tT (wx X Φ) Z0 (tests (sem K F).ev ifs')) (wi1 := tI (wx X Φ) Z0 (walkF (sem K F).ev kd2 es2)) (g1 := gM X.K t2) (tt1 := tT (wx X Φ) Z0 (tests (sem K F).ev ifs2')) (te := tE (wx X Φ) Z0 ((sem K F).ev m))
    (fun s H C cl fp => ?_) (fun s H C cl fp => ?_) (fun s H C cl fp => ?_) (fun s H C cl fp => ?_) (fun s H C cl fp => ?_) (fun s H C cl fp => ?_) (foldSet hset) (fun env => foldSet hset2)) fun σ H Q h => ?_
  · have GB := G.blk s H scope C cl fp
    exact pg_of (c := blkSC c scope) GB.calm GB.N GB.nd GB.sc GB.fnB 3 tg t ht
  · exact pts_of ih (G.blk s H scope C cl fp) hif hl
  · exact pi_of ih (G.blk s H scope C cl fp) hi2 h12
  · have GB := G.blk s H scope C cl fp
    exact pg_of (c := blkSC c scope) GB.calm GB.N GB.nd GB.sc GB.fnB 3 tg2 t2 ht2
  · exact pts_of ih (G.blk s H scope C cl fp) hif2 hl2
  · exact (ih n _ elt m _ Φ k Z0 he (G.blk s H scope C cl fp)).1
  · exact lc2G_tLc2 (slotsB_ok.1 t _ h2) h
theorem s_dc {n F : Nat} (ih : SndE S K F) (G : Good S K X Φ c k Z) {ke ve tg it : Expr} {ifs : List Expr} {scope : Scope} {own : List (Str × Nat)} {pos : Pos} {kd : ItK} {es ifs' : List ME} {t : MT} {mk mv : ME} (hset : noSet it = true) (hl : ifs.length ≤ 1) (hb : blkC c.N c.sc scope own = true)
    (hi : compIt (comp S n c) c it = some (kd, es)) (ht : compT (blkSC c scope) 3 tg = some t) (hif : compL (comp S n (blkSC c scope)) ifs = some ifs') (hk : comp S n (blkSC c scope) ke = some mk) (hv : comp S n (blkSC c scope) ve = some mv) (h1 : tgFor kd tg = true) (h2 : t.slotsB (own.map (·.2)) = true) :
    PE X (.DictComp ke ve [⟨tg, it, ifs, 0⟩] scope pos) (tE (wx X Φ) Z fun s => (walkF (sem K F).ev kd es s).bind fun its s2 => dcG (asgI t) (tests (sem K F).ev ifs') ((sem K F).ev mk) ((sem K F).ev mv) (own.map (·.2)) its s2) := by
  have ok : BlkOk X.N X.env.scope scope own := by
    rw [G.N, G.sc]
    exact blkOk_by hb
  refine PE_imp (pe_dcR G.u65 G.calm G.nd (pi_of ih G hi h1) ok (g := gM X.K t) (tt := tT (wx X Φ) Z0 (tests (sem K F).ev ifs')) (tk := tE (wx X Φ) Z0 ((sem K F).ev mk)) (tv := tE (wx X Φ) Z0 ((sem K F).ev mv)) (fun s H C cl fp => ?_) (fun s H C cl fp => ?_) (fun s H C cl fp => ?_) (fun s H C cl fp => ?_) (foldSet hset)) fun σ H Q h => ?_
  · have GB := G.blk s H scope C cl fp
    exact pg_of (c := blkSC c scope) GB.calm GB.N GB.nd GB.sc GB.fnB 3 tg t ht
  · exact pts_of ih (G.blk s H scope C cl fp) hif hl
  · exact (ih n _ ke mk _ Φ k Z0 hk (G.blk s H scope C cl fp)).1
  · exact (ih n _ ve mv _ Φ k Z0 hv (G.blk s H scope C cl fp)).1
  · exact dcG_tDr (slotsB_ok.1 t _ h2) h
theorem snd_step {F : Nat} (ih : SndE S K F) : SndE S K (F + 1) := by
  intro n
  induction n with
  | zero => intro c e m X Φ k Z h G; cases h
  | succ n ihn =>
    intro c e m X Φ k Z h G
    have gE : ∀ {e : Expr} {m : ME}, comp S n c e = some m → PE X e (tE (wx X Φ) Z ((sem K F).ev m)) := fun h => (ih n c _ _ X Φ k Z h G).1
    have gT : ∀ {e : Expr} {m : ME}, comp S n c e = some m → PT X e (tT (wx X Φ) Z (tst (sem K F).ev m)) := fun h => (ih n c _ _ X Φ k Z h G).2
    unfold comp at h
    split at h
    · cases h
      exact both (e_con pe_non fun H => .non)
    · cases h
      exact both (e_con pe_bl fun H => .bl _)
    · cases h
      exact both (e_con pe_int fun H => .int _)
    · cases h
      exact both (e_con pe_str fun H => .str _)
    · -- names
      rename_i x p
      split at h
      · rename_i hn
        obtain ⟨n1, n2, n3⟩ := nameOk_ok hn
        split at h
        · rename_i hv
          obtain ⟨i, e1, rfl⟩ := map_some h
          exact both (e_slot (G.slot e1) (G.vis hv) n1 n2)
        · split at h
          · rename_i hg
            obtain ⟨i, e1, rfl⟩ := map_some h
            obtain ⟨v, u, d, h1, h2, h3, h4⟩ := G.cons x i e1
            have := e_con (Φ := Φ) (Z := Z) (pe_glob (pos := p) (G.gl hg) h1 h2 n1) h4
            refine both (PE_imp this fun σ H Q ⟨A, f, s, r, h⟩ => ⟨A, f, s, r, ?_⟩)
            have e2 : (sem K (F + 1)).ev (.gc i) s = .ok (.d d) s := by
              show ofO ((K.con i).map Val.d) s = _
              rw [h3]
              rfl
            rw [e2] at h
            exact h
          · cases h
      · cases h
    · -- tuples
      rename_i es kk p
      split at h
      · rename_i hs
        obtain ⟨ms, e1, rfl⟩ := map_some h
        exact both (e_tupleD (pa_of ih G e1 hs) d_tup)
      · cases h
    · rename_i es p
      split at h
      · rename_i hs
        obtain ⟨ms, e1, rfl⟩ := map_some h
        exact both (e_listD (pa_of ih G e1 hs) d_lst)
      · obtain ⟨ms, e1, rfl⟩ := map_some h
        exact both (e_listD (pa_ofS ih G e1) d_lst)
    · cases h
      exact both e_dic0
    · split at h
      · rename_i k' v' e1 e2
        cases h
        exact both (e_dic1 G.u65 (gE e1) (gE e2))
      · cases h
    · split at h
      · rename_i k' v' k2' v2' e1 e2 e3 e4
        cases h
        exact both (e_dic2 G.u65 (gE e1) (gE e2) (gE e3) (gE e4))
      · cases h
    · split at h
      · rename_i o a' b' e1 e2 e3
        cases h
        exact both (e_bin (op_binV e1) (gE e2) (gE e3))
      · cases h
    · obtain ⟨a', e1, rfl⟩ := map_some h
      exact both (e_un un_negV (gE e1))
    · obtain ⟨a', e1, rfl⟩ := map_some h
      exact ⟨e_not (gE e1), p_not (gT e1)⟩
    · -- and, or of one
      obtain ⟨h1, h2⟩ := ihn c _ m X Φ k Z h G
      exact ⟨pe_one h1, (pw_and1 h2).pt⟩
    · obtain ⟨h1, h2⟩ := ihn c _ m X Φ k Z h G
      exact ⟨pe_one h1, (pw_or1 h2).pt⟩
    · split at h
      · rename_i a' b' e1 e2
        cases h
        exact ⟨e_and (gE e1) (gE e2), p_and (gT e1) (gT e2)⟩
      · cases h
    · split at h
      · rename_i a' b' e1 e2
        cases h
        exact ⟨e_or (gE e1) (gE e2), p_or (gT e1) (gT e2)⟩
      · cases h
    · split at h
      · rename_i t' a' b' e1 e2 e3
        cases h
        exact ⟨e_ite (gT e1) (gE e2) (gE e3), p_ite (gT e1) (gT e2) (gT e3)⟩
      · cases h
    · split at h
      · rename_i hs
        split at h
        · rename_i a' b' e1 e2
          cases h
          exact ⟨e_cmp (op_cmpV G.u65 _) (noSet_ok hs) (gE e1) (gE e2), p_cmp (op_cmpV G.u65 _) (noSet_ok hs) (gE e1) (gE e2)⟩
        · cases h
      · cases h
    · split at h
      · rename_i hs
        split at h
        · rename_i a' b' d' e1 e2 e3
          cases h
          exact ⟨e_chn G.u65 hs.2 (gE e1) (gE e2) (gE e3), p_chn G.u65 hs.2 (gE e1) (gE e2) (gE e3)⟩
        · cases h
      · cases h
    · -- slices
      split at h
      · rename_i a' l' h' kk e1 e2 e3 e4
        cases h
        cases F with
        | zero =>
          refine both (PE_false fun σ H Q hh => ?_)
          exact tO_bad (show tO (wx X Φ) Z (RlV (wx X Φ)) (fun _ => .bad) σ H Q from hh)
        | succ F => exact both (e_sl e4 (gE e1) (part_of ih G e2 (by omega)) (part_of ih G e3 (by omega)))
      · cases h
    · split at h
      · rename_i hp
        split at h
        · rename_i a' i' e1 e2
          cases h
          exact both (e_ix (ix_V G.u65) (plainIx_ok hp) (gE e1) (gE e2))
        · cases h
      · cases h
    · -- comprehensions
      split at h
      · rename_i hc
        split at h
        · rename_i own eo
          split at h
          · rename_i hb
            split at h
            · rename_i kd es tg' ifs' elt' e1 e2 e3 e4
              split at h
              · rename_i ht
                cases h
                rw [Bool.and_eq_true] at ht
                exact both (s_lc ih G hc.1 hc.2 hb e1 e2 e3 e4 ht.1 ht.2)
              · cases h
            · cases h
          · cases h
        · cases h
      · cases h
    · -- of two clauses
      split at h
      · rename_i hc
        simp only [Bool.and_eq_true, decide_eq_true_eq] at hc
        split at h
        · rename_i own eo
          split at h
          · rename_i hb
            split at h
            · rename_i kd es tg' ifs' kd2 es2 tg2' e1 e2 e3 e4 e5
              split at h
              · rename_i ifs2' elt' e6 e7
                split at h
                · rename_i ht
                  cases h
                  simp only [Bool.and_eq_true] at ht
                  exact both (s_lc2 ih G hc.1.1.1 hc.1.1.2 hc.1.2 hc.2 hb e1 e2 e3 e4 e5 e6 e7 ht.1.1.1 ht.1.1.2 ht.1.2 ht.2)
                · cases h
              · cases h
            · cases h
          · cases h
        · cases h
      · cases h
    · -- dicts
      split at h
      · rename_i hc
        simp only [Bool.and_eq_true, decide_eq_true_eq] at hc
        split at h
        · rename_i own eo
          split at h
          · rename_i hb
            split at h
            · rename_i kd es tg' ifs' ke' ve' e1 e2 e3 e4 e5
              split at h
              · rename_i ht
                cases h
                rw [Bool.and_eq_true] at ht
                exact both (s_dc ih G hc.1 hc.2 hb e1 e2 e3 e4 e5 ht.1 ht.2)
              · cases h
            · cases h
          · cases h
        · cases h
      · cases h
    · split at h
      · rename_i hc
        rw [Bool.and_eq_true] at hc
        have hk := List.isEmpty_iff.mp hc.2
        subst hk
        split at h
        · rename_i hs
          split at h
          · rename_i mm et
            cases h
            exact both (s_tryl ih G hc.1 et)
          · exact both (sp_call_form ih G hc.1 hs h)
        · cases h
      · split at h
        · rename_i hq
          rw [Bool.and_eq_true] at hq
          exact both (s_kwcall ih G hq.1 hq.2 h)
        · cases h
    · rename_i o mn apos args p
      split at h
      · rename_i hc
        split at h
        · rename_i m' o' es e1 e2 e3
          cases h
          cases args with
          | nil =>
            cases e3
            exact both (e_mth0 G.u65 e1 hc.2.1 hc.1 (gE e2))
          | cons a r => exact both (e_mth G.u65 e1 hc.2.1 hc.1 hc.2.2 (gE e2) (pa_of ih G e3 hc.2.2))
        · cases h
      · cases h
    · cases h
theorem snd_all : ∀ F, SndE S K F
  | 0 => snd_zero
  | F + 1 => snd_step (snd_all F)
end
end MI

set_option Elab.async false
set_option linter.all false
set_option maxRecDepth 100000
set_option maxHeartbeats 2000000
/-! MI: each statement that the checker takes does what MI does. -/
namespace MI
open PySem PySem.Spec L2
open PyProof.Rows hiding St

/-- an exception's class, as raise wants it -/
def RaisesAt (X : Cx) (Φ : Fx) (x : Str) (cid : Nat) (keeps : Bool) : Prop := match keeps with
  | false => ∃ C, Φ.ca cid = some (C, none) ∧ ∀ (m : Str) (j : Nat) (p p2 pos : Pos), Gl X x → PMk X (.Call (.Name x p) [.Constant (.str m) j p2] [] pos) (fun _ H Q => Q (.ref C) none H)
  | true => ∃ C z, Φ.ca cid = some (C, some z) ∧ ∀ (a : Expr) (ta : TE) (p pos : Pos), PE X a ta → notStar a = true → Gl X x → PMk X (.Call (.Name x p) [a] [] pos) (fun σ H Q => ta σ H fun y H1 => ∀ d, H1 d = none → Q (.ref C) (some d) (upd H1 d (.xd [(z, y)])))
/-- the lambdas that a def makes as values -/
structure LamsAt (X : Cx) (Φ : Fx) (lams : List (LamD × Nat)) : Prop where
  tb : ∃ cA P, LamX.TabB X.base X.mg cA P ∧ X.env.code = .ref cA ∧ (P, X.env.qual ++ "<lambda>") ∈ Φ.T ∧ ∀ p ∈ Φ.T, p.1 = P → p.2 = X.env.qual ++ "<lambda>"
  la : ∀ D g, (D, g) ∈ lams → Φ.la g = some D ∧ D.q = X.env.qual ++ "<lambda>" ∧ ∀ y ∈ D.scope.names, y.2 ≠ .free
structure GoodS (S : Nat → Option Sig) (K : Cfg) (X : Cx) (Φ : Fx) (c : SC) (k : Nat) (Z : L2.WX) : Prop extends Good S K X Φ c k Z where
  own : PassesOwn (model X.prog X.w) X.A X.env X.xe
  kind : X.env.scope.kind = .function
  exn : ∀ x cid keeps, c.exn.lookup x = some (cid, keeps) → RaisesAt X Φ x cid keeps
  fnA : ∀ x g, c.fns.lookup x = some g → c.nov.contains g = false → ∃ f, Φ.fa g = some f ∧ Φ.fc g = some f
  lams : c.lams = [] ∨ LamsAt X Φ c.lams
section
variable {S : Nat → Option Sig} {K : Cfg} {X : Cx} {Φ : Fx} {c : SC} {k : Nat} {Z : L2.WX} {pos : Pos}
theorem x_false {st : Stmt} {t : TS} (h : ∀ D σ H, ¬ t D σ H) : PS X st t := ⟨fun pins s σ H D I q => (h D σ H q).elim⟩
theorem tX_bad {W : Wx} {D : Ends} {σ : St} {H : Hp} : ¬ tX W Z (fun _ => .bad) D σ H := fun ⟨_, _, _, _, h⟩ => h
/-! ### raise -/
theorem x_raise0 {x m : Str} {j : Nat} {p p2 p3 : Pos} {cid : Nat} (G : GoodS S K X Φ c k Z) (hg : Gl X x) (h : RaisesAt X Φ x cid false) : PS X (.Raise (some (.Call (.Name x p) [.Constant (.str m) j p2] [] p3)) none pos) (tX (wx X Φ) Z fun s => .exc cid .none s) := by
  obtain ⟨C, h1, h2⟩ := h
  refine PS_imp (ps_raise G.calm G.tk (h2 m j p p2 p3 hg)) fun D σ H ⟨A, f, s, r, h⟩ => ?_
  exact h f H σ (.ref C) none (Ext.refl _ _ _) r ⟨C, none, h1, rfl, rfl⟩
theorem x_raise1 {x : Str} {a : Expr} {p p3 : Pos} {cid : Nat} {E : MS → Out Val} (G : GoodS S K X Φ c k Z) (hg : Gl X x) (hs : notStar a = true) (ha : PE X a (tE (wx X Φ) Z E)) (h : RaisesAt X Φ x cid true) :
    PS X (.Raise (some (.Call (.Name x p) [a] [] p3)) none pos) (tX (wx X Φ) Z fun s => (E s).bind fun v s1 => match v with
      | .d x => .exc cid x s1
      | _ => .bad) := by
  obtain ⟨C, z, h1, h2⟩ := h
  refine PS_imp (ps_raise G.calm G.tk (h2 a _ p p3 ha hs hg)) fun D σ H ⟨A, f, s, r, h⟩ => ⟨A, f, s, r, ?_⟩
  refine GoS.of_bind h fun v s1 f1 H1 y e1 eX R1 rv g d hd => ?_
  cases v with
  | ref n => exact g.elim
  | fn n => exact g.elim
  | d x =>
    have ex : Ext f1 s1.objs H1 f1 s1.objs (upd H1 d (.xd [(z, y)])) := Ext.of_same (same_upd hd)
    exact g f1 _ σ (.ref C) (some d) ex (R1.same (same_upd hd)) ⟨C, some z, h1, rfl, d, y, rfl, hid_new (W := wx X Φ) R1 hd (fun _ z => by cases z), Rp.same (Ext.same (A := A) ex) rv⟩
/-! ### assignments -/
theorem lookup_plain {c : SC} {x : Str} (G : Good S K X Φ c k Z) (h : isPlain c.sc x = true) : X.env.scope.names.lookup x = some .local := by
  rw [G.sc]
  exact isPlain_ok h
theorem sw_nonName {tg e : Expr} {l : Nat} {env : Env} (h : ∀ x p, tg ≠ .Name x p) : swapsWithSole [tg] e l env = pure false := by
  show swapsWith e (some tg) l env = pure false
  unfold swapsWith
  cases e <;> first | rfl | (cases tg <;> first | rfl | exact absurd rfl (h _ _))
theorem sw_name {x : Str} {p : Pos} {e : Expr} {l : Nat} (G : GoodS S K X Φ c k Z) (h : swapsB c (.Name x p) e = false) : swapsWithSole [.Name x p] e l X.env = pure false := by
  have hb : X.env.blockKind = .function := by unfold Env.blockKind; rw [G.kind]; rfl
  have key : ∀ (s : Scope) (p2 : Pos), (isPlain c.sc x && (p.line == p2.line) && !(s.names.any fun (n, k) => n == x && (k == .local || k == .cell))) = false →
      (X.env.blockKind == .function && X.env.kindOf x == some .local && p.line == p2.line && !(s.names.any fun (n, k) => n == x && (k == .local || k == .cell))) = false := by
    intro s p2 hh
    by_cases hk : X.env.kindOf x = some .local
    · have hp : isPlain c.sc x = true := by
        have hk' : X.env.scope.names.lookup x = some .local := hk
        rw [G.sc] at hk'
        unfold isPlain
        rw [hk']
      rw [hp] at hh
      rw [hb, hk]
      simpa using hh
    · have : (X.env.kindOf x == some .local) = false := by
        cases hq : X.env.kindOf x with
        | none => rfl
        | some q => cases q <;> first | rfl | exact absurd hq hk
      rw [this]
      simp
  show swapsWith e (some (.Name x p)) l X.env = pure false
  unfold swapsWith
  cases e <;> first | rfl | skip
  all_goals
    dsimp only
    have hh := key _ _ h
    show pure _ = pure false
    exact congrArg pure hh
theorem filterMap_lt {α β : Type} {g : α → Option β} : ∀ {l : List α}, (l.any fun a => (g a).isNone) = true → (l.filterMap g).length < l.length
  | a :: l, h => by
    rw [List.any_cons, Bool.or_eq_true] at h
    rw [List.filterMap_cons]
    cases e : g a with
    | none =>
      have := List.length_filterMap_le g l
      simp only [List.length_cons]
      omega
    | some b =>
      rw [e] at h
      simp only [Option.isNone_some, Bool.false_eq_true, false_or] at h
      have := filterMap_lt h
      simp only [List.length_cons]
      omega
theorem sws_none {ts es : List Expr} {k1 k2 : Nat} {p1 p2 : Pos} (G : GoodS S K X Φ c k Z) (h : noPar ts es c = true) (hs : es.all notStar = true) : swappedStores [.Tuple ts k1 p1] (.Tuple es k2 p2) X.env = pure none := by
  unfold noPar at h
  simp only [Bool.or_eq_true] at h
  unfold swappedStores
  dsimp only
  have any_lt : ∀ (g : Expr → Option Str), (∀ e, (match e with
      | .Name x _ => !isPlain c.sc x
      | _ => true) = true → g e = none) → (ts.any fun
      | .Name x _ => !isPlain c.sc x
      | _ => true) = true → (ts.filterMap g).length < ts.length := fun g hg ha => filterMap_lt (by
    rw [List.any_eq_true] at ha ⊢
    obtain ⟨e, h1, h2⟩ := ha
    exact ⟨e, h1, by rw [hg e h2]; rfl⟩)
  split
  · rfl
  · rename_i c1
    split
    · rfl
    · split
      · rfl
      · rename_i c3
        split
        · rfl
        · rename_i c4
          exfalso
          simp only [Bool.or_eq_true, not_or] at c1 c3
          rcases h with ((h | h) | h) | h
          · exact c1.1.1 h
          · exact c1.1.2 (by simpa using h)
          · exact c4 h
          · refine c3.1 (bne_iff_ne.mpr (Nat.ne_of_lt (any_lt _ (fun e he => ?_) h)))
            cases e with
            | Name x p =>
              have hn : isPlain c.sc x = false := by simpa using he
              have hk : (X.env.kindOf x == some NameKind.local) = false := by
                cases hq : X.env.kindOf x with
                | none => rfl
                | some q =>
                  cases q with
                  | «local» =>
                    have hq' : X.env.scope.names.lookup x = some .local := hq
                    rw [G.sc] at hq'
                    unfold isPlain at hn
                    rw [hq'] at hn
                    cases hn
                  | _ => rfl
              dsimp only
              rw [hk]
              rfl
            | _ => rfl
theorem par_some2 {x y : Str} {px py : Pos} {a b : Expr} {kt k2 : Nat} {pt pt2 : Pos} (G : GoodS S K X Φ c k Z) (hx : X.env.scope.names.lookup x = some .local) (hy : X.env.scope.names.lookup y = some .local) (hl : py.line = px.line) (hxy : x ≠ y) (sa : notStar a = true) (sb : notStar b = true)
    (h1 : [a, b].all (foldedForSure 8) = false) (h2 : [a, b].all (constantsAlone 8) = false) : swappedStores [.Tuple [.Name x px, .Name y py] kt pt] (.Tuple [a, b] k2 pt2) X.env = pure (some [x, y]) := by
  have hb : X.env.blockKind = .function := by unfold Env.blockKind; rw [G.kind]; rfl
  have kx : X.env.kindOf x = some .local := hx
  have ky : X.env.kindOf y = some .local := hy
  unfold swappedStores
  have nst : ∀ {e : Expr}, notStar e = true → (match e with
      | .Starred _ _ => true
      | _ => false) = false := fun {e} h => by cases e <;> first | rfl | cases h
  have hd : [x, y].eraseDups.length = 2 := by
    have e1 : (y == x) = false := beq_eq_false_iff_ne.mpr (Ne.symm hxy)
    simp [List.eraseDups_cons, e1]
  have f1 : ¬ (foldedForSure 8 a = true ∧ foldedForSure 8 b = true) := by simpa using h1
  have f2 : ¬ (constantsAlone 8 a = true ∧ constantsAlone 8 b = true) := by simpa using h2
  simp [hb, kx, ky, hl, Expr.pos]
  rw [if_neg, if_pos hd, if_neg f1, if_neg f2]
  rintro (h | h)
  · clear h1 h2 f1 f2
    cases a <;> first | (cases h; done) | (cases sa; done)
  · clear h1 h2 f1 f2
    cases b <;> first | (cases h; done) | (cases sb; done)
theorem par_some3 {x y z : Str} {px py pz : Pos} {a b d : Expr} {kt k2 : Nat} {pt pt2 : Pos} (G : GoodS S K X Φ c k Z) (hx : X.env.scope.names.lookup x = some .local) (hy : X.env.scope.names.lookup y = some .local) (hz : X.env.scope.names.lookup z = some .local) (hl : py.line = px.line) (hl2 : pz.line = px.line)
    (hxy : x ≠ y) (hxz : x ≠ z) (hyz : y ≠ z) (sa : notStar a = true) (sb : notStar b = true) (sd : notStar d = true)
    (h1 : [a, b, d].all (foldedForSure 8) = false) (h2 : [a, b, d].all (constantsAlone 8) = false) : swappedStores [.Tuple [.Name x px, .Name y py, .Name z pz] kt pt] (.Tuple [a, b, d] k2 pt2) X.env = pure (some [x, y, z]) := by
  have hb : X.env.blockKind = .function := by unfold Env.blockKind; rw [G.kind]; rfl
  have kx : X.env.kindOf x = some .local := hx
  have ky : X.env.kindOf y = some .local := hy
  have kz : X.env.kindOf z = some .local := hz
  unfold swappedStores
  have nst : ∀ {e : Expr}, notStar e = true → (match e with
      | .Starred _ _ => true
      | _ => false) = false := fun {e} h => by cases e <;> first | rfl | cases h
  have hd : [x, y, z].eraseDups.length = 3 := by
    have e1 : (y == x) = false := beq_eq_false_iff_ne.mpr (Ne.symm hxy)
    have e2 : (z == x) = false := beq_eq_false_iff_ne.mpr (Ne.symm hxz)
    have e3 : (z == y) = false := beq_eq_false_iff_ne.mpr (Ne.symm hyz)
    simp [List.eraseDups_cons, e1, e2, e3]
  have f1 : ¬ (foldedForSure 8 a = true ∧ foldedForSure 8 b = true ∧ foldedForSure 8 d = true) := by simpa using h1
  have f2 : ¬ (constantsAlone 8 a = true ∧ constantsAlone 8 b = true ∧ constantsAlone 8 d = true) := by simpa using h2
  simp [hb, kx, ky, kz, hl, hl2, Expr.pos]
  rw [if_neg, if_pos hd, if_neg f1, if_neg f2]
  rintro (h | h | h)
  · clear h1 h2 f1 f2
    cases a <;> first | (cases h; done) | (cases sa; done)
  · clear h1 h2 f1 f2
    cases b <;> first | (cases h; done) | (cases sb; done)
  · clear h1 h2 f1 f2
    cases d <;> first | (cases h; done) | (cases sd; done)
/-- a comprehension's parts -/
structure LcParts (S : Nat → Option Sig) (n : Nat) (c : SC) (elt tg it : Expr) (ifs : List Expr) (scope : Scope) (m : ME) : Prop where
  ex : ∃ (own : List (Str × Nat)) (kd : ItK) (es ifs' : List ME) (t : MT) (elt' : ME), noSet it = true ∧ ifs.length ≤ 1 ∧ blkC c.N c.sc scope own = true ∧ compIt (comp S n c) c it = some (kd, es) ∧ compT (blkSC c scope) 3 tg = some t ∧
    compL (comp S n (blkSC c scope)) ifs = some ifs' ∧ comp S n (blkSC c scope) elt = some elt' ∧ tgFor kd tg = true ∧ t.slotsB (own.map (·.2)) = true ∧ m = .lc (own.map (·.2)) t kd es ifs' elt'
theorem lc_parts {n : Nat} {elt tg it : Expr} {ifs : List Expr} {scope : Scope} {p : Pos} {m : ME} (h : comp S (n + 1) c (.ListComp elt [⟨tg, it, ifs, 0⟩] scope p) = some m) : LcParts S n c elt tg it ifs scope m := by
  simp only [comp] at h
  split at h
  · rename_i hc
    split at h
    · rename_i own eo
      split at h
      · rename_i hb
        split at h
        · rename_i kd es tg' ifs' elt' e1 e2 e3 e4
          split at h
          · rename_i ht
            cases h
            rw [Bool.and_eq_true] at ht
            exact ⟨own, kd, es, ifs', tg', elt', hc.1, hc.2, hb, e1, e2, e3, e4, ht.1, ht.2, rfl⟩
          · cases h
        · cases h
      · cases h
    · cases h
  · cases h
theorem lc_only {n : Nat} {elt : Expr} {gs : List Comprehension} {scope : Scope} {p : Pos} {m : ME} (h : comp S n c (.ListComp elt gs scope p) = some m) : ∃ n', n = n' + 1 ∧ ((∃ tg it ifs, gs = [⟨tg, it, ifs, 0⟩]) ∨ ∃ tg it ifs tg2 it2 ifs2, gs = [⟨tg, it, ifs, 0⟩, ⟨tg2, it2, ifs2, 0⟩]) := by
  cases n with
  | zero => cases h
  | succ n =>
    rcases gs with _ | ⟨⟨tg, it, ifs, a⟩, _ | ⟨⟨tg2, it2, ifs2, a2⟩, _ | ⟨g3, r⟩⟩⟩
    · simp [comp] at h
    · by_cases ha : a = 0
      · subst ha
        exact ⟨n, rfl, .inl ⟨tg, it, ifs, rfl⟩⟩
      · simp [comp, ha] at h
    · by_cases ha : a = 0
      · by_cases hb : a2 = 0
        · subst ha hb
          exact ⟨n, rfl, .inr ⟨tg, it, ifs, tg2, it2, ifs2, rfl⟩⟩
        · simp [comp, ha, hb] at h
      · simp [comp, ha] at h
    · simp [comp] at h
/-- a name = [.. for .. for ..] of its own line -/
theorem x_asgLc2 {n F : Nat} (G : GoodS S K X Φ c k Z) {x : Str} {px p : Pos} {elt tg it tg2 it2 : Expr} {ifs ifs2 : List Expr} {scope : Scope} {m : ME} {i : Nat} (h : comp S (n + 1) c (.ListComp elt [⟨tg, it, ifs, 0⟩, ⟨tg2, it2, ifs2, 0⟩] scope p) = some m) (hi : slotOf c.N x = some i)
    (hw : swapsB c (.Name x px) (.ListComp elt [⟨tg, it, ifs, 0⟩, ⟨tg2, it2, ifs2, 0⟩] scope p) = true) : PS X (.Assign [.Name x px] (.ListComp elt [⟨tg, it, ifs, 0⟩, ⟨tg2, it2, ifs2, 0⟩] scope p) pos) (tX (wx X Φ) Z fun s => ((sem K F).ev m s).bind fun v s1 => nextO (asgV (.n i) v s1)) := by
  cases F with
  | zero => exact x_false fun D σ H hh => tX_bad (show tX (wx X Φ) Z (fun _ => .bad) D σ H from hh)
  | succ F =>
    simp only [comp] at h
    split at h
    rotate_left
    · cases h
    rename_i hc
    simp only [Bool.and_eq_true, decide_eq_true_eq] at hc
    split at h
    rotate_left
    · cases h
    rename_i own eo
    split at h
    rotate_left
    · cases h
    rename_i hb
    split at h
    rotate_left
    · cases h
    rename_i kd es t ifs' kd2 es2 t2 e1 e2 e3 e4 e5
    split at h
    rotate_left
    · cases h
    rename_i ifs2' elt' e6 e7
    split at h
    rotate_left
    · cases h
    rename_i ht
    cases h
    simp only [Bool.and_eq_true] at ht
    have ih := snd_all (S := S) (K := K) F
    have G0 := G.toGood
    unfold swapsB at hw
    simp only [Bool.and_eq_true, Bool.not_eq_true'] at hw
    have hx := lookup_plain G0 hw.1.1
    have ok : BlkOk X.N X.env.scope scope own := by
      rw [G.N, G.sc]
      exact blkOk_by hb
    refine PS_imp (ps_setLc2 G.calm G.nd (G0.slot hi) hx (sw_true G.kind hx hw.1.2 hw.2) (pi_of ih G0 e1 ht.1.1.1) ok (slotsB_ok.1 t2 _ ht.2) (g := gM X.K t) (tt := tT (wx X Φ) Z0 (tests (sem K F).ev ifs')) (wi1 := tI (wx X Φ) Z0 (walkF (sem K F).ev kd2 es2)) (g1 := gM X.K t2) (tt1 := tT (wx X Φ) Z0 (tests (sem K F).ev ifs2')) (te := tE (wx X Φ) Z0 ((sem K F).ev elt'))
      (fun s H C cl fp => ?_) (fun s H C cl fp => ?_) (fun s H C cl fp => ?_) (fun s H C cl fp => ?_) (fun s H C cl fp => ?_) (fun s H C cl fp => ?_) (foldSet hc.1.1.1) (fun env => foldSet hc.1.1.2)) fun D σ H hh => ?_
    · have GB := G0.blk s H scope C cl fp
      exact pg_of (c := blkSC c scope) GB.calm GB.N GB.nd GB.sc GB.fnB 3 tg t e2
    · exact pts_of ih (G0.blk s H scope C cl fp) e3 hc.1.2
    · exact pi_of ih (G0.blk s H scope C cl fp) e4 ht.1.1.2
    · have GB := G0.blk s H scope C cl fp
      exact pg_of (c := blkSC c scope) GB.calm GB.N GB.nd GB.sc GB.fnB 3 tg2 t2 e5
    · exact pts_of ih (G0.blk s H scope C cl fp) e6 hc.2
    · exact (ih n _ elt elt' _ Φ k Z0 e7 (G0.blk s H scope C cl fp)).1
    · obtain ⟨A, f, s, r, hh⟩ := hh
      refine lc2G_tLc2 (Z := Z) (slotsB_ok.1 t _ ht.1.2) ⟨A, f, s, r, GoS.of_bind (Rel := RlV (wx X Φ)) hh fun v s1 f1 H1 y ee eX R1 rv g => ?_⟩
      obtain ⟨s2, e8, g2⟩ := go_nextO g
      unfold asgV at e8
      split at e8
      · cases e8
        exact g2 f1 H1 _ (Ext.refl _ _ _) (R1.slot rv)
      · cases e8
/-- a = b = e -/
theorem x_asg2 {x y : Str} {px py : Pos} {i j : Nat} {e : Expr} {E : MS → Out Val} (G : GoodS S K X Φ c k Z) (h1 : plainName c (.Name x px) = some (x, i)) (h2 : plainName c (.Name y py) = some (y, j)) (he : PE X e (tE (wx X Φ) Z E)) :
    PS X (.Assign [.Name x px, .Name y py] e pos) (tX (wx X Φ) Z fun s => (E s).bind fun v s1 => nextO (stores [i, j] [v, v] s1)) := by
  have G0 := G.toGood
  have one : ∀ {x : Str} {px : Pos} {i : Nat}, plainName c (.Name x px) = some (x, i) → PG X (.Name x px) (gName i) := fun {x px i} h => by
    unfold plainName at h
    simp only at h
    split at h
    · rename_i hx
      obtain ⟨i', e1, e2⟩ := map_some h
      cases e2
      exact pg_name G0.nd (G0.slot e1) (.inl (lookup_plain G0 hx)) (.inr (lookup_plain G0 hx))
    · cases h
  refine PS_imp (ps_asg2 he (one h1) (one h2) rfl (by unfold swappedStores; cases e <;> rfl)) fun D σ H ⟨A, f, s, r, h⟩ => ⟨A, f, s, r, ?_⟩
  refine GoS.of_bind h fun v s1 f1 H1 u e1 eX R1 rv g => ?_
  obtain ⟨s2, e2, g2⟩ := go_nextO g
  unfold stores at e2
  split at e2
  · unfold stores at e2
    split at e2
    · cases e2
      exact g2 f1 H1 _ (Ext.refl _ _ _) ((R1.slot rv).slot rv)
    · cases e2
  · cases e2
/-- name = [..] of its own line -/
theorem x_asgLc {n F : Nat} (G : GoodS S K X Φ c k Z) {x : Str} {px p : Pos} {elt tg it : Expr} {ifs : List Expr} {scope : Scope} {m : ME} {i : Nat} (h : comp S (n + 1) c (.ListComp elt [⟨tg, it, ifs, 0⟩] scope p) = some m) (hi : slotOf c.N x = some i) (hw : swapsB c (.Name x px) (.ListComp elt [⟨tg, it, ifs, 0⟩] scope p) = true) :
    PS X (.Assign [.Name x px] (.ListComp elt [⟨tg, it, ifs, 0⟩] scope p) pos) (tX (wx X Φ) Z fun s => ((sem K F).ev m s).bind fun v s1 => nextO (asgV (.n i) v s1)) := by
  cases F with
  | zero => exact x_false fun D σ H hh => tX_bad (show tX (wx X Φ) Z (fun _ => .bad) D σ H from hh)
  | succ F =>
    obtain ⟨own, kd, es, ifs', t, elt', hset, hl, hb, e1, e2, e3, e4, h1, h2, rfl⟩ := (lc_parts h).ex
    have ih := snd_all (S := S) (K := K) F
    have G0 := G.toGood
    unfold swapsB at hw
    simp only [Bool.and_eq_true, Bool.not_eq_true'] at hw
    have hx := lookup_plain G0 hw.1.1
    have ok : BlkOk X.N X.env.scope scope own := by
      rw [G.N, G.sc]
      exact blkOk_by hb
    refine PS_imp (ps_setLc G.calm G.nd (G0.slot hi) hx (sw_true G.kind hx hw.1.2 hw.2) (pi_of ih G0 e1 h1) ok (g := gM X.K t) (tt := tT (wx X Φ) Z0 (tests (sem K F).ev ifs')) (te := tE (wx X Φ) Z0 ((sem K F).ev elt')) (fun s H C cl fp => ?_) (fun s H C cl fp => ?_) (fun s H C cl fp => ?_) (foldSet hset)) fun D σ H hh => ?_
    · have GB := G0.blk s H scope C cl fp
      exact pg_of (c := blkSC c scope) GB.calm GB.N GB.nd GB.sc GB.fnB 3 tg t e2
    · exact pts_of ih (G0.blk s H scope C cl fp) e3 hl
    · exact (ih n _ elt elt' _ Φ k Z0 e4 (G0.blk s H scope C cl fp)).1
    · obtain ⟨A, f, s, r, hh⟩ := hh
      refine lcG_tLc (Z := Z) (slotsB_ok.1 t _ h2) ⟨A, f, s, r, GoS.of_bind (Rel := RlV (wx X Φ)) hh fun v s1 f1 H1 y ee eX R1 rv g => ?_⟩
      obtain ⟨s2, e5, g2⟩ := go_nextO g
      unfold asgV at e5
      split at e5
      · cases e5
        exact g2 f1 H1 _ (Ext.refl _ _ _) (R1.slot rv)
      · cases e5
def SndS (S : Nat → Option Sig) (K : Cfg) (n F : Nat) : Prop := ∀ (l : Nat) (c : SC) (st : Stmt) (m : MSt) (X : Cx) (Φ : Fx) (k : Nat) (Z : L2.WX), compS S n l c st = some m → GoodS S K X Φ c k Z → PS X st (tX (wx X Φ) Z ((sem K F).ex m))
theorem pss_of {n F l : Nat} (ih : SndS S K n F) (G : GoodS S K X Φ c k Z) : ∀ {b : List Stmt} {ms : List MSt}, compL (orBad (compS S n l c)) b = some ms → PSs X b (tX (wx X Φ) Z (exs (sem K F).ex ms))
  | [], _, h => by
    cases h
    exact x_nil
  | st :: r, ms, h => by
    unfold compL at h
    split at h
    · rename_i m ms' e1 e2
      cases h
      unfold orBad at e1
      split at e1
      · rename_i m' em
        cases e1
        exact x_cons (ih l c st m X Φ k Z em G) (pss_of ih G e2)
      · cases e1
        refine x_cons (x_false fun D σ H hh => tX_bad (show tX (wx X Φ) Z (fun _ => .bad) D σ H from ?_)) (pss_of ih G e2)
        cases F <;> exact hh
    · cases h
theorem sw0_name {x : Str} {p : Pos} {e : Expr} {env : Env} : swappedStores [.Name x p] e env = pure none := by
  unfold swappedStores
  cases e <;> rfl
theorem sw0_tup {ts : List Expr} {k1 : Nat} {p : Pos} {e : Expr} {env : Env} (h : isTupD1 e = false) : swappedStores [.Tuple ts k1 p] e env = pure none := by
  unfold swappedStores
  cases e <;> first | rfl | cases h
theorem asg_of {n F : Nat} (G : GoodS S K X Φ c k Z) {tg e : Expr} {m : MSt} (h : compAsg (comp S n c) c tg e = some m) : PS X (.Assign [tg] e pos) (tX (wx X Φ) Z ((sem K (F + 1)).ex m)) := by
  have ih := snd_all (S := S) (K := K) F
  have G0 := G.toGood
  unfold compAsg at h
  split at h
  · rename_i o i p
    split at h
    · rename_i hp
      split at h
      · rename_i o' i' e' e1 e2 e3
        cases h
        exact x_sti G0.u65 hp (ih n c o o' X Φ k Z e1 G0).1 (ih n c i i' X Φ k Z e2 G0).1 (ih n c e e' X Φ k Z e3 G0).1
      · cases h
    · cases h
  · split at h
    · rename_i hpl
      rw [Bool.and_eq_true, Bool.and_eq_true] at hpl
      split at h
      · rename_i t e' e1 e2
        cases h
        by_cases hw : swapsB c tg e = true
        · have hw' := hw
          unfold swapsB at hw'
          split at hw'
          · rename_i x px elt gs sc p2
            obtain ⟨n', rfl, hgs⟩ := lc_only e2
            have e1' := e1
            unfold compT at e1'
            simp only at e1'
            split at e1'
            · obtain ⟨i, ei, rfl⟩ := map_some e1'
              rcases hgs with ⟨tg', it, ifs, rfl⟩ | ⟨tg', it, ifs, tg2, it2, ifs2, rfl⟩
              · exact x_asgLc G e2 ei hw
              · exact x_asgLc2 G e2 ei hw
            · cases e1'
          · have := hpl.2
            rw [hw] at this
            cases this
          · have := hpl.2
            rw [hw] at this
            cases this
          · cases hw'
        · have hw0 : swapsB c tg e = false := by simpa using hw
          have hg := pg_of G0.calm G0.N G0.nd G0.sc G0.fnB 4 tg t e1
          have he := (ih n c e e' X Φ k Z e2 G0).1
          unfold plainAsg at hpl
          cases tg with
          | Name x p => exact x_asg hg he (sw_name G hw0) sw0_name hpl.1.2
          | Tuple ts k1 p1 =>
            refine x_asg hg he (sw_nonName fun x p z => by cases z) ?_ hpl.1.2
            cases e with
            | Tuple es k2 p2 =>
              have h1 := hpl.1.1
              simp only [Bool.and_eq_true] at h1
              exact sws_none G h1.1 h1.2
            | _ => exact sw0_tup rfl
          | _ => cases hpl.1.1
      · cases h
    · cases h
theorem par_of {n F : Nat} (G : GoodS S K X Φ c k Z) {ts es : List Expr} {k1 k2 : Nat} {p1 p2 : Pos} {m : MSt} (h : compPar (comp S n c) c ts es = some m) : PS X (.Assign [.Tuple ts k1 p1] (.Tuple es k2 p2) pos) (tX (wx X Φ) Z ((sem K (F + 1)).ex m)) := by
  have ih := snd_all (S := S) (K := K) F
  have G0 := G.toGood
  unfold compPar at h
  split at h
  rotate_left
  · rename_i hpo
    clear hpo
    split at h
    rotate_left
    · cases h
    rename_i is ht
    obtain ⟨ms, e2, rfl⟩ := map_some h
    unfold tupOf at ht
    split at ht
    rotate_left
    · cases ht
    rename_i x px y py a b
    split at ht
    rotate_left
    · cases ht
    rename_i hcc
    simp only [Bool.and_eq_true] at hcc
    obtain ⟨⟨⟨⟨l1, l2⟩, n1, n2⟩, hno⟩, _⟩ := hcc
    split at ht
    rotate_left
    · cases ht
    rename_i i j f1 f2
    cases ht
    have hst : [a, b].all notStar = true := by simp [n1, n2]
    have loc : ∀ {x : Str} {px : Pos} {i : Nat}, locOk c x = true → slotOf c.N x = some i → PG X (.Name x px) (gName i) := fun {x px i} h1 h2 => by
      unfold locOk at h1
      rw [Bool.or_eq_true, Bool.and_eq_true] at h1
      rcases h1 with h1 | ⟨h1, h3⟩
      · exact pg_name G0.nd (G0.slot h2) (.inl (lookup_plain G0 h1)) (.inr (lookup_plain G0 h1))
      · have z := isLoc_ok h3
        rw [← G0.sc] at z
        exact pg_name G0.nd (G0.slot h2) z (.inl (G0.fnB h1 x))
    exact x_tup2 G0.calm (loc l1 f1) (loc l2 f2) (pa_of ih G0 e2 hst) (sw_nonName fun x p z => by cases z) (sws_none G hno hst)
  rename_i ps e1
  obtain ⟨ms, e2, rfl⟩ := map_some h
  unfold parOf at e1
  split at e1
  rotate_left
  · cases e1
  rename_i hc
  simp only [Bool.and_eq_true, Bool.not_eq_true', Bool.or_eq_true, beq_iff_eq, decide_eq_true_eq] at hc
  obtain ⟨⟨⟨⟨⟨hlen, hel⟩, hst⟩, hln⟩, hf⟩, hcn⟩ := hc
  split at e1
  rotate_left
  · cases e1
  rename_i qs eq
  split at e1
  rotate_left
  · cases e1
  rename_i hnd
  cases e1
  have one : ∀ {t : Expr} {q : Str × Nat}, plainName c t = some q → ∃ p, t = .Name q.1 p ∧ isPlain c.sc q.1 = true ∧ slotOf c.N q.1 = some q.2 := fun {t q} h => by
    unfold plainName at h
    split at h
    · rename_i x p
      split at h
      · rename_i hx
        obtain ⟨i, e, rfl⟩ := map_some h
        exact ⟨p, rfl, hx, e⟩
      · cases h
    · cases h
  have ne : ∀ {x y : Str} {i j : Nat}, slotOf c.N x = some i → slotOf c.N y = some j → i ≠ j → x ≠ y := fun {x y i j} h1 h2 hij z => by
    rw [z, h2] at h1
    exact hij (Option.some.inj h1).symm
  have ha := pa_of ih G0 e2 hst
  rcases hlen with hlen | hlen
  · match ts, es, hlen, hel with
    | [t1, t2], [a, b], _, _ =>
      unfold compL at eq
      split at eq
      · rename_i q1 r1 f1 f2
        cases eq
        unfold compL at f2
        split at f2
        · rename_i q2 r2 f3 f4
          cases f2
          cases f4
          obtain ⟨px, rfl, h1, h2⟩ := one f1
          obtain ⟨py, rfl, h3, h4⟩ := one f3
          have hij : q1.2 ≠ q2.2 := by simpa using hnd
          have hl0 := hln
          simp only [sameLine, Expr.pos, List.all_cons, List.all_nil, Bool.and_true] at hl0
          have hl : py.line = px.line := of_decide_eq_true hl0
          simp only [List.all_cons, Bool.and_eq_true] at hst
          exact x_par2 G0.calm G0.nd (G0.slot h2) (G0.slot h4) hij (lookup_plain G0 h1) (lookup_plain G0 h3) ha (par_some2 G (lookup_plain G0 h1) (lookup_plain G0 h3) hl (ne h2 h4 hij) hst.1 hst.2.1 hf hcn)
        · cases f2
      · cases eq
  · match ts, es, hlen, hel with
    | [t1, t2, t3], [a, b, d], _, _ =>
      unfold compL at eq
      split at eq
      · rename_i q1 r1 f1 f2
        cases eq
        unfold compL at f2
        split at f2
        · rename_i q2 r2 f3 f4
          cases f2
          unfold compL at f4
          split at f4
          · rename_i q3 r3 f5 f6
            cases f4
            cases f6
            obtain ⟨px, rfl, h1, h2⟩ := one f1
            obtain ⟨py, rfl, h3, h4⟩ := one f3
            obtain ⟨pz, rfl, h5, h6⟩ := one f5
            have hnd' : (q1.2 ≠ q2.2 ∧ q1.2 ≠ q3.2) ∧ q2.2 ≠ q3.2 := by simpa using hnd
            have hl0 := hln
            simp only [sameLine, Expr.pos, List.all_cons, List.all_nil, Bool.and_true, Bool.and_eq_true] at hl0
            have hl : py.line = px.line ∧ pz.line = px.line := ⟨of_decide_eq_true hl0.1, of_decide_eq_true hl0.2⟩
            simp only [List.all_cons, Bool.and_eq_true] at hst
            exact x_par3 G0.calm G0.nd (G0.slot h2) (G0.slot h4) (G0.slot h6) hnd'.1.1 hnd'.1.2 hnd'.2 (lookup_plain G0 h1) (lookup_plain G0 h3) (lookup_plain G0 h5) ha (par_some3 G (lookup_plain G0 h1) (lookup_plain G0 h3) (lookup_plain G0 h5) hl.1 hl.2 (ne h2 h4 hnd'.1.1) (ne h2 h6 hnd'.1.2) (ne h4 h6 hnd'.2) hst.1 hst.2.1 hst.2.2.1 hf hcn)
          · cases f4
        · cases f2
      · cases eq
end
end MI

set_option Elab.async false
set_option linter.all false
set_option maxRecDepth 100000
set_option maxHeartbeats 1000000
/-! MI: a lambda is made, as a value. -/
namespace MI
open PySem PySem.Spec L2
open PyProof.Rows hiding St

section
variable {X : Cx} {pins : List (Addr × Obj)} {σ : L2.St} {H : Hp} {s : Shared}
theorem lamO_ne {a c : Addr} {D : LamD} (ps : Array Value) : LamO a D c ≠ .tbl ps := fun z => by
  unfold LamO at z
  cases z
/-- the object is laid, and known from now on -/
theorem inv_lam {D : LamD} {c : Addr} {pm ctv : Value} {t' : Nat} (I : L2.Inv X pins σ H s) : L2.Inv X pins σ (upd H s.heap.objs.size (LamO s.heap.objs.size D c)) { s with heap := s.heap.push (PySem.W.kla_obj "<lambda>" D.q D.params D.body D.scope [] pm c ctv), toks := t' } := by
  have e : (s.heap.push (PySem.W.kla_obj "<lambda>" D.q D.params D.body D.scope [] pm c ctv)).get? s.heap.objs.size = some (PySem.W.kla_obj "<lambda>" D.q D.params D.body D.scope [] pm c ctv) := Heap.get?_push_size _ rfl
  exact I.laid (a := s.heap.objs.size) (fun b u z => Heap.get?_push_of_some _ z) (Nat.le_refl _) ⟨⟨pm, ctv, e⟩, ⟨_, e⟩, fun h1 h2 ⟨p, t, z⟩ st => ⟨p, t, st _ z⟩⟩
theorem lam_value {T : List (Addr × Str)} {cA P : Addr} {params : Arguments} {body : Expr} {scope : Scope} {pos : Pos} {E : Value → Shared → Prop} {Q : Value → Shared → Prop} (I : L2.Inv X pins σ H s) (TB : LamX.TabB X.base X.mg cA P) (hcode : X.env.code = .ref cA)
    (hm : (P, X.env.qual ++ "<lambda>") ∈ T) (hu : ∀ p ∈ T, p.1 = P → p.2 = X.env.qual ++ "<lambda>") (hT : LamX.Tabs T H) (hdef : defaultsOf params X.env = ([], [])) (hnf : ∀ y ∈ scope.names, y.2 ≠ .free) (hclo : cloFrom X.env.cells scope.names [] = [])
    (h : ∀ (f c' : Addr) (H1 : Hp) (s' : Shared), H f = none → L2.Inv X pins σ H1 s' → LamX.ExtN H H1 → LamX.Tabs T H1 → H1 f = some (LamO f ⟨X.env.qual ++ "<lambda>", params, body, scope⟩ c') → H1 c' = some (LamX.CodeO c' (X.env.qual ++ "<lambda>")) → Q (.ref f) s') :
    wpAny (model X.prog X.w) X.A (eval (.Lambda params body scope pos) X.env) Q E s := by
  obtain ⟨ps, hP, ht, ha⟩ := hT _ hm
  refine PySem.W.kla_eval hdef ?_
  have bP : s.heap.BuiltinsAt X.mg P := TB.bm.keeps I.bk
  have hP' : s.heap.get? P = some { cls := .none, data := .fields ps } := I.hok P _ hP
  have clo := closure_ok (scope := scope) (env := X.env) fun y hy e => (hnf y hy e).elim
  rw [hclo] at clo
  cases hc : codeAmong pos ps.toList with
  | none =>
    refine PySem.W.kla_makeFunction (mg := X.mg) (c := cA) (P := P) (ps := ps) clo I.ok.glob (I.mod.glob.keeps I.bk) hcode (TB.code.keeps I.bk) hP' ht hc TB.gP bP fun c' ctv h' tk hx hge hlt hrec htb => ?_
    obtain ⟨c2, oc, vs, t, e2, hoc, hd, hv⟩ := hrec
    cases e2
    have new : H c' = none := I.hok.fresh hge
    have I1 := LamX.inv_table (t' := tk) (more := #[rawInt pos.line, rawInt pos.col, .ref c']) (h' := h') I hP (fun b o hb e => hx b o hb e) htb hge ⟨oc, vs, t, hoc, hd, hv⟩
    have far : upd (upd H P (.tbl (ps ++ #[rawInt pos.line, rawInt pos.col, .ref c']))) c' (LamX.CodeO c' (X.env.qual ++ "<lambda>")) h'.objs.size = none := I1.hok.fresh (Nat.le_refl _)
    have I2 := inv_lam (D := ⟨X.env.qual ++ "<lambda>", params, body, scope⟩) (c := c') (pm := (X.mg "__name__").getD .none) (ctv := ctv) (t' := tk) I1
    have up : LamX.ExtN H (upd (upd H P (.tbl (ps ++ #[rawInt pos.line, rawInt pos.col, .ref c']))) c' (LamX.CodeO c' (X.env.qual ++ "<lambda>"))) := fun b o e n => by
      rw [upd_ne (ne_of_none e new), upd_ne (fun z => n ps (Option.some.inj (e.symm.trans (by rw [z]; exact hP))))]
      exact e
    have cAt : upd (upd H P (.tbl (ps ++ #[rawInt pos.line, rawInt pos.col, .ref c']))) c' (LamX.CodeO c' (X.env.qual ++ "<lambda>")) c' = some (LamX.CodeO c' (X.env.qual ++ "<lambda>")) := upd_same
    have all : LamX.Tabs T (upd (upd H P (.tbl (ps ++ #[rawInt pos.line, rawInt pos.col, .ref c']))) c' (LamX.CodeO c' (X.env.qual ++ "<lambda>"))) := fun p hp => by
      by_cases hb : p.1 = P
      · rw [hu p hp hb, hb]
        refine ⟨_, by rw [upd_ne (ne_of_none hP new), upd_same], by simpa using PySem.TriplesOk_snoc _ _ _ _ ht, fun p' cv hcv => ?_⟩
        have eL : (ps ++ #[rawInt pos.line, rawInt pos.col, .ref c']).toList = ps.toList ++ [rawInt pos.line, rawInt pos.col, .ref c'] := by simp
        rw [eL] at hcv
        rcases LamX.among_app _ ht hcv with z | z
        · obtain ⟨c0, e1, e2⟩ := ha p' cv z
          exact ⟨c0, e1, up _ _ e2 LamX.codeO_ne⟩
        · exact ⟨c', z, cAt⟩
      · obtain ⟨ps', a1, a2, a3⟩ := hT p hp
        refine ⟨ps', by rw [upd_ne (ne_of_none a1 new), upd_ne hb]; exact a1, a2, fun p' cv hcv => ?_⟩
        obtain ⟨c0, e1, e2⟩ := a3 p' cv hcv
        exact ⟨c0, e1, up _ _ e2 LamX.codeO_ne⟩
    have sm := same_upd (o := LamO h'.objs.size ⟨X.env.qual ++ "<lambda>", params, body, scope⟩ c') far
    exact h _ c' _ _ (I.hok.fresh (Nat.le_trans hge (Nat.le_of_lt hlt))) I2 (fun b o e n => sm _ _ (up b o e n)) (all.ext sm) upd_same (sm _ _ cAt)
  | some cv =>
    obtain ⟨c', e, hco⟩ := ha pos cv hc
    subst e
    refine PySem.W.kla_makeFunctionHit (mg := X.mg) (c := cA) (P := P) (ps := ps) clo I.ok.glob (I.mod.glob.keeps I.bk) hcode (TB.code.keeps I.bk) hP' ht hc bP fun ctv h' tk hx hsz => ?_
    have I1 : L2.Inv X pins σ H { s with heap := h', toks := tk } := I.kept hx
    have far : H h'.objs.size = none := I1.hok.fresh (Nat.le_refl _)
    have I2 := inv_lam (D := ⟨X.env.qual ++ "<lambda>", params, body, scope⟩) (c := c') (pm := (X.mg "__name__").getD .none) (ctv := ctv) (t' := tk) I1
    have sm := same_upd (o := LamO h'.objs.size ⟨X.env.qual ++ "<lambda>", params, body, scope⟩ c') far
    exact h _ c' _ _ far I2 (fun b o e _ => sm b o e) (hT.ext sm) upd_same (sm _ _ hco)
end
section
variable {X : Cx} {Φ : Fx} {Z : L2.WX} {pos : Pos}
/-- lambda a, ..: body -/
theorem e_lamv {cA P : Addr} {params : Arguments} {body : Expr} {scope : Scope} {g : Nat} (TB : LamX.TabB X.base X.mg cA P) (hcode : X.env.code = .ref cA) (hm : (P, X.env.qual ++ "<lambda>") ∈ Φ.T) (hu : ∀ p ∈ Φ.T, p.1 = P → p.2 = X.env.qual ++ "<lambda>") (hdef : defaultsOf params X.env = ([], []))
    (hnf : ∀ y ∈ scope.names, y.2 ≠ .free) (hclo : cloFrom X.env.cells scope.names [] = []) (hla : Φ.la g = some ⟨X.env.qual ++ "<lambda>", params, body, scope⟩) : PE X (.Lambda params body scope pos) (tE (wx X Φ) Z fun s => .ok (.fn g) s) := by
  refine ⟨fun pins s σ H Q I h => ?_⟩
  obtain ⟨A, f, ms, r, h⟩ := h
  refine lam_value I TB hcode hm hu r.tabs hdef hnf hclo fun a c' H1 s' hnew I1 eN T1 ha hc => ?_
  have ex : Ext f ms.objs H f ms.objs H1 := ⟨⟨[], by simp⟩, fun b o e _ nt => eN b o e nt, fun b hb => .inl hb⟩
  have r1 : R (wx X Φ).toWd A f ms σ H1 := r.frameG (fun b hb => by
    obtain ⟨o, e, nt⟩ := r.own hb
    rw [e, eN b o e nt.1]) ex.same T1 (r.hA' ex) r.disj
  have na : a ∉ f := fun z => by
    obtain ⟨o, e, _⟩ := r.own z
    rw [hnew] at e
    cases e
  have nc : c' ∉ f := fun z => by
    obtain ⟨o, e, _, n⟩ := r1.own z
    rw [hc] at e
    cases e
    exact n _ rfl
  have nAc : ¬ A c' := fun z => by
    obtain ⟨o, e, _, n⟩ := r1.hA c' z
    rw [hc] at e
    cases e
    exact n _ rfl
  exact ⟨.ref a, H1, I1, rfl, h f H1 (.ref a) ex r1 ⟨a, rfl, .inr ⟨_, c', hla, hid_at ha (r.nA hnew) (fun z => na z.mem) lamO_ne, hid_at hc nAc (fun z => nc z.mem) LamX.codeO_ne⟩⟩⟩
end
end MI

set_option Elab.async false
set_option linter.all false
set_option maxRecDepth 100000
set_option maxHeartbeats 2000000
/-! MI: each statement that the checker takes does what MI does: the whole. -/
namespace MI
open PySem PySem.Spec L2
open PyProof.Rows hiding St

section
variable {S : Nat → Option Sig} {K : Cfg} {X : Cx} {Φ : Fx} {c : SC} {k : Nat} {Z : L2.WX} {pos : Pos}
theorem eqL_ok {α : Type} {f : α → α → Bool} (hf : ∀ a b, f a b = true → a = b) : ∀ {as bs : List α}, eqL f as bs = true → as = bs
  | [], [], _ => rfl
  | [], _ :: _, h => by cases h
  | _ :: _, [], h => by cases h
  | a :: as, b :: bs, h => by
    unfold eqL at h
    rw [Bool.and_eq_true] at h
    rw [hf a b h.1, eqL_ok hf h.2]
theorem eqA_ok {a b : Arg} (h : eqA a b = true) : a = b := by
  obtain ⟨a1, a2, a3⟩ := a
  obtain ⟨b1, b2, b3⟩ := b
  unfold eqA at h
  simp only [Bool.and_eq_true, decide_eq_true_eq, Option.isNone_iff_eq_none] at h
  obtain ⟨h1, h2, h3, h4⟩ := h
  rw [h1, h2, h3, h4]
theorem eqAs_ok {x y : Arguments} (h : eqAs x y = true) : x = y ∧ y.defaults = [] ∧ y.kw_defaults = [] := by
  obtain ⟨x1, x2, x3, x4, x5, x6, x7⟩ := x
  obtain ⟨y1, y2, y3, y4, y5, y6, y7⟩ := y
  unfold eqAs at h
  simp only [Bool.and_eq_true, List.isEmpty_iff, Option.isNone_iff_eq_none] at h
  obtain ⟨⟨a1, a2⟩, ⟨a3, a4⟩, ⟨a5, a6⟩, ⟨a7, a8⟩, ⟨a9, a10⟩, ⟨a11, a12⟩, a13⟩ := h
  have e := eqL_ok (fun _ _ z => eqA_ok z) a13
  refine ⟨?_, a12, a8⟩
  rw [a1, a2, a3, a4, a5, a6, a7, a8, a9, a10, a11, a12, e]
theorem eqE_ok : ∀ (n : Nat) (a b : Expr), eqE n a b = true → a = b := by
  intro n
  induction n with
  | zero => intro a b h; cases h
  | succ n ih =>
    intro a b h
    unfold eqE at h
    split at h
    · simp only [Bool.and_eq_true, decide_eq_true_eq] at h
      rw [h.1, h.2]
    · simp only [Bool.and_eq_true, decide_eq_true_eq] at h
      rw [h.1, h.2.1, h.2.2]
    · simp only [Bool.and_eq_true, decide_eq_true_eq] at h
      rw [ih _ _ h.1, eqL_ok ih h.2.1, h.2.2]
    · cases h
theorem clo_nil {cells : List (Str × Addr)} {names : List (Str × NameKind)} (h : ∀ y ∈ names, y.2 ≠ .free) : cloFrom cells names [] = [] := by
  rw [List.eq_nil_iff_forall_not_mem]
  rintro ⟨n, c⟩ m
  rcases cloFrom_mem m with z | ⟨z, _⟩
  · cases z
  · exact h _ z rfl
theorem fn_val (G : GoodS S K X Φ c k Z) {e : Expr} {g : Nat} (h : fnOf c e = some g) : notStar e = true ∧ PE X e (tE (wx X Φ) Z fun s => .ok (.fn g) s) := by
  unfold fnOf at h
  split at h
  · rename_i x p
    split at h
    · rename_i hx
      rw [Bool.and_eq_true] at hx
      split at h
      rotate_left
      · cases h
      rename_i g' eg
      split at h
      · cases h
      rename_i hnv
      cases h
      obtain ⟨f, hf, hfc⟩ := G.fnA x g eg (by simpa using hnv)
      have hm := G.fns x g eg f hfc
      refine ⟨rfl, PE_imp (pe_glob (v := .ref f) (G.toGood.gl hx.2) hm rfl (nameOk_ok hx.1).1) fun σ H Q h => ?_⟩
      obtain ⟨A, f1, ms, r, h⟩ := h
      exact h f1 H (.ref f) (Ext.refl _ _ _) r ⟨f, rfl, .inl hf⟩
    · cases h
  · rename_i params body scope p
    cases e1 : c.lams.find? fun d => eqAs d.1.params params && eqE 5 d.1.body body && decide (d.1.scope = scope) with
    | none =>
      rw [e1] at h
      cases h
    | some d =>
      obtain ⟨D, g'⟩ := d
      rw [e1] at h
      cases h
      have m := List.mem_of_find?_eq_some e1
      have q := List.find?_some e1
      simp only [Bool.and_eq_true, decide_eq_true_eq] at q
      obtain ⟨⟨q1, q2⟩, q3⟩ := q
      obtain ⟨e2, d1, d2⟩ := eqAs_ok q1
      have e3 := eqE_ok _ _ _ q2
      rcases G.lams with z | L
      · rw [z] at m
        cases m
      · obtain ⟨cA, P, t1, t2, t3, t4⟩ := L.tb
        obtain ⟨l1, l2, l3⟩ := L.la D g' m
        obtain ⟨Dq, Dp, Db, Ds⟩ := D
        simp only at e2 e3 q3 l2
        subst e2 e3 q3 l2
        refine ⟨rfl, e_lamv t1 t2 t3 t4 ?_ l3 (clo_nil l3) l1⟩
        obtain ⟨p1, p2, p3, p4, p5, p6, p7⟩ := Dp
        simp only at d1 d2
        subst d1 d2
        rfl
  · cases h
def fnsE (gs : List Nat) (s : MS) : Out (List Val) := .ok (gs.map .fn) s
theorem fns_of (G : GoodS S K X Φ c k Z) : ∀ {es : List Expr} {gs : List Nat}, compL (fnOf c) es = some gs → PA X es (tA (wx X Φ) Z (fnsE gs)) ∧ gs.length = es.length ∧ es.all notStar = true
  | [], _, h => by
    cases h
    exact ⟨a_nil, rfl, rfl⟩
  | e :: es, gs, h => by
    unfold compL at h
    split at h
    · rename_i g gs' e1 e2
      cases h
      obtain ⟨h1, h2, h3⟩ := fns_of G e2
      obtain ⟨n1, n2⟩ := fn_val G e1
      exact ⟨a_cons n1 n2 h1, by simp [h2], by simp [n1, h3]⟩
    · cases h
def itemsF (gs : List Nat) (s : MS) : Out (List Item) := .ok (gs.map fun g => .one (.fn g)) s
theorem pi_fns {tg : Expr} {es : List Expr} {kk : Nat} {p : Pos} {gs : List Nat} (G : GoodS S K X Φ c k Z) (h : compL (fnOf c) es = some gs) (hz : es.length ≤ 1000) : PI X tg (.Tuple es kk p) (tI (wx X Φ) Z (itemsF gs)) := by
  obtain ⟨h1, h3, h4⟩ := fns_of G h
  refine ⟨fun pins s σ H R' I h => (pi_tup (pe_tup h1)).run pins s σ H R' I ?_⟩
  obtain ⟨A, f, ms, r, h⟩ := h
  refine ⟨A, f, ms, r, fun f1 H1 us ex1 r1 hv => ?_⟩
  have hl := Paired.length' hv
  refine ⟨by rw [line_eq, hl, List.length_map]; omega, fun q hq => ⟨q, rfl, ⟨_, .inl (.inl upd_same)⟩, ?_⟩⟩
  have ex : Ext f1 ms.objs H1 f1 ms.objs (upd H1 q (.tup us)) := Ext.of_same (same_upd hq)
  have e : (gs.map fun g => Item.one (.fn g)) = (gs.map Val.fn).map .one := by simp
  refine h f1 _ (Itt X.K q) (ex1.trans ex) (r1.same (same_upd hq)) ?_
  rw [e]
  exact relW_tup (W := (wx X Φ).toWd) (.inl (.inl (hid_new (W := wx X Φ) r1 hq fun _ z => (by cases z)))) (hv.ext ex)
theorem loc_of (G : Good S K X Φ c k Z) {x : Str} (hx : isPlain c.sc x = true ∨ c.fnB = true ∧ isLoc c.sc x = true) : L2.Loc X.env.scope x ∧ (X.fn x = true ∨ X.env.scope.names.lookup x = some .local) := by
  rcases hx with hx | ⟨h1, h2⟩
  · exact ⟨.inl (lookup_plain G hx), .inr (lookup_plain G hx)⟩
  · refine ⟨?_, .inl (G.fnB h1 _)⟩
    rw [G.sc]
    exact isLoc_ok h2
theorem for_of {n F l : Nat} (ihS : SndS S K n F) (G : GoodS S K X Φ c k Z) {tg it : Expr} {b : List Stmt} {m : MSt} (h : compFor (comp S n c) (compL (orBad (compS S n l c))) c tg it b = some m) : PS X (.For tg it b [] pos) (tX (wx X Φ) Z ((sem K (F + 1)).ex m)) := by
  have ih := snd_all (S := S) (K := K) F
  have G0 := G.toGood
  unfold compFor at h
  split at h
  · rename_i kd es t b' e1 e2 e3
    split at h
    · rename_i hc
      rw [Bool.and_eq_true] at hc
      cases h
      exact x_for G.own G0.calm hc.2 (pi_of ih G0 e1 hc.1) (pg_of G0.calm G0.N G0.nd G0.sc G0.fnB 4 tg t e2) (pss_of ihS G e3)
    · cases h
  · cases h
theorem forf_of {n F l : Nat} (ihS : SndS S K n F) (G : GoodS S K X Φ c k Z) {tg : Expr} {es : List Expr} {kk : Nat} {p : Pos} {b : List Stmt} {m : MSt} (h : compForf (compL (orBad (compS S n l c))) c tg es b = some m) : PS X (.For tg (.Tuple es kk p) b [] pos) (tX (wx X Φ) Z ((sem K (F + 1)).ex m)) := by
  have G0 := G.toGood
  unfold compForf at h
  split at h
  · rename_i x px
    split at h
    · rename_i hx
      rw [Bool.and_eq_true] at hx
      obtain ⟨hx, hz⟩ := hx
      have hz := of_decide_eq_true hz
      split at h
      · rename_i i gs b' e1 e2 e3
        cases h
        have hg : PG X (.Name x px) (gM X.K (.n i)) := by
          refine pg_of G0.calm G0.N G0.nd G0.sc G0.fnB 1 (.Name x px) (.n i) ?_
          unfold compT
          dsimp only
          rw [if_pos hx, e1]
          rfl
        have := x_for (F := itemsF gs) (pos := pos) G.own G0.calm (show noSet (.Tuple es kk p) = true from rfl) (pi_fns G e2 hz) hg (pss_of ihS G e3)
        exact this
      · cases h
    · cases h
  · cases h
theorem plain_name {t : Expr} {x : Str} {i : Nat} (h : plainName c t = some (x, i)) : ∃ p, t = .Name x p := by
  unfold plainName at h
  split at h
  · split at h
    · obtain ⟨i', e1, e2⟩ := map_some h
      cases e2
      exact ⟨_, rfl⟩
    · cases h
  · cases h
theorem sndS_zero {n : Nat} : SndS S K n 0 := fun l c st m X Φ k Z h G => x_false fun D σ H hh => tX_bad (show tX (wx X Φ) Z (fun _ => .bad) D σ H from hh)
theorem sndS_step {n F : Nat} (ihS : SndS S K n F) : SndS S K n (F + 1) := by
  intro l c st m X Φ k Z h G
  have ih := snd_all (S := S) (K := K) F
  have G0 := G.toGood
  have gE : ∀ {e : Expr} {m : ME}, comp S n c e = some m → PE X e (tE (wx X Φ) Z ((sem K F).ev m)) := fun h => (ih n c _ _ X Φ k Z h G0).1
  have gT : ∀ {e : Expr} {m : ME}, comp S n c e = some m → PT X e (tT (wx X Φ) Z (tst (sem K F).ev m)) := fun h => (ih n c _ _ X Φ k Z h G0).2
  cases l with
  | zero => cases h
  | succ l =>
    unfold compS at h
    split at h
    · cases h
      exact x_doc
    · split at h
      · rename_i hn
        obtain ⟨e', e1, rfl⟩ := map_some h
        exact x_ex hn (gE e1)
      · cases h
    · cases h
      cases F with
      | zero => exact x_false fun D σ H hh => tX_bad (show tX (wx X Φ) Z (fun _ => .bad) D σ H from hh)
      | succ F => exact x_retN
    · obtain ⟨e', e1, rfl⟩ := map_some h
      exact x_ret (gE e1)
    · cases h
      exact x_pass
    · cases h
      exact x_brk
    · cases h
      exact x_cnt
    · split at h
      · rename_i t' a' b' e1 e2 e3
        cases h
        exact x_iff (gT e1) (pss_of ihS G e2) (pss_of ihS G e3)
      · cases h
    · split at h
      · rename_i t' b' e1 e2
        cases h
        exact x_whl G.own (gT e1) (pss_of ihS G e2)
      · cases h
    · split at h
      · rename_i mm e1
        cases h
        exact forf_of ihS G e1
      · exact for_of ihS G h
    · exact for_of ihS G h
    · split at h
      · rename_i mm e1
        cases h
        exact par_of G e1
      · exact asg_of G h
    · exact asg_of G h
    · split at h
      · rename_i x i y j e' e1 e2 e3
        split at h
        · cases h
          obtain ⟨p1, rfl⟩ := plain_name e1
          obtain ⟨p2, rfl⟩ := plain_name e2
          exact x_asg2 G e1 e2 (gE e3)
        · cases h
      · cases h
    · split at h
      · rename_i hx
        split at h
        · rename_i o i e' e1 e2 e3
          split at h
          · cases h
          · rename_i hp
            cases h
            rw [Bool.or_eq_true, Bool.and_eq_true] at hx
            have hx' := loc_of G0 hx
            exact x_aug e1 hp G0.nd (G0.slot e2) hx'.1 hx'.2 (gE e3)
        · cases h
      · cases h
    · split at h
      · rename_i hp
        split at h
        · rename_i oo o' i' e' e1 e2 e3 e4
          split at h
          · cases h
          · rename_i hpw
            cases h
            exact x_augi G0.u65 e1 hpw hp (gE e2) (gE e3) (gE e4)
        · cases h
      · cases h
    · split at h
      · rename_i hn
        unfold compRaise at h
        split at h
        · rename_i hg
          split at h
          · rename_i cid ee
            split at h
            · cases h
              cases F with
              | zero => exact x_false fun D σ H hh => tX_bad (show tX (wx X Φ) Z (fun _ => .bad) D σ H from hh)
              | succ F => exact x_raise0 G (G0.gl hg) (G.exn _ _ _ ee)
            · cases h
          · rename_i cid ee
            split at h
            · rename_i hs
              obtain ⟨a', e1, rfl⟩ := map_some h
              exact x_raise1 G (G0.gl hg) hs (gE e1) (G.exn _ _ _ ee)
            · cases h
          · cases h
        · cases h
      · cases h
    · cases h
theorem sndS_all {n : Nat} : ∀ F, SndS S K n F
  | 0 => sndS_zero
  | F + 1 => sndS_step (sndS_all F)
end
end MI

set_option Elab.async false
set_option linter.all false
set_option maxRecDepth 100000
set_option maxHeartbeats 2000000
/-! MI: a def of the text keeps its promise. -/
namespace MI
open PySem PySem.Spec L2
open PyProof.Rows hiding St

section
variable {W : Wx} {A : Addr → Prop} {f f' : List Addr} {s' : MS} {σ' : St} {H H' : Hp} {Q : VK}
theorem hid_mono {W : Wd} {f1 f2 : List Addr} {os1 os2 : List MO} (h : ∀ b, InU f2 os2 b → InU f1 os1 b) : Same (hid A f1 os1 H) (hid A f2 os2 H) := fun b o e => by
  obtain ⟨h1, h2, h3, h4⟩ := hid_of e
  exact hid_at h1 h2 (fun z => h3 (h b z)) h4
theorem live_ok {os : List MO} {n : Nat} (h : liveAt os n = true) : ∃ o, os[n]? = some o ∧ o.live = true := by
  unfold liveAt at h
  split at h
  · rename_i e; exact ⟨_, e, h⟩
  · rename_i e; exact ⟨_, e, h⟩
  · cases h
theorem inU_at {os : List MO} {n : Nat} {a : Addr} (hn : f[n]? = some a) (h : liveAt os n = true) : InU f os a := by
  obtain ⟨o, e, l⟩ := live_ok h
  exact ⟨n, o, hn, e, l⟩
/-- what stands behind a def, not by-ref -/
theorem fin_none {v : Val} {u : V} {rv : RV} {os : List MO} (h : finV false v s' = some (rv, os)) (ex : Ext [] [] H f' s'.objs H') (r : R W.toWd A f' s' σ' H') (ru : RepV W.toWd f' (hid A f' s'.objs H') u v)
    {Z : L2.WX} (g : GoO W Z (RlV W) A [] [] [] H Q (ofRV rv (st0 none))) : Q u H' := by
  have ex0 : Ext [] [] H [] [] H' := ⟨⟨[], rfl⟩, ex.keep, fun b hb => .inl hb⟩
  have R0 : R W.toWd A [] (st0 none) [] H' := ⟨rfl, List.nodup_nil, r.hA, fun b hb => by simp at hb, fun n o a h1 h2 => by simp at h2, fun i v h => by simp [st0] at h, rfl, r.tabs⟩
  have new : ∀ {n : Nat} {a : Addr} {mo mo' : MO}, f'[n]? = some a → s'.objs[n]? = some mo → mo.live = true → mo'.live = true → ObjR W.toWd [a] (hid A [a] [mo'] H') H' a mo' → Ext [] [] H [a] [mo'] H' ∧ R W.toWd A [a] ⟨[], [mo']⟩ [] H' := fun {n a mo mo'} hn ho hl hl' hp => by
    have hnew : ∀ o, H a = some o → ¬ NoTbl o := (ex.newU a ⟨n, mo, hn, ho, hl⟩).elim (fun z => (inU_nil z).elim) id
    refine ⟨⟨⟨[a], rfl⟩, ex.keep, fun b hb => .inr (by rw [(inU_one hl').mp hb]; exact hnew)⟩, rfl, by simp, r.hA, fun b hb => ?_, fun m o b h1 h2 => ?_, fun i v h => by simp at h, rfl, r.tabs⟩
    · have : b = a := by simpa using hb
      rw [this]
      exact r.disj a (List.mem_of_getElem? hn)
    · cases m with
      | succ m => simp at h2
      | zero =>
        simp at h1 h2
        subst h1 h2
        exact hp
  cases v with
  | d x =>
    cases h
    exact g [] H' u ex0 R0 (Rp.same (hid_mono (W := W.toWd) fun b hb => (inU_nil hb).elim) ru)
  | fn k => cases h
  | ref n =>
    obtain ⟨a, hn, rfl⟩ := ru
    unfold finV at h
    simp only [Bool.false_and, Bool.false_eq_true, if_false] at h
    split at h
    · rename_i xs e
      split at h
      · rename_i ds os1 ef
        split at h
        · rename_i hl
          cases h
          obtain ⟨us, h1, h2⟩ := r.obj n _ a e hn
          obtain ⟨z, hp⟩ := frzs_ok ef r h2
          have sm : Same (hid A f' os H') (hid A [a] [MO.lst (ds.map .d) true] H') := hid_mono (W := W.toWd) fun b hb => by rw [(inU_one rfl).mp hb]; exact inU_at hn hl
          obtain ⟨e1, R1⟩ := new (mo' := .lst (ds.map .d) true) hn e rfl rfl ⟨us, h1, PV_map (RpA.same sm hp)⟩
          exact g [a] H' (.ref a) e1 R1 ⟨a, rfl, rfl⟩
        · cases h
      · cases h
    · rename_i kvs e
      split at h
      · rename_i ds os1 ef
        split at h
        · rename_i hl
          cases h
          obtain ⟨es, h1, h2, h3, h4⟩ := r.obj n _ a e hn
          obtain ⟨z, hp, hk⟩ := frzK_ok (frz_ok FD) ef r h4
          have sm : Same (hid A f' os H') (hid A [a] [MO.dct (pureKv ds) true] H') := hid_mono (W := W.toWd) fun b hb => by rw [(inU_one rfl).mp hb]; exact inU_at hn hl
          have e5 : (pureKv ds).map (·.2) = (ds.map (·.2)).map Val.d := by simp [pureKv, Function.comp_def]
          have e6 : (pureKv ds).map (·.1) = ds.map (·.1) := by simp [pureKv, Function.comp_def]
          obtain ⟨e1, R1⟩ := new (mo' := .dct (pureKv ds) true) hn e rfl rfl ⟨es, h1, RpA.same sm (RpA.same (Ext.same (A := A) (z.ext (f := f') (H := H'))) h2), by rw [h3, e6, hk], by rw [e5]; exact PV_map (RpA.same sm hp)⟩
          exact g [a] H' (.ref a) e1 R1 ⟨a, rfl, rfl⟩
        · cases h
      · cases h
    · split at h
      · rename_i x os1 ef
        cases h
        obtain ⟨z, hp⟩ := frz_ok FD A f' s' σ' H' _ x _ (.ref a) ef r ⟨a, hn, rfl⟩
        exact g [] H' (.ref a) ex0 R0 (Rp.same (hid_mono (W := W.toWd) fun b hb => (inU_nil hb).elim) hp)
      · cases h
theorem pures_map : ∀ {vs : List Val} {ds : List PyData}, pures vs = some ds → vs = ds.map .d
  | [], _, h => by cases h; rfl
  | .d x :: vs, _, h => by
    unfold pures at h
    split at h
    · rename_i xs e
      cases h
      rw [pures_map e]
      rfl
    · cases h
  | .ref _ :: _, _, h => by cases h
  | .fn _ :: _, _, h => by cases h
theorem outOf_ok {s : MS} {out : List PyData} (h : outOf true s = some (some out)) : s.objs[0]? = some (.lst (out.map .d) true) := by
  unfold outOf at h
  simp only at h
  split at h
  · rename_i xs e
    split at h
    · rename_i ds ed
      cases h
      rw [e, pures_map ed]
    · cases h
  · cases h
/-- by-ref -/
theorem fin_some {v : Val} {u : V} {rv : RV} {os : List MO} {a0 : Addr} {xs0 : List PyData} {out out' : List PyData} (h : finV true v s' = some (rv, os)) (ho : outOf true s' = some (some out)) (ho' : outOf true { s' with objs := os } = some (some out')) (ex : Ext [a0] [.lst (xs0.map .d) true] H f' s'.objs H') (r : R W.toWd A f' s' σ' H')
    (ru : RepV W.toWd f' (hid A f' s'.objs H') u v) {Z : L2.WX} (g : GoO W Z (RlV W) A [a0] [.lst (xs0.map .d) true] [] H Q (ofRV rv ⟨[], [.lst (out.map .d) true]⟩)) : Q u H' := by
  have h00 := outOf_ok ho
  have h01 : os[0]? = some (.lst (out'.map .d) true) := outOf_ok ho'
  have hf0 : f'[0]? = some a0 := by
    obtain ⟨t, et⟩ := ex.pre
    rw [et]
    rfl
  have in0 : InU f' s'.objs a0 := ⟨0, _, hf0, h00, rfl⟩
  have in1 : InU f' os a0 := ⟨0, _, hf0, h01, rfl⟩
  have nA0 : ¬ A a0 := r.disj a0 (List.mem_of_getElem? hf0)
  have obj0 : ∀ {f2 : List Addr} {Hh : Hp}, Same (hid A f' s'.objs H') Hh → ObjR W.toWd f2 Hh H' a0 (.lst (out.map .d) true) := fun {f2 Hh} sm => by
    obtain ⟨us, h1, h2⟩ := r.obj 0 _ a0 h00 hf0
    exact ⟨us, h1, PV_map (RpA.same sm (rpA_of_PV h2))⟩
  have one : ∀ b, InU [a0] [MO.lst (out.map .d) true] b → b = a0 := fun b hb => (inU_one rfl).mp hb
  have ex0 : Ext [a0] [.lst (xs0.map .d) true] H [a0] [.lst (out.map .d) true] H' := ⟨⟨[], rfl⟩, ex.keep, fun b hb => .inl (by rw [one b hb]; exact (inU_one rfl).mpr rfl)⟩
  have sm0 : Same (hid A f' s'.objs H') (hid A [a0] [MO.lst (out.map .d) true] H') := hid_mono (W := W.toWd) fun b hb => by rw [one b hb]; exact in0
  have R0 : R W.toWd A [a0] ⟨[], [.lst (out.map .d) true]⟩ [] H' := by
    refine ⟨rfl, by simp, r.hA, fun b hb => ?_, fun n o a h1 h2 => ?_, fun i v h => by simp at h, rfl, r.tabs⟩
    · have : b = a0 := by simpa using hb
      rw [this]
      exact nA0
    · cases n with
      | succ n => simp at h2
      | zero =>
        simp at h1 h2
        subst h1 h2
        exact obj0 sm0
  have two : ∀ {a : Addr} {mo : MO} (hl : mo.live = true) (b : Addr), InU [a0, a] [MO.lst (out.map .d) true, mo] b → b = a0 ∨ b = a := fun {a mo} hl b hb => by
    obtain ⟨m, o, q1, q2, q3⟩ := hb
    match m with
    | 0 => simp at q1; exact .inl q1.symm
    | 1 => simp at q1; exact .inr q1.symm
    | m + 2 => simp at q1
  have new : ∀ {n : Nat} {a : Addr} {mo mo' : MO}, n ≠ 0 → f'[n]? = some a → s'.objs[n]? = some mo → mo.live = true → mo'.live = true → Same (hid A f' s'.objs H') (hid A [a0, a] [MO.lst (out.map .d) true, mo'] H') → ObjR W.toWd [a0, a] (hid A [a0, a] [MO.lst (out.map .d) true, mo'] H') H' a mo' →
      Ext [a0] [.lst (xs0.map .d) true] H [a0, a] [MO.lst (out.map .d) true, mo'] H' ∧ R W.toWd A [a0, a] ⟨[], [MO.lst (out.map .d) true, mo']⟩ [] H' := fun {n a mo mo'} hn0 hn ho hl hl' sm hp => by
    have hne : a ≠ a0 := fun z => hn0 (by
      subst z
      exact (List.getElem_inj (h₀ := (List.getElem?_eq_some_iff.mp hn).1) (h₁ := (List.getElem?_eq_some_iff.mp hf0).1) r.nd).mp (by rw [(List.getElem?_eq_some_iff.mp hn).2, (List.getElem?_eq_some_iff.mp hf0).2]))
    have hnew : ∀ o, H a = some o → ¬ NoTbl o := (ex.newU a ⟨n, mo, hn, ho, hl⟩).elim (fun z => absurd ((inU_one rfl).mp z) hne) id
    refine ⟨⟨⟨[a], rfl⟩, ex.keep, fun b hb => ?_⟩, rfl, by simpa using Ne.symm hne, r.hA, fun b hb => ?_, fun m o b h1 h2 => ?_, fun i v h => by simp at h, rfl, r.tabs⟩
    · rcases two hl' b hb with z | z
      · rw [z]; exact .inl ((inU_one rfl).mpr rfl)
      · rw [z]; exact .inr hnew
    · have hb' : b = a0 ∨ b = a := by simpa using hb
      rcases hb' with z | z
      · rw [z]; exact nA0
      · rw [z]; exact r.disj a (List.mem_of_getElem? hn)
    · match m with
      | 0 =>
        simp at h1 h2
        subst h1 h2
        exact obj0 sm
      | 1 =>
        simp at h1 h2
        subst h1 h2
        exact hp
      | m + 2 => simp at h2
  cases v with
  | d x =>
    cases h
    exact g [a0] H' u ex0 R0 (Rp.same sm0 ru)
  | fn k => cases h
  | ref n =>
    obtain ⟨a, hn, rfl⟩ := ru
    unfold finV at h
    simp only [Bool.true_and, decide_eq_true_eq] at h
    split at h
    · cases h
    · rename_i hn0
      split at h
      · rename_i xs e
        split at h
        · rename_i ds os1 ef
          split at h
          · rename_i hl
            cases h
            obtain ⟨us, h1, h2⟩ := r.obj n _ a e hn
            obtain ⟨z, hp⟩ := frzs_ok ef r h2
            have sm : Same (hid A f' os H') (hid A [a0, a] [MO.lst (out.map .d) true, MO.lst (ds.map .d) true] H') := hid_mono (W := W.toWd) fun b hb => by
              rcases two rfl b hb with q | q
              · rw [q]; exact in1
              · rw [q]; exact inU_at hn hl
            have sm2 := fun b o q => sm b o (Ext.same (A := A) (z.ext (f := f') (H := H')) b o q)
            obtain ⟨e1, R1⟩ := new (mo' := .lst (ds.map .d) true) hn0 hn e rfl rfl sm2 ⟨us, h1, PV_map (RpA.same sm hp)⟩
            exact g [a0, a] H' (.ref a) e1 R1 ⟨a, rfl, rfl⟩
          · cases h
        · cases h
      · rename_i kvs e
        split at h
        · rename_i ds os1 ef
          split at h
          · rename_i hl
            cases h
            obtain ⟨es, h1, h2, h3, h4⟩ := r.obj n _ a e hn
            obtain ⟨z, hp, hk⟩ := frzK_ok (frz_ok FD) ef r h4
            have sm : Same (hid A f' os H') (hid A [a0, a] [MO.lst (out.map .d) true, MO.dct (pureKv ds) true] H') := hid_mono (W := W.toWd) fun b hb => by
              rcases two rfl b hb with q | q
              · rw [q]; exact in1
              · rw [q]; exact inU_at hn hl
            have sm2 : Same (hid A f' s'.objs H') (hid A [a0, a] [MO.lst (out.map .d) true, MO.dct (pureKv ds) true] H') := fun b o q => sm b o (Ext.same (A := A) (z.ext (f := f') (H := H')) b o q)
            have e5 : (pureKv ds).map (·.2) = (ds.map (·.2)).map Val.d := by simp [pureKv, Function.comp_def]
            have e6 : (pureKv ds).map (·.1) = ds.map (·.1) := by simp [pureKv, Function.comp_def]
            obtain ⟨e1, R1⟩ := new (mo' := .dct (pureKv ds) true) hn0 hn e rfl rfl sm2 ⟨es, h1, RpA.same sm2 h2, by rw [h3, e6, hk], by rw [e5]; exact PV_map (RpA.same sm hp)⟩
            exact g [a0, a] H' (.ref a) e1 R1 ⟨a, rfl, rfl⟩
          · cases h
        · cases h
      · split at h
        · rename_i x os1 ef
          cases h
          obtain ⟨z, hp⟩ := frz_ok FD A f' s' σ' H' _ x _ (.ref a) ef r ⟨a, hn, rfl⟩
          exact g [a0] H' (.ref a) ex0 R0 (Rp.same (hid_mono (W := W.toWd) fun b hb => by rw [one b hb]; exact in1) hp)
        · cases h
/-- a def's end, from what the call is to tell -/
theorem end_ok {br : Bool} {inp : Option (List PyData)} {v : Val} {u : V} {f0 : List Addr} {Z : L2.WX} (hb : inp.isSome = br) (hf : f0.length = (st0 inp).objs.length) (g : GoO W Z (RlV W) A f0 (st0 inp).objs [] H Q (outO inp (finish br v s'))) (ex : Ext f0 (st0 inp).objs H f' s'.objs H') (r : R W.toWd A f' s' σ' H')
    (ru : RepV W.toWd f' (hid A f' s'.objs H') u v) : Q u H' := by
  have bad : ¬ GoO W Z (RlV W) A f0 (st0 inp).objs [] H Q (outO inp .bad) := fun z => by cases inp <;> exact z
  unfold finish at g
  split at g
  · exact (bad g).elim
  · rename_i out eo
    split at g
    · exact (bad g).elim
    · rename_i rv os ev
      split at g
      · exact (bad g).elim
      · rename_i out2 eo2
        cases inp with
        | none =>
          have hbr : br = false := by simpa using hb.symm
          subst hbr
          have h0 : f0 = [] := List.length_eq_zero_iff.mp hf
          subst h0
          exact fin_none ev ex r ru g
        | some xs0 =>
          have hbr : br = true := by simpa using hb.symm
          subst hbr
          obtain ⟨a0, rfl⟩ := one_of hf
          have eo' := eo
          have eo2' := eo2
          cases out with
          | none =>
            unfold outOf at eo'
            simp only at eo'
            split at eo'
            · split at eo' <;> cases eo'
            · cases eo'
          | some out =>
            cases out2 with
            | none =>
              unfold outOf at eo2'
              simp only at eo2'
              split at eo2'
              · split at eo2' <;> cases eo2'
              · cases eo2'
            | some out2 => exact fin_some ev eo eo2 ex r ru g
/-- an exception leaves a def -/
theorem exc_ok {br : Bool} {inp : Option (List PyData)} {c : Nat} {x : PyData} {f0 : List Addr} {cls : Value} {dd : Option Addr} {E : XK} (hb : inp.isSome = br) (hf : f0.length = (st0 inp).objs.length)
    (g : GoO W (fun c d _ H => E c d H) (RlV W) A f0 (st0 inp).objs [] H Q (outO inp (match outOf br s' with
      | some out => .exc c x out
      | none => .bad))) (ex : Ext f0 (st0 inp).objs H f' s'.objs H') (r : R W.toWd A f' s' σ' H') (hx : ExcR W.toWd W.ca (hid A f' s'.objs H') cls dd c x) : E cls dd H' := by
  have up : ∀ {Hh : Hp}, Same (hid A f' s'.objs H') Hh → ExcR W.toWd W.ca Hh cls dd c x := fun {Hh} sm => by
    obtain ⟨a, k, h1, h2, h3⟩ := hx
    refine ⟨a, k, h1, h2, ?_⟩
    cases k with
    | none => exact h3
    | some z =>
      obtain ⟨d, v, q1, q2, q3⟩ := h3
      exact ⟨d, v, q1, sm _ _ q2, Rp.same sm q3⟩
  split at g
  · rename_i out eo
    cases inp with
    | none =>
      have hbr : br = false := by simpa using hb.symm
      subst hbr
      have h0 : f0 = [] := List.length_eq_zero_iff.mp hf
      subst h0
      have ex0 : Ext [] [] H [] [] H' := ⟨⟨[], rfl⟩, ex.keep, fun b hb => .inl hb⟩
      have R0 : R W.toWd A [] (st0 none) [] H' := ⟨rfl, List.nodup_nil, r.hA, fun b hb => by simp at hb, fun n o a h1 h2 => by simp at h2, fun i v h => by simp [st0] at h, rfl, r.tabs⟩
      exact g [] H' cls dd ex0 R0 (up (hid_mono (W := W.toWd) fun b hb => (inU_nil hb).elim))
    | some xs0 =>
      have hbr : br = true := by simpa using hb.symm
      subst hbr
      obtain ⟨a0, rfl⟩ := one_of hf
      cases out with
      | none => exact g.elim
      | some out =>
        have h00 := outOf_ok eo
        have hf0 : f'[0]? = some a0 := by
          obtain ⟨t, et⟩ := ex.pre
          rw [et]
          rfl
        have in0 : InU f' s'.objs a0 := ⟨0, _, hf0, h00, rfl⟩
        have one : ∀ b, InU [a0] [MO.lst (out.map .d) true] b → b = a0 := fun b hb => (inU_one rfl).mp hb
        have sm0 : Same (hid A f' s'.objs H') (hid A [a0] [MO.lst (out.map .d) true] H') := hid_mono (W := W.toWd) fun b hb => by rw [one b hb]; exact in0
        have ex0 : Ext [a0] [.lst (xs0.map .d) true] H [a0] [.lst (out.map .d) true] H' := ⟨⟨[], rfl⟩, ex.keep, fun b hb => .inl (by rw [one b hb]; exact (inU_one rfl).mpr rfl)⟩
        have R0 : R W.toWd A [a0] ⟨[], [.lst (out.map .d) true]⟩ [] H' := by
          refine ⟨rfl, by simp, r.hA, fun b hb => ?_, fun n o a h1 h2 => ?_, fun i v h => by simp at h, rfl, r.tabs⟩
          · have : b = a0 := by simpa using hb
            rw [this]
            exact r.disj a0 (List.mem_of_getElem? hf0)
          · cases n with
            | succ n => simp at h2
            | zero =>
              simp at h1 h2
              subst h1 h2
              obtain ⟨us, q1, q2⟩ := r.obj 0 _ a0 h00 hf0
              exact ⟨us, q1, PV_map (RpA.same sm0 (rpA_of_PV q2))⟩
        exact g [a0] H' cls dd ex0 R0 (up sm0)
  · cases inp <;> exact g.elim
/-- the start of a def's body -/
theorem start_R {fn : Fn} {inp : Option (List PyData)} {args : List PyData} {f0 : List Addr} {N : List Str} {vs : List V} (hok : argsOk fn inp args = true) (hN : N.length = fn.ns) (hl : vs.length = fn.np) (r : R W.toWd A f0 (st0 inp) [] H)
    (rv : PV W.toWd f0 (hid A f0 (st0 inp).objs H) vs (ref0 inp ++ args.map .d)) : (MI.start fn inp args).objs = (st0 inp).objs ∧ R W.toWd A f0 (MI.start fn inp args) (L2.start N vs) H := by
  have eo : (MI.start fn inp args).objs = (st0 inp).objs := by cases inp <;> rfl
  have ee : (MI.start fn inp args).env = (ref0 inp ++ args.map Val.d).map some ++ List.replicate (fn.ns - fn.np) none := by
    cases inp with
    | none => simp [MI.start, ref0, Function.comp_def]
    | some xs => simp [MI.start, ref0, Function.comp_def]
  have hlen := Paired.length' rv
  refine ⟨eo, ⟨by rw [eo]; exact r.len, r.nd, r.hA, r.disj, fun n o a h1 h2 => ?_, fun i v h => ?_, ?_, r.tabs⟩⟩
  · rw [eo] at h1 ⊢
    exact r.obj n o a h1 h2
  · rw [ee] at h
    rw [eo]
    have hi : i < (ref0 inp ++ args.map Val.d).length := by
      by_cases hi : i < (ref0 inp ++ args.map Val.d).length
      · exact hi
      · rw [List.getElem?_append_right (by simpa using hi), List.getElem?_replicate] at h
        split at h <;> cases h
    rw [List.getElem?_append_left (by simpa using hi), List.getElem?_map] at h
    obtain ⟨w, e1, e2⟩ := map_some h
    cases e2
    obtain ⟨u, h1, h2⟩ := Paired.getR rv e1
    refine ⟨u, ?_, h2⟩
    unfold L2.start
    rw [List.getElem?_append_left (by rw [List.length_map, hlen]; exact hi), List.getElem?_map, h1]
    rfl
  · rw [ee]
    unfold L2.start
    simp only [List.length_append, List.length_map, List.length_replicate]
    have : (ref0 inp ++ args.map Val.d).length = vs.length := hlen.symm
    simp only [List.length_append, List.length_map] at this
    omega
/-- the body of a def does what the call is to tell -/
theorem body_ok {fn : Fn} {K : Cfg} {fuel : Nat} {N : List Str} {vs : List V} {E : XK} (hN : N.length = fn.ns) (h : spF W (fun inp args => runFn K fuel fn inp args) fn.br fn.np vs H Q E) :
    tX W (fun c d _ H => E c d H) (exs (sem K fuel).ex fn.body) { nx := fun _ H' => Q .non H', rt := Q } (L2.start N vs) H := by
  obtain ⟨hl, A, inp, args, f0, hb, r, rv, g⟩ := h
  unfold runFn at g
  dsimp only at g
  have bad : ¬ GoO W (fun c d _ H => E c d H) (RlV W) A f0 (st0 inp).objs [] H Q (outO inp .bad) := fun z => by cases inp <;> exact z
  split at g
  rotate_left
  · exact (bad g).elim
  rename_i hok
  obtain ⟨eo, R0⟩ := start_R hok hN hl r rv
  refine ⟨A, f0, MI.start fn inp args, R0, ?_⟩
  rw [eo]
  cases e : exs (sem K fuel).ex fn.body (MI.start fn inp args) with
  | bad =>
    rw [e] at g
    exact (bad g).elim
  | exc c x s' =>
    rw [e] at g
    intro f' H' σ' cls dd ex R' hx
    exact exc_ok hb r.len g ex R' hx
  | ok fl s' =>
    rw [e] at g
    intro f' H' σ' ex R'
    cases fl with
    | next => exact end_ok hb r.len g ex R' Rp.non
    | brk => exact (bad g).elim
    | cnt => exact (bad g).elim
    | ret v => exact fun u ru => end_ok hb r.len g ex R' ru
end

/-- a def, by its body -/
theorem fn_ofX {gd : Bool} {CX : CXT} {P : Program} {w : World} {K : PySem.W.Frag} {mg : Str → Option Value} {base : Heap} {k : Nat} {f : Addr} {name qual : Str} {params : Arguments} {body : List Stmt} {scope : Scope} {dV kV doc pm cdv ct oc : Value} {an od : Option Addr}
    {osl : Array (Option Value)} {N ps : List Str} {sp : Sp} (lk : K.lookup f = some ⟨oc, od, .func (PySem.W.fnOf name qual params body scope dV kV doc pm an cdv ct), osl⟩) (hcd : PySem.W.codeIn K cdv qual = true) (S : FnScope N ps scope) (len : ∀ vs H Q E, sp vs H Q E → vs.length = ps.length)
    (hbody : ∀ (A : Around) (outer : List Env) (s : Shared) (H : Hp) (vs : List V) (Q : VK) (E : XK), (gd = true → A.guards = some []) → Room k (A.deeper (envOfC qual scope s.heap.objs.size f cdv)) → sp vs H Q E →
      ∃ t, PSs (cxOf CX P w K mg base N qual scope f cdv A outer s H E) body t ∧ t { nx := fun _ H' => Q .non H', rt := Q } (L2.start N vs) H) :
    FnX gd P w K mg base CX (k + 1) f (PySem.W.fnOf name qual params body scope dV kV doc pm an cdv ct) ps sp :=
  ⟨len, fun A outer s H args us vs Q E hg hr e0 hb r hsp => LamX.run_ofS lk hcd S hr e0 hb r (len _ _ _ _ hsp) fun hr' => hbody A outer s H vs Q E hg hr' hsp⟩
/-- A DEF OF THE TEXT -/
theorem fn_ok {gd : Bool} {P : Program} {w : World} {K : PySem.W.Frag} {mg : Str → Option Value} {base : Heap} {Φ : Fx} {S : Nat → Option Sig} {Kc : Cfg} {fuel n l k j : Nat} {f : Addr} {name qual : Str} {params : Arguments} {body : List Stmt} {scope : Scope} {dV kV doc pm cdv ct oc : Value} {an od : Option Addr}
    {osl : Array (Option Value)} {N ps : List Str} {fn : Fn} {c : SC} (lk : K.lookup f = some ⟨oc, od, .func (PySem.W.fnOf name qual params body scope dV kV doc pm an cdv ct), osl⟩) (hcd : PySem.W.codeIn K cdv qual = true) (Sc : FnScope N ps scope)
    (hc : compL (orBad (compS S n l c)) body = some fn.body) (hnp : fn.np = ps.length) (hns : fn.ns = N.length)
    (G : ∀ (A : Around) (outer : List Env) (s : Shared) (H : Hp) (E : XK), (gd = true → A.guards = some []) → Room j (A.deeper (envOfC qual scope s.heap.objs.size f cdv)) → GoodS S Kc (cxOf (L2.CX P w) P w K mg base N qual scope f cdv A outer s H E) Φ c k (fun c d _ H => E c d H)) :
    FnX gd P w K mg base (L2.CX P w) (j + 1) f (PySem.W.fnOf name qual params body scope dV kV doc pm an cdv ct) ps (spF ⟨⟨P, w, K, Φ.fa, Φ.T, Φ.la⟩, Φ.ca, Φ.fc⟩ (fun inp args => runFn Kc fuel fn inp args) fn.br ps.length) :=
  fn_ofX lk hcd Sc (fun vs H Q E h => h.1) fun A outer s H vs Q E hg hr hsp =>
    ⟨_, pss_of (sndS_all fuel) (G A outer s H E hg hr) hc, body_ok (W := ⟨⟨P, w, K, Φ.fa, Φ.T, Φ.la⟩, Φ.ca, Φ.fc⟩) hns.symm (by rw [hnp]; exact hsp)⟩
end MI

set_option Elab.async false
set_option linter.all false
set_option maxRecDepth 100000
set_option maxHeartbeats 1000000
/-! MI: parameters; a lambda as a value keeps its promise. -/
namespace MI
open PySem PySem.Spec L2
open PyProof.Rows hiding St

/-! ### parameters -/
theorem look_zip : ∀ {ps : List Str} {us : List Value}, us.length = ps.length → ps.Nodup → ∀ n ∈ ps, (List.lookup n (ps.zip us)).isSome = true
  | [], _, _, _, n, h => by cases h
  | p :: ps, [], hl, _, _, _ => by cases hl
  | p :: ps, u :: us, hl, nd, n, h => by
    rw [List.zip_cons_cons, List.lookup_cons]
    split
    · rfl
    · rename_i z
      rcases List.mem_cons.mp h with rfl | h
      · simp at z
      · exact look_zip (by simpa using hl) (List.nodup_cons.mp nd).2 n h
theorem fm_eq {α β : Type} {f g : α → Option β} : ∀ l : List α, (∀ x ∈ l, f x = g x) → l.filterMap f = l.filterMap g
  | [], _ => rfl
  | x :: l, h => by
    rw [List.filterMap_cons, List.filterMap_cons, h x List.mem_cons_self, fm_eq l fun y hy => h y (List.mem_cons_of_mem _ hy)]
theorem fm_zip : ∀ {ps : List Str} {us : List Value}, us.length = ps.length → ps.Nodup → ps.filterMap (fun n => (List.lookup n (ps.zip us)).map fun v => (n, v)) = ps.zip us
  | [], _, _, _ => by simp
  | p :: ps, [], hl, _ => by cases hl
  | p :: ps, u :: us, hl, nd => by
    have nd' := List.nodup_cons.mp nd
    rw [List.zip_cons_cons, List.filterMap_cons]
    have e : List.lookup p ((p, u) :: ps.zip us) = some u := by simp [List.lookup_cons]
    rw [e]
    simp only [Option.map_some]
    congr 1
    refine Eq.trans (fm_eq ps fun n hn => ?_) (fm_zip (ps := ps) (us := us) (by simpa using hl) nd'.2)
    have : (n == p) = false := by
      have : n ≠ p := fun z => nd'.1 (z ▸ hn)
      simpa using this
    rw [List.lookup_cons, this]
theorem bind_plain {fd : FuncData} {ps : List Str} {us : List Value} (hp : fd.params.posonlyargs = []) (ha : fd.params.args.map (·.arg) = ps) (hk : fd.params.kwonlyargs = []) (hv : fd.params.vararg = none) (hkw : fd.params.kwarg = none) (hd : fd.defaults = .none) (nd : ps.Nodup) (hl : us.length = ps.length) :
    bindArgs fd ⟨us, []⟩ = pure (ps.zip us) := by
  have m : (ps.filter fun n => (List.lookup n (ps.zip us)).isNone) = [] := by
    rw [List.filter_eq_nil_iff]
    intro n hn
    have z := look_zip hl nd n hn
    cases q : List.lookup n (ps.zip us) with
    | none => rw [q] at z; cases z
    | some v => simp
  unfold bindArgs
  simp [hp, ha, hk, hv, hkw, hd, hl, m, fm_zip hl nd, seqItems?]
  rfl
/-! ### lambdas -/
def plainA (a : Arguments) (ps : List Str) : Bool := a.posonlyargs.isEmpty && (decide (a.args.map (·.arg) = ps) && (a.kwonlyargs.isEmpty && (a.vararg.isNone && a.kwarg.isNone)))
section
variable {P : Program} {w : World} {K : PySem.W.Frag} {mg : Str → Option Value} {base : Heap} {Φ : Fx} {S : Nat → Option Sig} {Kc : Cfg} {F n k j g : Nat} {D : LamD} {ps : List Str} {c : SC} {m : ME}
theorem exs_ret1 {ms : MS} : exs (sem Kc (F + 1)).ex [.ret m] ms = ((sem Kc F).ev m ms).bind fun v s1 => .ok (.ret v) s1 := by
  show (((sem Kc F).ev m ms).bind fun v s1 => (Out.ok (MI.Flow.ret v) s1 : Out MI.Flow)).bind (fun f s1 => match f with
    | .next => exs (sem Kc (F + 1)).ex [] s1
    | f => .ok f s1) = _
  cases (sem Kc F).ev m ms <;> rfl
/-- A LAMBDA -/
theorem lam_at (Sc : FnScope c.N ps D.scope) (hp : plainA D.params ps = true) (hnd : ps.Nodup) (hN : c.N.length = ps.length) (hc : comp S n c D.body = some m)
    (G : ∀ (A : Around) (outer : List Env) (s : Shared) (H : Hp) (E : XK) (f cA : Addr), Room j (A.deeper (envOfC D.q D.scope s.heap.objs.size f (.ref cA))) → Good S Kc (cxOf (L2.CX P w) P w K mg base c.N D.q D.scope f (.ref cA) A outer s H E) Φ c k (fun c d _ H => E c d H)) :
    LamAt P w K mg base ⟨⟨P, w, K, Φ.fa, Φ.T, Φ.la⟩, Φ.ca, Φ.fc⟩ (j + 1) g (fun inp args => runFn Kc (F + 1) ⟨ps.length, ps.length, false, [.ret m]⟩ inp args) D ps := by
  refine ⟨fun A outer s H f cA us vs Q E hr e0 hf hcO r hsp => ?_, fun inp args h => ?_⟩
  · have hl := hsp.1
    unfold plainA at hp
    simp only [Bool.and_eq_true, decide_eq_true_eq, List.isEmpty_iff, Option.isNone_iff_eq_none] at hp
    obtain ⟨a1, a2, a3, a4, a5⟩ := hp
    obtain ⟨pm, ctv, ho⟩ := lamO_get e0.hok hf
    obtain ⟨⟨oc, fs, t, h1, h2, h3⟩, _, _⟩ := e0.hok cA _ hcO
    have lim : s.heap.NoLimit := e0.mod.nolimit.keeps fun b o e => (e0.bs b o e).1
    have hkind : ∀ y ∈ ps.zip us, D.scope.names.lookup y.1 = some .local ∨ (D.scope.names.lookup y.1 = some .cell ∧ ((cellsFrom (s.heap.objs.size + 1) D.scope.names []).lookup y.1).isSome = true) := fun ⟨n, v⟩ hy => by
      rcases Sc.par n (List.of_mem_zip hy).1 with q | q
      · exact .inl q
      · exact .inr ⟨q, PySem.W.cellsFrom_some _ _ _ (.inl q)⟩
    have hlen : us.length = ps.length := by rw [← Paired.length r, hl]
    refine PySem.W.kla_callFunE hr.depth ho rfl Sc.co Sc.gen rfl ⟨cA, oc, fs, t, rfl, h1, h2, h3⟩ ?_
    rw [bind_plain (fd := PySem.W.kla_fn "<lambda>" D.q D.params D.body D.scope [] pm (.ref cA) ctv) a1 a2 a3 a4 a5 rfl hnd hlen]
    refine wpAny_pure (wpAny_newFunctionEnv_cells Sc.kind hkind fun env he s1 x => ?_)
    subst he
    refine ⟨lim.keeps x.toInCall.keep, ?_⟩
    show codeAny _ _ (.expr D.body (envOfC D.q D.scope s.heap.objs.size f (.ref cA))) _ _
    have I : L2.Inv (cxOf (L2.CX P w) P w K mg base c.N D.q D.scope f (.ref cA) A outer s H E) [] (L2.start c.N vs) H s1 := inv_start Sc hr.hd e0 hl r x
    have b := body_ok (W := ⟨⟨P, w, K, Φ.fa, Φ.T, Φ.la⟩, Φ.ca, Φ.fc⟩) (fn := ⟨ps.length, ps.length, false, [.ret m]⟩) (fuel := F + 1) (K := Kc) (N := c.N) hN hsp
    have h : tE (wx (cxOf (L2.CX P w) P w K mg base c.N D.q D.scope f (.ref cA) A outer s H E) Φ) (fun c d _ H => E c d H) ((sem Kc F).ev m) (L2.start c.N vs) H Q := by
      obtain ⟨A', f', ms, R0, g⟩ := b
      refine ⟨A', f', ms, R0, ?_⟩
      rw [exs_ret1] at g
      cases e : (sem Kc F).ev m ms with
      | bad => rw [e] at g; exact g.elim
      | exc c x s' => rw [e] at g; exact fun f' H' cls dd ex R' hx => g f' H' _ cls dd ex R' hx
      | ok v s' => rw [e] at g; exact fun f' H' u ex R' ru => g f' H' _ ex R' u ru
    refine PySem.W.kla_codeExpr (wpAny_mono ((snd_all F n c D.body m _ Φ k _ hc (G A outer s H E f cA (hr.deeper _))).1.run [] s1 (L2.start c.N vs) H Q I h) (fun v s' hq => ?_) fun e s' hq => hq)
    obtain ⟨u, H', J, rv, q⟩ := hq
    exact ⟨u, H', J.os, J.bare, J.base, J.hok, rv, q⟩
  · unfold runFn at h
    split at h
    · rename_i ok
      unfold argsOk at ok
      cases inp with
      | none =>
        simp only [Bool.and_eq_true, Bool.not_eq_true', decide_eq_true_eq] at ok
        exact ⟨by simp [ref0, ok.2], rfl⟩
      | some xs =>
        simp at ok
    · exact absurd rfl h
end
end MI

set_option Elab.async false
set_option linter.all false
set_option maxRecDepth 100000
set_option maxHeartbeats 1000000
/-! MI: every def at every depth of calls. -/
namespace MI
open PySem PySem.Spec L2
open PyProof.Rows hiding St

/-- what the module's names stand for, as a def's checker leans on it -/
structure Globs (P : Program) (w : World) (K : PySem.W.Frag) (mg : Str → Option Value) (Φ : Fx) (S : Nat → Option Sig) (con : Nat → Option PyData) (c : SC) : Prop where
  cons : ∀ x i, c.cons.lookup x = some i → ∃ (v : V) (u : Value) (d : PyData), mg x = some u ∧ L2.RelV v u ∧ con i = some d ∧ ∀ H, Rp P w K H v d
  fns : ∀ x g, c.fns.lookup x = some g → ∀ f, Φ.fc g = some f → mg x = some (.ref f)
  free : ∀ x, c.free.contains x = true → mg x = none
  fav : ∀ g f, Φ.fa g = some f → Φ.fc g = some f ∧ ∃ sg, S g = some sg ∧ sg.gd = false
  fnA : ∀ x g, c.fns.lookup x = some g → c.nov.contains g = false → ∃ f, Φ.fa g = some f ∧ Φ.fc g = some f
noncomputable abbrev cfg (Pm : Prog) (lim fuel l : Nat) : Cfg := ⟨fun i => Pm.cons[i]?, lim, callF Pm lim fuel l, Pm.sub, Pm.dfl⟩
abbrev wP (P : Program) (w : World) (K : PySem.W.Frag) (Φ : Fx) : Wx := ⟨⟨P, w, K, Φ.fa, Φ.T, Φ.la⟩, Φ.ca, Φ.fc⟩
/-- a def as the head tells it -/
structure DefAt (P : Program) (w : World) (K : PySem.W.Frag) (mg : Str → Option Value) (base : Heap) (Φ : Fx) (S : Nat → Option Sig) (Pm : Prog) (g : Nat) (sg : Sig) : Prop where
  ex : ∃ (f : Addr) (fd : FuncData) (fn : Fn) (c : SC) (x : Str) (params : Arguments) (body : List Stmt) (scope : Scope) (n l : Nat), Φ.fc g = some f ∧ (∃ kws, FunD K x x params body scope [] kws f fd) ∧ KwB P w K fd sg.ps sg.kwo ∧ FnScope c.N sg.ps scope ∧ c.sc = scope ∧ Pm.fns[g]? = some fn ∧
    compL (orBad (compS S n l c)) body = some fn.body ∧ fn.np = sg.ps.length ∧ fn.ns = c.N.length ∧ fn.br = sg.br ∧ Globs P w K mg Φ S (fun i => Pm.cons[i]?) c ∧ (c.rep = true → sg.gd = true) ∧
    (∀ (cdv : Value) (A : Around) (outer : List Env) (s : Shared) (H : Hp) (E : XK) (y : Str) (cid : Nat) (keeps : Bool), Room 1 (A.deeper (envOfC x scope s.heap.objs.size f cdv)) → c.exn.lookup y = some (cid, keeps) → RaisesAt (cxOf (L2.CX P w) P w K mg base c.N x scope f cdv A outer s H E) Φ y cid keeps) ∧
    (c.trys = [] ∨ ∀ (cdv : Value) (A : Around) (outer : List Env) (s : Shared) (H : Hp) (E : XK), (∃ oc od dV kV doc pm an ct osl, K.lookup f = some ⟨oc, od, .func (PySem.W.fnOf x x params body scope dV kV doc pm an cdv ct), osl⟩) → PySem.W.codeIn K cdv x = true →
      ∀ y tag hs, c.trys.lookup y = some (tag, hs) → ∃ t, tag = .str t ∧ TryAt (cxOf (L2.CX P w) P w K mg base c.N x scope f cdv A outer s H E) Φ Pm.sub y t hs) ∧
    (c.lams = [] ∨ ∀ (cdv : Value) (A : Around) (outer : List Env) (s : Shared) (H : Hp) (E : XK), (∃ oc od dV kV doc pm an ct osl, K.lookup f = some ⟨oc, od, .func (PySem.W.fnOf x x params body scope dV kV doc pm an cdv ct), osl⟩) → PySem.W.codeIn K cdv x = true →
      LamsAt (cxOf (L2.CX P w) P w K mg base c.N x scope f cdv A outer s H E) Φ c.lams)
/-- a lambda that is a value, as the tables tell it -/
structure LamDef (P : Program) (w : World) (K : PySem.W.Frag) (mg : Str → Option Value) (Φ : Fx) (S : Nat → Option Sig) (Pm : Prog) (g : Nat) (D : LamD) : Prop where
  ex : ∃ (m : ME) (ps : List Str) (c : SC) (n : Nat), Pm.fns[g]? = some ⟨ps.length, ps.length, false, [.ret m]⟩ ∧ FnScope c.N ps D.scope ∧ plainA D.params ps = true ∧ ps.Nodup ∧ c.N.length = ps.length ∧ comp S n c D.body = some m ∧ c.sc = D.scope ∧ c.rep = false ∧ c.trys = [] ∧
    Globs P w K mg Φ S (fun i => Pm.cons[i]?) c
section
variable {P : Program} {w : World} {K : PySem.W.Frag} {mg : Str → Option Value} {base : Heap} {Φ : Fx} {S : Nat → Option Sig} {Pm : Prog} {lim fuel : Nat}
theorem spF_bad {br : Bool} {np : Nat} {vs : List V} {H : Hp} {Q : VK} {E : XK} {W : Wx} {cl : Option (List PyData) → List PyData → RF} (hb : ∀ i a, cl i a = .bad) : ¬ spF W cl br np vs H Q E := by
  rintro ⟨_, A, inp, args, f, _, _, _, g⟩
  rw [hb] at g
  cases inp <;> exact g
theorem run_len {Kc : Cfg} {fn : Fn} {inp : Option (List PyData)} {args : List PyData} (h : runFn Kc fuel fn inp args ≠ .bad) : (ref0 inp).length + args.length = fn.np ∧ inp.isSome = fn.br := by
  unfold runFn at h
  split at h
  · rename_i ok
    unfold argsOk at ok
    cases inp with
    | none =>
      simp only [Bool.and_eq_true, Bool.not_eq_true', decide_eq_true_eq] at ok
      exact ⟨by simp [ref0, ok.2], by simp [ok.1]⟩
    | some xs =>
      simp only [Bool.and_eq_true, decide_eq_true_eq] at ok
      exact ⟨by simp [ref0]; omega, by simp [ok.1]⟩
  · exact absurd rfl h
/-- EVERY DEF KEEPS ITS PROMISE, every lambda too -/
theorem levels {F : Nat} (hF : fuel = F + 1) (D : ∀ g sg, S g = some sg → DefAt P w K mg base Φ S Pm g sg) (DL : ∀ g L, Φ.la g = some L → LamDef P w K mg Φ S Pm g L) (hdf : ∀ g sg, S g = some sg → Pm.dfl g = sg.kwo.map (·.2)) (hdl : ∀ g L, Φ.la g = some L → Pm.dfl g = []) : ∀ l : Nat, (∀ (g : Nat) (sg : Sig), S g = some sg → FnAt sg.gd P w K mg base (wP P w K Φ) (3 * l + 1) g (callF Pm lim fuel l g) sg.ps sg.br sg.kwo) ∧
    ∀ (g : Nat) (L : LamD), Φ.la g = some L → ∃ ps, LamAt P w K mg base (wP P w K Φ) (3 * l + 1) g (callF Pm lim fuel l g) L ps := by
  intro l
  induction l with
  | zero =>
    refine ⟨fun g sg hg => ?_, fun g L hL => ?_⟩
    · obtain ⟨f, fd, fn, c, x, params, body, scope, n, l, h1, h2, h3, h4, _⟩ := (D g sg hg).ex
      obtain ⟨kws, h2⟩ := h2
      exact ⟨⟨f, fd, h1, h2.kp, ⟨fun vs H Q E h => h.1, fun A outer s H args us vs Q E _ _ _ _ _ h => (spF_bad (fun _ _ => rfl) h).elim⟩, h3⟩, fun inp args h => (h rfl).elim⟩
    · exact ⟨[], fun A outer s H f c us vs Q E _ _ _ _ _ h => (spF_bad (fun _ _ => rfl) h).elim, fun inp args h => (h rfl).elim⟩
  | succ l ih =>
    obtain ⟨ih, ihL⟩ := ih
    have favs : ∀ {c : SC}, Globs P w K mg Φ S (fun i => Pm.cons[i]?) c → ∀ g' f', Φ.fa g' = some f' → Φ.fc g' = some f' ∧ ∃ ps br kwo, FnAt false P w K mg base (wP P w K Φ) (3 * l + 1) g' (callF Pm lim fuel l g') ps br kwo ∧ Pm.dfl g' = kwo.map (·.2) := fun G g' f' e => by
      obtain ⟨q1, sg', q2, q3⟩ := G.fav g' f' e
      refine ⟨q1, sg'.ps, sg'.br, sg'.kwo, ?_, hdf g' sg' q2⟩
      have z := ih g' sg' q2
      rw [q3] at z
      exact z
    refine ⟨fun g sg hg => ?_, fun g L hL => ?_⟩
    · obtain ⟨f, fd, fn, c, x, params, body, scope, n, m, h1, h2, h3, h4, h5, h6, h7, h8, h9, h10, G, h11, hX, hT, hLm⟩ := (D g sg hg).ex
      obtain ⟨kws, h2⟩ := h2
      have kp := h2.kp
      obtain ⟨oc, od, dV, kV, doc, pm, an, cdv, ct, osl, rfl, lk, hcd, _, _⟩ := h2.ex
      have ec : (callF Pm lim fuel (l + 1) g) = fun inp args => runFn (cfg Pm lim fuel l) fuel fn inp args := by
        funext inp args
        rw [callF_succ, h6]
      have FX : FnX sg.gd P w K mg base (L2.CX P w) (3 * l + 3 + 1) f (PySem.W.fnOf x x params body scope dV kV doc pm an cdv ct) sg.ps (spF (wP P w K Φ) (fun inp args => runFn (cfg Pm lim fuel l) fuel fn inp args) fn.br sg.ps.length) := by
        refine fn_ok (c := c) (k := 3 * l + 1) (j := 3 * l + 3) lk hcd h4 h7 h8 h9 fun A outer s H E hgd hr => ?_
        subst h5
        exact {
          N := rfl
          nd := h4.nd
          sc := rfl
          fnB := fun _ _ => rfl
          calm := rfl
          room := hr.mono (by omega)
          cons := G.cons
          fns := G.fns
          fat := fun g' sg' e => ih g' sg' e
          fav := favs G
          lav := fun g' L e => ⟨ihL g' L e, hdl g' L e⟩
          free := G.free
          tk := takes_of rfl rfl rfl rfl
          zi := fun _ _ _ _ _ h => h
          rep := fun e => hgd (h11 e)
          lroom := .inr (hr.mono (by omega))
          trys := fun y tag hs e => by
            rcases hT with hT | hT
            · rw [hT] at e
              cases e
            · exact hT cdv A outer s H E ⟨_, _, _, _, _, _, _, _, _, lk⟩ hcd y tag hs e
          own := passes_of rfl
          kind := h4.kind
          exn := fun y cid keeps e => hX cdv A outer s H E y cid keeps (hr.mono (by omega)) e
          fnA := G.fnA
          lams := hLm.imp id fun z => z cdv A outer s H E ⟨_, _, _, _, _, _, _, _, _, lk⟩ hcd }
      rw [ec]
      refine ⟨⟨f, _, h1, kp, ?_, h3⟩, fun inp args h => ?_⟩
      · rw [h10] at FX
        exact FX.mono (by omega)
      · have z := run_len h
        rw [h8, h10] at z
        exact z
    · obtain ⟨m, ps, c, n, e1, e2, e3, e4, e5, e6, e7, e8, e9, G⟩ := (DL g L hL).ex
      have ec : (callF Pm lim fuel (l + 1) g) = fun inp args => runFn (cfg Pm lim fuel l) (F + 1) ⟨ps.length, ps.length, false, [.ret m]⟩ inp args := by
        funext inp args
        rw [callF_succ, e1, hF]
      rw [ec]
      refine ⟨ps, lam_at (k := 3 * l + 1) (j := 3 * l + 3) e2 e3 e4 e5 e6 fun A outer s H E f cA hr => ?_⟩
      exact {
        N := rfl
        nd := e2.nd
        sc := e7.symm
        fnB := fun _ _ => rfl
        calm := rfl
        room := hr.mono (by omega)
        cons := G.cons
        fns := G.fns
        fat := fun g' sg' e => ih g' sg' e
        fav := favs G
        lav := fun g' L e => ⟨ihL g' L e, hdl g' L e⟩
        free := G.free
        tk := takes_of rfl rfl rfl rfl
        zi := fun _ _ _ _ _ h => h
        rep := fun e => by
          rw [e8] at e
          cases e
        lroom := .inl e9
        trys := fun y tag hs e => by
          rw [e9] at e
          cases e }
end
end MI

set_option Elab.async false
set_option linter.all false
set_option maxRecDepth 100000
set_option maxHeartbeats 2000000
/-! MI: how a def with one keyword-only parameter is bound. -/
namespace MI
open PySem PySem.Spec L2
open PyProof.Rows hiding St
theorem look_out {ps : List Str} {us : List Value} {kn : Str} (h : kn ∉ ps) : List.lookup kn (ps.zip us) = none := by
  induction ps generalizing us with
  | nil => rfl
  | cons p ps ih =>
    cases us with
    | nil => rfl
    | cons u us =>
      simp only [List.mem_cons, not_or] at h
      rw [List.zip_cons_cons, List.lookup_cons, show (kn == p) = false from by simpa using h.1]
      exact ih h.2
theorem bind_kw1 {fd : FuncData} {ps : List Str} {kn : Str} {D : Addr} {us : List Value} {k : Value} (hp : fd.params.posonlyargs = []) (ha : fd.params.args.map (·.arg) = ps) (hk : fd.params.kwonlyargs.map (·.arg) = [kn]) (hv : fd.params.vararg = none) (hkw : fd.params.kwarg = none) (hd : fd.defaults = .none)
    (hD : fd.kwdefaults = .ref D) (nd : (ps ++ [kn]).Nodup) (hl : us.length = ps.length) :
    KwChain D [(kn, k)] (bindArgs fd ⟨us, []⟩) ((ps ++ [kn]).zip (us ++ [k])) := by
  have nd1 : ps.Nodup := (List.nodup_append.mp nd).1
  have hn : kn ∉ ps := fun z => (List.nodup_append.mp nd).2.2 kn z kn (by simp) rfl
  have m : (ps.filter fun n => (List.lookup n (ps.zip us)).isNone) = [] := by
    rw [List.filter_eq_nil_iff]
    intro n hn
    have z := look_zip hl nd1 n hn
    cases q : List.lookup n (ps.zip us) with
    | none => rw [q] at z; cases z
    | some v => simp
  have lo := look_out (us := us) hn
  have zz : (ps ++ [kn]).zip (us ++ [k]) = ps.zip us ++ [(kn, k)] := by rw [List.zip_append (by simp [hl])]; rfl
  have fz := fm_zip (us := us ++ [k]) (ps := ps ++ [kn]) (by simp [hl]) nd
  rw [zz, List.filterMap_append] at fz
  rw [zz]
  unfold bindArgs
  simp only [hp, ha, hk, hv, hkw, hd, hD, hl, m, seqItems?, lo, List.forIn_cons, List.forIn_nil, List.nil_append, List.map_nil, List.zip_nil_left, List.zip_nil_right, List.isEmpty_nil, List.drop_nil, List.length_nil, Nat.sub_zero, List.take_length, List.drop_length, Option.isNone_none, Option.isSome_none, Option.isNone_some, if_true, Bool.not_true, Bool.false_eq_true, if_false, Option.getD, Bool.and_true, decide_eq_true_eq, Nat.lt_irrefl, gt_iff_lt, List.length_zip, Nat.min_self, pure_bind, bind_assoc, Bool.and_false, Nat.zero_sub]
  rw [show (notAStandIn Value.none : PySem.Sem PUnit) = pure () from rfl, pure_bind]
  refine ⟨_, _, _, pure, pure, ps.zip us ++ [(kn, k)], (by rw [bind_pure, bind_pure]), ?_, ?_⟩
  · simp only [pure_bind, List.isEmpty_nil, Bool.not_true, Bool.false_eq_true, if_false]
    rw [List.filterMap_append, fz]
  · show (pure _ >>= pure) = pure _
    rw [pure_bind]
theorem bind_kw2 {fd : FuncData} {ps : List Str} {kn : Str} {us : List Value} {k : Value} (hp : fd.params.posonlyargs = []) (ha : fd.params.args.map (·.arg) = ps) (hk : fd.params.kwonlyargs.map (·.arg) = [kn]) (hv : fd.params.vararg = none) (hkw : fd.params.kwarg = none) (hd : fd.defaults = .none)
    (nd : (ps ++ [kn]).Nodup) (hl : us.length = ps.length) :
    bindArgs fd ⟨us, [(kn, k)]⟩ = pure ((ps ++ [kn]).zip (us ++ [k])) := by
  have nd1 : ps.Nodup := (List.nodup_append.mp nd).1
  have hn : kn ∉ ps := fun z => (List.nodup_append.mp nd).2.2 kn z kn (by simp) rfl
  have lo := look_out (us := us) hn
  have zz : (ps ++ [kn]).zip (us ++ [k]) = ps.zip us ++ [(kn, k)] := by rw [List.zip_append (by simp [hl])]; rfl
  have m : (ps.filter fun n => (List.lookup n (ps.zip us ++ [(kn, k)])).isNone) = [] := by
    rw [List.filter_eq_nil_iff]
    intro n hn
    have z := look_zip (us := us ++ [k]) (ps := ps ++ [kn]) (by simp [hl]) nd n (by simp [hn])
    rw [zz] at z
    cases q : List.lookup n (ps.zip us ++ [(kn, k)]) with
    | none => rw [q] at z; cases z
    | some v => simp
  have lk : (List.lookup kn (ps.zip us ++ [(kn, k)])).isNone = false := by
    have z := look_zip (us := us ++ [k]) (ps := ps ++ [kn]) (by simp [hl]) nd kn (by simp)
    rw [zz] at z
    cases q : List.lookup kn (ps.zip us ++ [(kn, k)]) with
    | none => rw [q] at z; cases z
    | some v => rfl
  have fz := fm_zip (us := us ++ [k]) (ps := ps ++ [kn]) (by simp [hl]) nd
  rw [zz] at fz
  rw [zz]
  have hc : (ps.contains kn || [kn].contains kn) = true := by simp
  unfold bindArgs
  simp only [hp, ha, hk, hv, hkw, hd, hl, m, seqItems?, lo, lk, hc, List.forIn_cons, List.forIn_nil, List.nil_append, List.map_nil, List.zip_nil_left, List.zip_nil_right, List.isEmpty_nil, List.drop_nil, List.length_nil, Nat.sub_zero, List.take_length, List.drop_length, Option.isNone_none, Option.isSome_none, Option.isNone_some, if_true, Bool.not_true, Bool.false_eq_true, if_false, Option.getD, Bool.and_true, decide_eq_true_eq, Nat.lt_irrefl, gt_iff_lt, List.length_zip, Nat.min_self, pure_bind, bind_assoc, Bool.and_false, Nat.zero_sub]
  rw [show (notAStandIn Value.none : PySem.Sem PUnit) = pure () from rfl, pure_bind]
  rw [fz]
/-! ### by tables -/
def toDv : PyData → He.Dv
  | .none => .non
  | .bool b => .bl b
  | .int i => .int i
  | .str x => .str x
  | _ => .non
def dvOk : PyData → Bool
  | .none => true
  | .bool _ => true
  | .int _ => true
  | .str _ => true
  | _ => false
theorem toDv_rp {P : Program} {w : World} {K : PySem.W.Frag} {H : Hp} {d : PyData} (h : dvOk d = true) : Rp P w K H ((toDv d).v K) d := by
  cases d with
  | none => exact .non
  | bool b => exact .bl b
  | int i => exact .int i
  | str x => exact .str x
  | tuple _ => cases h
  | list _ => cases h
  | dict _ => cases h
/-- plain parameters, one keyword-only at most -/
def plainK (a : Arguments) (ps : List Str) (kwo : List (Str × PyData)) : Bool := a.posonlyargs.isEmpty && (decide (a.args.map (·.arg) ++ kwo.map (·.1) = ps) && (decide (a.kwonlyargs.map (·.arg) = kwo.map (·.1)) && (a.vararg.isNone && (a.kwarg.isNone && (decide (kwo.length ≤ 1) && kwo.all fun q => dvOk q.2)))))
theorem kwB_of {P : Program} {w : World} {K : PySem.W.Frag} {x : Str} {params : Arguments} {body : List Stmt} {scope : Scope} {f : Addr} {fd : FuncData} {ps : List Str} {kwo : List (Str × PyData)} (hp : plainK params ps kwo = true) (nd : ps.Nodup)
    (F : FunD K x x params body scope [] (kwo.map fun q => (q.1, (toDv q.2).v K)) f fd) : KwB P w K fd ps kwo := by
  unfold plainK at hp
  simp only [Bool.and_eq_true, decide_eq_true_eq, List.isEmpty_iff, Option.isNone_iff_eq_none] at hp
  obtain ⟨a1, a2, a3, a4, a5, a6, a7⟩ := hp
  cases kwo with
  | nil =>
    have B : Binds K fd ps [] := F.bindsN fun kV doc pm an cdv ct us hl => bind_plain a1 (by simpa using a2) (by simpa using a3) a4 a5 rfl nd hl
    exact ⟨fun _ => B, ⟨[], [], .nil, fun _ => .nil, B⟩, fun kn d z => (by cases z)⟩
  | cons q r =>
    cases r with
    | cons _ _ => simp at a6
    | nil =>
      obtain ⟨kn, d⟩ := q
      simp only [List.map_cons, List.map_nil] at a2 a3 F
      have hl : ps.length = (params.args.map (·.arg)).length + 1 := by rw [← a2]; simp
      refine ⟨fun z => (by cases z), ?_, fun kn' d' z => ?_⟩
      · obtain ⟨ds, h1, h2⟩ := F.binds0 (ps := ps) (params.args.map (·.arg)).length (by simp) (by simp [hl]) fun D doc pm an cdv ct us ks l1 l2 => by
          cases ks with
          | nil => cases l2
          | cons k0 r0 =>
            cases r0 with
            | cons _ _ => simp at l2
            | nil =>
              rw [← a2]
              exact bind_kw1 a1 rfl a3 a4 a5 rfl rfl (by rw [a2]; exact nd) l1
        refine ⟨ds, _, h1, fun H => ?_, h2⟩
        have hd : dvOk d = true := by simpa using a7
        exact .cons (toDv_rp hd) .nil
      · cases z
        obtain ⟨mv, B⟩ := F.kbinds0 (ps := ps) (params.args.map (·.arg)).length [kn] [] (fun us _ ws => us ++ ws) (by simp) (by simp) (fun r1 _ r3 => r1.append r3) fun D doc pm an cdv ct us mv ws l1 l2 l3 => by
          cases ws with
          | nil => cases l3
          | cons k0 r0 =>
            cases r0 with
            | cons _ _ => simp at l3
            | nil =>
              rw [← a2]
              exact bind_kw2 a1 rfl a3 a4 a5 rfl (by rw [a2]; exact nd) l1
        have e : ps.length - 1 = (params.args.map (·.arg)).length := by omega
        rw [e]
        exact B
end MI

set_option Elab.async false
set_option linter.all false
set_option maxRecDepth 100000
set_option maxHeartbeats 1000000
/-! MI: the end of a law whose def wants that nothing is guarded. -/
namespace MI
open PySem PySem.Spec L2
open PyProof.Rows hiding St

/-- the heap at the law's call: the tables, the script -/
noncomputable def hpL (T : List Addr) (a : Addr) (O : Obj) (xs : List V) (own : Bool) : Hp := fun b => open Classical in if b ∈ T then some (.tbl #[]) else if b = a ∧ own = true then some (.frz O (.lst xs)) else none
theorem hpL_cases {T : List Addr} {a b : Addr} {O : Obj} {xs : List V} {own : Bool} {u : HO} (h : hpL T a O xs own b = some u) : (b ∈ T ∧ u = .tbl #[]) ∨ (b = a ∧ own = true ∧ u = .frz O (.lst xs)) := by
  unfold hpL at h
  split at h
  · rename_i z
    cases h
    exact .inl ⟨z, rfl⟩
  · split at h
    · rename_i z
      cases h
      exact .inr ⟨z.1, z.2, rfl⟩
    · cases h
theorem hpL_tab {T : List Addr} {a b : Addr} {O : Obj} {xs : List V} {own : Bool} (h : b ∈ T) : hpL T a O xs own b = some (.tbl #[]) := by
  unfold hpL
  rw [if_pos h]
theorem hpL_scr {T : List Addr} {a : Addr} {O : Obj} {xs : List V} (h : a ∉ T) : hpL T a O xs true a = some (.frz O (.lst xs)) := by
  unfold hpL
  rw [if_neg h, if_pos ⟨rfl, rfl⟩]
abbrev lsO (vs : List Value) : Obj := { cls := .type "list", data := .seq vs.toArray }
abbrev emO : Obj := { cls := .none, data := .fields #[] }
section
variable {P : Program} {w : World} {K : PySem.W.Frag} {mg mb : Str → Option Value} {k : Nat} {fa a : Addr} {cs : List (Addr × Addr)} {fd : FuncData} {x : Str} {sp : Sp} {s : Shared} {vs : List Value} {ns : List Int}
/-- what is asked of the heap -/
structure AtL (K : PySem.W.Frag) (mg mb : Str → Option Value) (cs : List (Addr × Addr)) (a : Addr) (vs : List Value) (s : Shared) : Prop where
  k : K.In s.heap
  g : s.heap.Ns mainGlobals mg
  b : s.heap.Ns builtinsNs mb
  bb : ∀ z : Str, z ≠ "__name__" → mb z = bootBuiltins z
  lim : s.heap.NoLimit
  gens : s.gens = #[]
  tab : ∀ q ∈ cs, s.heap.get? q.2 = some emO
  out : ∀ q ∈ cs, K.lookup q.2 = none
  hd : ∀ q ∈ cs, PySem.W.CodeHd s.heap q.1 q.2
  bm : ∃ (m : Addr) (om : Obj), mg "__builtins__" = some (.ref m) ∧ m ≠ builtinsNs ∧ s.heap.get? m = some om ∧ om.cls = .type "module" ∧ om.dict = some builtinsNs ∧ om.data = .plain
  scr : s.heap.get? a = some (lsO vs)
theorem AtL.isT (L : AtL K mg mb cs a vs s) {b : Addr} (h : b ∈ cs.map (·.2)) : s.heap.get? b = some emO := by
  obtain ⟨q, hq, rfl⟩ := List.mem_map.mp h
  exact L.tab q hq
theorem AtL.notT (L : AtL K mg mb cs a vs s) : a ∉ cs.map (·.2) := fun z => by
  have e := (L.isT z).symm.trans L.scr
  cases e
/-- an object of another kind isn't in the heap that is told -/
theorem AtL.free (L : AtL K mg mb cs a vs s) {own : Bool} {xs : List V} {b : Addr} {o : Obj} (e : s.heap.get? b = some o) (h1 : ∀ v n, o.data ≠ .seq v n) (h2 : o.data ≠ .fields #[]) : hpL (cs.map (·.2)) a (lsO vs) xs own b = none := by
  cases q : hpL (cs.map (·.2)) a (lsO vs) xs own b with
  | none => rfl
  | some u =>
    rcases hpL_cases q with ⟨z, _⟩ | ⟨z, _, _⟩
    · rw [L.isT z] at e
      cases e
      exact (h2 rfl).elim
    · rw [z, L.scr] at e
      cases e
      exact (h1 _ _ rfl).elim
theorem AtL.hok (L : AtL K mg mb cs a vs s) {own : Bool} (hi : IntsAre vs ns) (hl : ns.length ≤ sizeLine) : HOk P w (hpL (cs.map (·.2)) a (lsO vs) (ns.map V.int) own) s.heap := fun b u e => by
  rcases hpL_cases e with ⟨z, rfl⟩ | ⟨rfl, _, rfl⟩
  · exact L.isT z
  · exact ⟨L.scr, by rw [List.length_map]; exact hl, vs, _, vals_ints hi, L.scr⟩
theorem AtL.env (L : AtL K mg mb cs a vs s) {own : Bool} (hi : IntsAre vs ns) (hl : ns.length ≤ sizeLine) (ho : own = true → K.lookup a = none) :
    Env0 P w K mg (hidT s.heap (hpL (cs.map (·.2)) a (lsO vs) (ns.map V.int) own)) callerA [] s (hpL (cs.map (·.2)) a (lsO vs) (ns.map V.int) own) ∧ ∀ q ∈ cs, LamX.TabB (hidT s.heap (hpL (cs.map (·.2)) a (lsO vs) (ns.map V.int) own)) mg q.1 q.2 := by
  have there : ∀ {b : Addr} {o : Obj}, s.heap.get? b = some o → hpL (cs.map (·.2)) a (lsO vs) (ns.map V.int) own b = none → (hidT s.heap (hpL (cs.map (·.2)) a (lsO vs) (ns.map V.int) own)).get? b = some o := fun e n => hidT_get e n
  have names : ∀ {b : Addr} {m : Str → Option Value}, s.heap.Ns b m → (hidT s.heap (hpL (cs.map (·.2)) a (lsO vs) (ns.map V.int) own)).Ns b m := fun {b m} ⟨o, es, ep, e, d, r⟩ =>
    ⟨o, es, ep, there e (L.free e (fun v n z => by rw [d] at z; cases z) fun z => by rw [d] at z; cases z), d, r⟩
  have kin : K.In (hidT s.heap (hpL (cs.map (·.2)) a (lsO vs) (ns.map V.int) own)) := fun b o e => there (L.k b o e) (by
    cases q : hpL (cs.map (·.2)) a (lsO vs) (ns.map V.int) own b with
    | none => rfl
    | some u =>
      rcases hpL_cases q with ⟨z, _⟩ | ⟨rfl, z, _⟩
      · obtain ⟨t, ht, rfl⟩ := List.mem_map.mp z
        rw [L.out t ht] at e
        cases e
      · rw [ho z] at e
        cases e)
  refine ⟨⟨rfl, ⟨kin, names L.g, ⟨mb, names L.b, L.bb⟩, ?_⟩, fun b o e => of_hidT e, Nat.le_of_eq (hidT_size _ _), trivial, fun b z => (by cases z), L.hok hi hl, .of_eq L.gens⟩, fun q hq => ⟨?_, ?_, fun z => ?_⟩⟩
  · obtain ⟨mc, q1, q2⟩ := L.lim
    exact ⟨mc, names q1, q2⟩
  · obtain ⟨o, us, file, tf, flags, tg, inF, text, tt, e1, r1, r2, r3, rest⟩ := L.hd q hq
    refine ⟨o, us, file, tf, flags, tg, inF, text, tt, there e1 (L.free e1 (fun v n z => ?_) fun z => ?_), r1, r2, r3, rest⟩
    · rw [r2] at z
      cases z
    · rw [r2] at z
      cases z
      simp at r3
  · obtain ⟨m, om, b1, b2, b3, b4, b5, b6⟩ := L.bm
    refine ⟨m, om, b1, b2, fun z => ?_, fun z => ?_, there b3 (L.free b3 (fun v n z => ?_) fun z => ?_), b4, b5, b6⟩
    · obtain ⟨o, es, ep, e, d, _⟩ := L.g
      rw [z, e] at b3
      cases b3
      rw [d] at b6
      cases b6
    · rw [z, L.tab q hq] at b3
      cases b3
      cases b6
    · rw [b6] at z
      cases z
    · rw [b6] at z
      cases z
  · obtain ⟨o, es, ep, e, d, _⟩ := L.g
    rw [z, L.tab q hq] at e
    cases e
    cases d

/-- THE LAW'S CALL -/
theorem run_law (L : AtL K mg mb cs a vs s) (hi : IntsAre vs ns) (hl : ns.length ≤ sizeLine) (hr : Room k callerA)
    (F : ∀ base : Heap, K.In base → base.Ns mainGlobals mg → (∀ q ∈ cs, LamX.TabB base mg q.1 q.2) → ∃ fd, FnX true P w K mg base (L2.CX P w) k fa fd [x] sp ∧ Binds K fd [x] [])
    (hsp : ∀ H : Hp, (∀ q ∈ cs, H q.2 = some (.tbl #[])) → SqL K H a (ns.map V.int) → sp [.ref a] H (fun v _ => v = .bl true) fun _ _ _ => False) :
    codeAny (model P w) callerA (.call (.ref fa) ⟨[.ref a], []⟩) (fun r s' => r = .ok (.ret (.bool true)) ∧ OldK s.heap s'.heap ∧ s'.os = s.os ∧ AllBare s'.gens) s := by
  obtain ⟨own, hown, hS⟩ : ∃ own : Bool, (own = true → K.lookup a = none) ∧ SqL K (hpL (cs.map (·.2)) a (lsO vs) (ns.map V.int) own) a (ns.map V.int) := by
    cases e : K.lookup a with
    | none => exact ⟨true, fun _ => rfl, .inl (.inr ⟨lsO vs, hpL_scr L.notT⟩)⟩
    | some o =>
      have z := L.k a o e
      rw [L.scr] at z
      cases z
      exact ⟨false, (fun z => by cases z), .inr ⟨_, vs.toArray, _, e, rfl, rfl, rfl, by rw [List.size_toArray, hi.length]; exact hl, by simpa using vals_ints hi⟩⟩
  obtain ⟨e0, TB⟩ := L.env (P := P) (w := w) hi hl hown
  have hT : ∀ q ∈ cs, hpL (cs.map (·.2)) a (lsO vs) (ns.map V.int) own q.2 = some (.tbl #[]) := fun q hq => hpL_tab (List.mem_map.mpr ⟨q, hq, rfl⟩)
  obtain ⟨fd, hF, hB⟩ := F _ e0.mod.kin e0.mod.glob TB
  refine codeAny_mono (hF.run callerA [] s _ ⟨[.ref a], []⟩ [.ref a] [.ref a] _ _ (fun _ => rfl) hr e0 (hB s [.ref a] L.k rfl) (.cons rfl .nil) (hsp _ hT hS)) fun r s' h => ?_
  rcases r with e | fl
  · obtain ⟨_, _, _, _, _, _, _, _, _, _, _, _, z⟩ := h
    exact z.elim
  cases fl with
  | next => exact (show False from h).elim
  | brk => exact (show False from h).elim
  | cont => exact (show False from h).elim
  | ret u =>
    obtain ⟨v, H', os, bare, un, ok', rv, qv⟩ := h
    replace qv : v = .bl true := qv
    subst qv
    obtain rfl : u = Value.bool true := rv
    have same : ∀ b o, b ∉ cs.map (·.2) → s.heap.get? b = some o → s'.heap.get? b = some o := fun b o nb e => by
      cases q : hpL (cs.map (·.2)) a (lsO vs) (ns.map V.int) own b with
      | none => exact un.keep b o e q (by intro z; cases z) (by simp)
      | some u =>
        rcases hpL_cases q with ⟨z, _⟩ | ⟨rfl, _, rfl⟩
        · exact (nb z).elim
        · have t := un.frzs _ _ _ q
          have t2 := (ok' _ _ t).1
          rw [L.scr] at e
          cases e
          exact t2
    have more : ∀ q ∈ cs, ∃ m : Array Value, s'.heap.get? q.2 = some { cls := .none, data := .fields m } := fun q hq => by
      obtain ⟨m, z⟩ := un.tbls q.2 #[] (hT q hq)
      exact ⟨_, ok' q.2 _ z⟩
    refine ⟨rfl, ⟨fun b o e => ?_, fun b o e => ?_⟩, os, bare⟩
    · by_cases hb : b ∈ cs.map (·.2)
      · obtain ⟨q, hq, rfl⟩ := List.mem_map.mp hb
        obtain ⟨m, hm⟩ := more q hq
        rw [L.tab q hq] at e
        cases e
        exact .inr (.inl ⟨((L.hd q hq).tab (L.tab q hq)).isCodeTable, rfl, #[], m, rfl, by rw [Array.empty_append]; exact hm⟩)
      · exact .inl (same b o hb e)
    · by_cases hb : b ∈ cs.map (·.2)
      · obtain ⟨q, hq, rfl⟩ := List.mem_map.mp hb
        obtain ⟨m, hm⟩ := more q hq
        exact ⟨_, hm⟩
      · exact ⟨o, same b o hb e⟩
end
/-- a law: its head's facts, its def's promise -/
theorem walk_law {l : PySem.W.OpenLaw} {n k : Nat} {q : Program} {loose : List Str} {XP : (Str → Option Value) → Heap → Prop} {YP : World → Heap → Prop} {d : DefRec} {x : Str} (hn : l.most = some n) (hn2 : n ≤ sizeLine) (hdf : d.params.defaults = []) (hr : Room k callerA)
    (F : ∀ (w : World) (mg : Str → Option Value) (fa : Addr) (h : Heap), YP w h → h.Ns mainGlobals mg → mg d.name = some (.ref fa) → ∃ (K : PySem.W.Frag) (cs : List (Addr × Addr)) (sp : Sp), K.In h ∧ (∀ p ∈ cs, h.get? p.2 = some emO) ∧ (∀ p ∈ cs, K.lookup p.2 = none) ∧
      (∀ p ∈ cs, PySem.W.CodeHd h p.1 p.2) ∧
      (∀ (H : Hp) (a : Addr) (ns : List Int), ns.length ≤ n → (∀ p ∈ cs, H p.2 = some (.tbl #[])) → SqL K H a (ns.map V.int) → sp [.ref a] H (fun v _ => v = .bl true) fun _ _ _ => False) ∧
      ∀ base : Heap, K.In base → base.Ns mainGlobals mg → (∀ p ∈ cs, LamX.TabB base mg p.1 p.2) → ∃ fd, FnX true l.prog w K mg base (L2.CX l.prog w) k fa fd [x] sp ∧ Binds K fd [x] []) :
    PySem.W.WalkO q loose XP YP l.row.toRowW d [] (fun f vs => PySem.call f vs) := by
  refine Att.attach_callB hn hdf fun w s₀ s₁ mg mb fa o pm cd doc a vs ns G Y ho hd hcd hmg hobj hints hlen hbits hg => ?_
  obtain ⟨K, cs, sp, KX, hT, hO, hC, hsp, hF⟩ := F w mg fa _ Y G.T.g hmg
  exact run_law ⟨KX, G.T.g, G.T.b, G.T.builtins, G.T.nolimit, hg, hT, hO, hC, G.T.bmain, hobj⟩ hints (Nat.le_trans hlen hn2) hr hF fun H hH hS => hsp H a ns hlen hH hS
end MI

set_option Elab.async false
set_option linter.all false
set_option maxRecDepth 100000
set_option maxHeartbeats 1000000
/-! MI: what the head tells, by tables. -/
namespace MI
open PySem PySem.Spec L2
open PyProof.Rows hiding St

/-! ### constants -/
def all2 {α β : Type} (f : α → β → Bool) : List α → List β → Bool
  | [], [] => true
  | a :: as, b :: bs => f a b && all2 f as bs
  | _, _ => false
def datB (K : PySem.W.Frag) : Nat → Value → PyData → Bool
  | 0, _, _ => false
  | _ + 1, .none, .none => true
  | _ + 1, .bool b, .bool c => b == c
  | _ + 1, .int i _, .int j => decide (i = j)
  | _ + 1, .str x _, .str y => decide (x = y)
  | n + 1, .ref a, .tuple ds => match K.lookup a with
    | some ⟨.type c, _, .seq its _, _⟩ => decide (c = "tuple") && (decide (its.size ≤ sizeLine) && all2 (datB K n) its.toList ds)
    | _ => false
  | _, _, _ => false
section
variable {P : Program} {w : World} {K : PySem.W.Frag}
theorem all2_ok {f : Value → PyData → Bool} (hf : ∀ u d, f u d = true → ∃ v, RelV v u ∧ ∀ H, Rp P w K H v d) : ∀ {us : List Value} {ds : List PyData}, all2 f us ds = true → ∃ vs, Vals vs us ∧ ∀ H, RpA P w K H vs ds
  | [], [], _ => ⟨[], .nil, fun _ => .nil⟩
  | [], _ :: _, h => by cases h
  | _ :: _, [], h => by cases h
  | u :: us, d :: ds, h => by
    unfold all2 at h
    rw [Bool.and_eq_true] at h
    obtain ⟨v, r1, r2⟩ := hf u d h.1
    obtain ⟨vs, q1, q2⟩ := all2_ok hf h.2
    exact ⟨v :: vs, .cons r1 q1, fun H => .cons (r2 H) (q2 H)⟩
theorem datB_ok : ∀ (n : Nat) (u : Value) (d : PyData), datB K n u d = true → ∃ v, RelV v u ∧ ∀ H, Rp P w K H v d := by
  intro n
  induction n with
  | zero => intro u d h; cases h
  | succ n ih =>
    intro u d h
    unfold datB at h
    split at h
    · cases h
    · exact ⟨.non, rfl, fun _ => .non⟩
    · rename_i b c _
      have e : b = c := by simpa using h
      exact ⟨.bl b, rfl, fun _ => e ▸ .bl b⟩
    · rename_i i t j _
      have e : i = j := of_decide_eq_true h
      exact ⟨.int i, ⟨t, rfl⟩, fun _ => e ▸ .int i⟩
    · rename_i x t y _
      have e : x = y := of_decide_eq_true h
      exact ⟨.str x, ⟨t, rfl⟩, fun _ => e ▸ .str x⟩
    · rename_i m a ds hm
      cases hm
      split at h
      · rename_i c od its nn sl e
        rw [Bool.and_eq_true, Bool.and_eq_true] at h
        obtain ⟨h1, h2, h3⟩ := h
        obtain ⟨vs, q1, q2⟩ := all2_ok (ih) h3
        exact ⟨.ref a, rfl, fun H => .tup (.inr ⟨_, its, nn, e, congrArg Value.type (of_decide_eq_true h1), rfl, of_decide_eq_true h2, q1⟩) (q2 H)⟩
      · cases h
    · cases h
end
/-! ### tables -/
structure HT where
  nm : List Str
  st : Nat → Stmt
  sc : Nat → SC
  sigs : List Sig
  fns : List (Str × Nat)
  cons : List (Str × Nat)
  conD : List PyData
  free : List Str
  exn : List (Str × Nat × Bool)
  nov : List Nat
  sub : Nat → Nat → Bool
  fld : Str
  pm : Prog
  keep : PySem.W.Frag → Str → Bool
  /-- the defs that make lambdas -/
  lamd : List Str
  /-- the defs that call what they get -/
  trs : List Str
  /-- classes' own defs -/
  more : List He.DefD
  /-- lambdas that are values, with their numbers -/
  lams : List (LamD × Nat)
  lsc : Nat → SC
  /-- the names under which the defs stand at the end -/
  an : List Str
namespace HT
variable (T : HT)
def name (g : Nat) : Str := T.nm.getD g ""
def atn (g : Nat) : Str := T.an.getD g ""
def kwoOf (g : Nat) : List (Str × PyData) := match T.sigs[g]? with
  | some sg => sg.kwo
  | none => []
def dOf (g : Nat) : He.DefD := ⟨(T.atn g, none), T.name g, T.name g, defArgs (T.st g), defBody (T.st g), defScope (T.st g), [], (T.kwoOf g).map fun q => (q.1, toDv q.2)⟩
def fn : List He.DefD := (List.range T.nm.length).map T.dOf ++ T.more
def adr (K : PySem.W.Frag) (g : Nat) : Option Addr := if g < T.nm.length then some (He.ga K (T.atn g)) else none
def cls (K : PySem.W.Frag) (cid : Nat) : Option (Addr × Option Str) := match T.exn.find? fun p => p.2.1 == cid with
  | some (x, _, keeps) => some (He.ga K x, if keeps then some T.fld else none)
  | none => none
def lamN (x : Str) : Str := (envOfC x ⟨.function, [], false, false, []⟩ 0 0 .none).qual ++ "<lambda>"
def tf : List He.Defn := T.lamd.map fun x => (x, none)
def tabs (K : PySem.W.Frag) : List (Addr × Str) := T.lamd.map fun x => ((He.cT K (x, none)).2, lamN x)
def laOf (g : Nat) : Option LamD := (T.lams.find? fun d => d.2 == g).map (·.1)
def phi (K : PySem.W.Frag) : Fx := ⟨fun g => if T.nov.contains g then none else T.adr K g, T.cls K, T.tabs K, T.adr K, T.laOf⟩
def S (g : Nat) : Option Sig := T.sigs[g]?
/-- own facts of the written part -/
def ex (K : PySem.W.Frag) : Bool :=
  (T.fns.all fun p => decide (PySem.W.nsIn K mainGlobals p.1 = some (some (.ref (He.ga K (T.atn p.2)))))) &&
  ((T.cons.all fun p => match PySem.W.nsIn K mainGlobals p.1 with
    | some (some u) => datB K 9 u (T.conD.getD p.2 .none)
    | _ => false) &&
  ((T.free.all fun x => decide (PySem.W.nsIn K mainGlobals x = some none)) &&
  ((T.exn.all fun p => decide (PySem.W.nsIn K mainGlobals p.1 = some (some (.ref (He.ga K p.1)))) && (if p.2.2 then T.keep K p.1 else (He.Fa.exc p.1).ok K)) &&
  ((T.exn.all fun p => T.exn.all fun q => decide (PySem.W.exmOne K (.ref (He.ga K p.1)) (.ref (He.ga K q.1)) = some (T.sub p.2.1 q.2.1))) &&
  (((T.tabs K).all fun p => (T.tabs K).all fun q => !decide (p.1 = q.1) || decide (p.2 = q.2)) &&
  (T.trs.all fun x => decide (PySem.W.nsIn K mainGlobals x = some (some (.ref (He.ga K x))))))))))
def scB (N ps : List Str) (sc : Scope) : Bool := decide (sc.kind = .function) && (!sc.isCoroutine && (!sc.isGenerator && (decide N.Nodup && (decide (N.take ps.length = ps) &&
  ((ps.all fun x => decide (sc.names.lookup x = some .local) || decide (sc.names.lookup x = some .cell)) && (sc.names.all fun y => !decide (y.2 = .free)))))))
def ok1 (g : Nat) : Bool := match T.sigs[g]?, T.pm.fns[g]? with
  | some sg, some fn => plainK (defArgs (T.st g)) sg.ps sg.kwo && (scB (T.sc g).N sg.ps (defScope (T.st g)) && (decide (fn.np = sg.ps.length) && (decide (fn.ns = (T.sc g).N.length) && (decide (fn.br = sg.br) && (decide sg.ps.Nodup && (!(T.sc g).rep || sg.gd))))))
  | _, _ => false
def ok : Bool := decide (T.sigs.length = T.nm.length) && ((T.fns.all fun p => decide (p.2 < T.nm.length)) && ((T.cons.all fun p => decide (p.2 < T.conD.length)) &&
  ((T.exn.all fun p => decide (T.exn.find? (fun q => q.2.1 == p.2.1) = some p) && !decide (p.1 = "__debug__")) && ((T.exn.all fun p => T.exn.all fun q => !q.2.2 || !T.sub p.2.1 q.2.1 || decide (p.2.1 = q.2.1)) &&
  (((List.range T.nm.length).all fun g => T.nov.contains g || match T.sigs[g]? with
    | some sg => !sg.gd
    | none => false) && ((List.range T.nm.length).all T.ok1))))))
end HT
/-- what is plain to see of a lambda that is a value -/
structure LamOk (T : HT) (g : Nat) (D : LamD) : Prop where
  ex : ∃ (m : ME) (ps : List Str) (n : Nat), T.pm.fns[g]? = some ⟨ps.length, ps.length, false, [.ret m]⟩ ∧ FnScope (T.lsc g).N ps D.scope ∧ plainA D.params ps = true ∧ ps.Nodup ∧ (T.lsc g).N.length = ps.length ∧ comp T.S n (T.lsc g) D.body = some m
  sc : (T.lsc g).sc = D.scope ∧ (T.lsc g).rep = false ∧ (T.lsc g).trys = [] ∧ (T.lsc g).cons = T.cons ∧ (T.lsc g).fns = T.fns ∧ (T.lsc g).free = T.free ∧ (T.lsc g).nov = T.nov
/-- the lambdas of the def of number g -/
def LamsOf (T : HT) (g : Nat) : Prop := (T.sc g).lams = [] ∨ (T.name g ∈ T.lamd ∧ T.atn g = T.name g) ∧ ∀ D n, (D, n) ∈ (T.sc g).lams → T.laOf n = some D ∧ D.q = HT.lamN (T.name g) ∧ ∀ y ∈ D.scope.names, y.2 ≠ .free
theorem lookup_in {α β : Type} [BEq α] [LawfulBEq α] {x : α} {y : β} : ∀ {l : List (α × β)}, l.lookup x = some y → (x, y) ∈ l
  | [], h => by cases h
  | (a, b) :: l, h => by
    rw [List.lookup_cons] at h
    split at h
    · rename_i e
      cases h
      rw [beq_iff_eq] at e
      rw [e]
      exact List.mem_cons_self
    · exact List.mem_cons_of_mem _ (lookup_in h)
theorem scB_ok {N ps : List Str} {sc : Scope} (h : HT.scB N ps sc = true) : FnScope N ps sc := by
  unfold HT.scB at h
  simp only [Bool.and_eq_true, decide_eq_true_eq, Bool.not_eq_true', List.all_eq_true, Bool.or_eq_true, decide_eq_false_iff_not] at h
  obtain ⟨h1, h2, h3, h4, h5, h6, h7⟩ := h
  exact ⟨h1, h2, h3, h4, h5, h6, h7⟩
section
variable {T : HT} {P : Program} {w : World} {K : PySem.W.Frag} {mg : Str → Option Value} {h : Heap} {base : Heap}
theorem HT.globs (hx : T.ex K = true) (hk : T.ok = true) (X : K.In h) (G : h.Ns mainGlobals mg) (hp : T.pm.cons = T.conD) {c : SC} (e1 : c.cons = T.cons) (e2 : c.fns = T.fns) (e3 : c.free = T.free) (e4 : c.nov = T.nov) :
    Globs P w K mg (T.phi K) T.S (fun i => T.pm.cons[i]?) c := by
  unfold HT.ex at hx
  simp only [Bool.and_eq_true, List.all_eq_true, decide_eq_true_eq] at hx
  obtain ⟨x1, x2, x3, x4, x5, x6, x7⟩ := hx
  unfold HT.ok at hk
  simp only [Bool.and_eq_true, List.all_eq_true, decide_eq_true_eq] at hk
  obtain ⟨k1, k2, k3, k4, k5, k6, k7⟩ := hk
  refine ⟨fun x i e => ?_, fun x g e f hf => ?_, fun x e => ?_, fun g f e => ?_, fun x g e hn => ?_⟩
  · rw [e1] at e
    have m := lookup_in e
    have z := x2 _ m
    have lt := k3 _ m
    split at z
    · rename_i u eu
      obtain ⟨v, r1, r2⟩ := datB_ok (P := P) (w := w) 9 u _ z
      refine ⟨v, u, _, PySem.W.mg_of X G eu, r1, ?_, r2⟩
      show T.pm.cons[i]? = some (T.conD.getD i .none)
      rw [hp]
      simp [List.getD, List.getElem?_eq_getElem lt]
    · cases z
  · rw [e2] at e
    have m := lookup_in e
    have z := x1 _ m
    have lt := k2 _ m
    have : T.adr K g = some f := hf
    unfold HT.adr at this
    rw [if_pos lt] at this
    cases this
    exact PySem.W.mg_of X G z
  · rw [e3] at e
    exact PySem.W.mg_none_of X G (x3 x (by simpa using e))
  · have : (if T.nov.contains g then none else T.adr K g) = some f := e
    split at this
    · cases this
    · rename_i hn
      refine ⟨this, ?_⟩
      unfold HT.adr at this
      split at this
      · rename_i lt
        have z := k6 g (List.mem_range.mpr lt)
        rw [Bool.or_eq_true] at z
        rcases z with z | z
        · exact (hn z).elim
        · split at z
          · rename_i sg es
            exact ⟨sg, es, by simpa using z⟩
          · cases z
      · cases this
  · rw [e2] at e
    rw [e4] at hn
    have m := lookup_in e
    have lt := k2 _ m
    refine ⟨He.ga K (T.atn g), ?_, ?_⟩
    · show (if T.nov.contains g then none else T.adr K g) = _
      rw [hn]
      unfold HT.adr
      rw [if_pos lt]
      rfl
    · show T.adr K g = _
      unfold HT.adr
      rw [if_pos lt]
theorem HT.cls_of (hk : T.ok = true) {x : Str} {cid : Nat} {b : Bool} (e : T.exn.lookup x = some (cid, b)) : T.cls K cid = some (He.ga K x, if b then some T.fld else none) := by
  unfold HT.ok at hk
  simp only [Bool.and_eq_true, List.all_eq_true, decide_eq_true_eq] at hk
  obtain ⟨k1, k2, k3, k4, k5, k6, k7⟩ := hk
  unfold HT.cls
  rw [(k4 _ (lookup_in e)).1]
theorem HT.cls_in {cid : Nat} {C : Addr} {z : Option Str} (e : T.cls K cid = some (C, z)) : ∃ x b, (x, cid, b) ∈ T.exn ∧ C = He.ga K x ∧ z = if b then some T.fld else none := by
  unfold HT.cls at e
  split at e
  · rename_i x c b ef
    cases e
    have m := List.mem_of_find?_eq_some ef
    have q := List.find?_some ef
    have : c = cid := by simpa using q
    exact ⟨x, b, this ▸ m, rfl, rfl⟩
  · cases e
/-- plain exceptions -/
theorem HT.raises (hx : T.ex K = true) (hk : T.ok = true) (X : K.In h) (G : h.Ns mainGlobals mg) {Y : Cx} (eK : Y.K = K) (em : Y.mg = mg) {x : Str} {cid : Nat} (e : T.exn.lookup x = some (cid, false)) : RaisesAt Y (T.phi K) x cid false := by
  have hcl := HT.cls_of (K := K) hk e
  unfold HT.ex at hx
  simp only [Bool.and_eq_true, List.all_eq_true, decide_eq_true_eq] at hx
  obtain ⟨x1, x2, x3, x4, x5, x6, x7⟩ := hx
  have z := x4 _ (lookup_in e)
  unfold HT.ok at hk
  simp only [Bool.and_eq_true, List.all_eq_true, decide_eq_true_eq] at hk
  obtain ⟨k1, k2, k3, k4, k5, k6, k7⟩ := hk
  have nd := (k4 _ (lookup_in e)).2
  obtain ⟨z1, z2⟩ := z
  simp only [Bool.false_eq_true, if_false] at z2
  obtain ⟨q1, q2, q3, q4⟩ := He.exc_ok z2
  subst eK em
  exact ⟨He.ga Y.K x, hcl, fun m j p p2 pos hg => pmk_own PySem.F.excBase_ValueError q1 (PySem.W.mg_of X G z1) q2 (raises_own q3 q4) hg (by simpa using nd)⟩
theorem HT.lamsAt (hx : T.ex K = true) (hTB : ∀ y ∈ T.lamd, LamX.TabB base mg (He.cT K (y, none)).1 (He.cT K (y, none)).2) {g : Nat} (hy : T.name g ∈ T.lamd) (han : T.atn g = T.name g) {lams : List (LamD × Nat)} (z : ∀ D n, (D, n) ∈ lams → T.laOf n = some D ∧ D.q = HT.lamN (T.name g) ∧ ∀ y ∈ D.scope.names, y.2 ≠ .free)
    {N : List Str} {scope : Scope} {cdv : Value} {A : Around} {outer : List Env} {s : Shared} {H : Hp} {E : XK} (hl : ∃ oc od dV kV doc pm an ct osl, K.lookup (He.ga K (T.atn g)) = some ⟨oc, od, .func (PySem.W.fnOf (T.name g) (T.name g) (defArgs (T.st g)) (defBody (T.st g)) (defScope (T.st g)) dV kV doc pm an cdv ct), osl⟩)
    (hcd : PySem.W.codeIn K cdv (T.name g) = true) : LamsAt (cxOf (L2.CX P w) P w K mg base N (T.name g) scope (He.ga K (T.atn g)) cdv A outer s H E) (T.phi K) lams := by
  rw [han] at hl ⊢
  obtain ⟨oc2, od2, dV2, kV2, doc2, pm2, an2, ct2, osl2, lk2⟩ := hl
  obtain ⟨cc, hcc⟩ := He.codeIn_ref hcd
  have hcode : He.codeOf K (T.name g, none) = cc := He.codeOf_eq (p := (T.name g, none)) lk2 hcc
  unfold HT.ex at hx
  simp only [Bool.and_eq_true, List.all_eq_true, decide_eq_true_eq] at hx
  obtain ⟨x1, x2, x3, x4, x5, x6, x7⟩ := hx
  refine ⟨⟨(He.cT K (T.name g, none)).1, (He.cT K (T.name g, none)).2, hTB _ hy, ?_, List.mem_map.mpr ⟨T.name g, hy, rfl⟩, fun p hp e => ?_⟩, fun D n m => z D n m⟩
  · show cdv = .ref (He.codeOf K (T.name g, none))
    rw [hcc, hcode]
  · have q := x6 p hp _ (List.mem_map.mpr ⟨T.name g, hy, rfl⟩)
    simp only [Bool.or_eq_true, Bool.not_eq_true', decide_eq_true_eq, decide_eq_false_iff_not] at q
    rcases q with q | q
    · exact (q e).elim
    · exact q
/-- every lambda of the tables -/
theorem HT.lamDefs (hx : T.ex K = true) (hk : T.ok = true) (X : K.In h) (G : h.Ns mainGlobals mg) (hp : T.pm.cons = T.conD) (hd : ∀ g D, T.laOf g = some D → LamOk T g D) : ∀ g D, (T.phi K).la g = some D → LamDef P w K mg (T.phi K) T.S T.pm g D := by
  intro g D e
  obtain ⟨⟨m, ps, n, q1, q2, q3, q4, q5, q6⟩, s1, s2, s3, s4, s5, s6, s7⟩ := hd g D e
  exact ⟨m, ps, T.lsc g, n, q1, q2, q3, q4, q5, q6, s1, s2, s3, HT.globs hx hk X G hp s4 s5 s6 s7⟩
/-- EVERY DEF OF THE TABLES -/
theorem HT.defs {fa : List He.Fa} {n l : Nat} (c : He.SaysD fa T.fn K) (hx : T.ex K = true) (hk : T.ok = true) (X : K.In h) (G : h.Ns mainGlobals mg) (hp : T.pm.cons = T.conD)
    (hc : ∀ g, g < T.nm.length → ∃ fn, T.pm.fns[g]? = some fn ∧ compL (orBad (compS T.S n l (T.sc g))) (defBody (T.st g)) = some fn.body)
    (hs : ∀ g, (T.sc g).cons = T.cons ∧ (T.sc g).fns = T.fns ∧ (T.sc g).free = T.free ∧ (T.sc g).nov = T.nov ∧ (T.sc g).exn = T.exn ∧ (T.sc g).sc = defScope (T.st g))
    (hX : ∀ (Y : Cx) (y : Str) (cid : Nat), Y.K = K → Y.mg = mg → Room 1 Y.A → T.exn.lookup y = some (cid, true) → RaisesAt Y (T.phi K) y cid true)
    (hT : ∀ g, (T.sc g).trys = [] ∨ ∀ (cdv : Value) (A : Around) (outer : List Env) (s : Shared) (H : Hp) (E : XK), (∃ oc od dV kV doc pm an ct osl, K.lookup (He.ga K (T.atn g)) = some ⟨oc, od, .func (PySem.W.fnOf (T.name g) (T.name g) (defArgs (T.st g)) (defBody (T.st g)) (defScope (T.st g)) dV kV doc pm an cdv ct), osl⟩) → PySem.W.codeIn K cdv (T.name g) = true →
      ∀ y tag hs, (T.sc g).trys.lookup y = some (tag, hs) → ∃ t, tag = .str t ∧ TryAt (cxOf (L2.CX P w) P w K mg base (T.sc g).N (T.name g) (defScope (T.st g)) (He.ga K (T.atn g)) cdv A outer s H E) (T.phi K) T.pm.sub y t hs)
    (hTB : ∀ y ∈ T.lamd, LamX.TabB base mg (He.cT K (y, none)).1 (He.cT K (y, none)).2) (hL : ∀ g, LamsOf T g) :
    ∀ g sg, T.S g = some sg → DefAt P w K mg base (T.phi K) T.S T.pm g sg := by
  intro g sg hg
  have hg' : T.sigs[g]? = some sg := hg
  have hk0 := hk
  have hx0 := hx
  unfold HT.ok at hk
  simp only [Bool.and_eq_true, List.all_eq_true, decide_eq_true_eq] at hk
  obtain ⟨k1, k2, k3, k4, k5, k6, k7⟩ := hk
  have lt : g < T.nm.length := by
    rw [← k1]
    exact (List.getElem?_eq_some_iff.mp hg').1
  obtain ⟨fn, f1, f2⟩ := hc g lt
  have ok1 := k7 g (List.mem_range.mpr lt)
  unfold HT.ok1 at ok1
  rw [hg', f1] at ok1
  dsimp only at ok1
  simp only [Bool.and_eq_true, decide_eq_true_eq] at ok1
  obtain ⟨o1, o2, o3, o4, o5, o6, o7⟩ := ok1
  obtain ⟨s1, s2, s3, s4, s5, s6⟩ := hs g
  have mem : T.fn[g]? = some (T.dOf g) := by
    unfold HT.fn
    rw [List.getElem?_append_left (by simpa using lt), List.getElem?_map, List.getElem?_range lt]
    rfl
  obtain ⟨fd, F⟩ := c.def_ g (d := T.dOf g) mem
  have ekw : (T.dOf g).kws K = sg.kwo.map fun q => (q.1, (toDv q.2).v K) := by
    show ((T.kwoOf g).map fun q => (q.1, toDv q.2)).map (fun q => (q.1, q.2.v K)) = _
    unfold HT.kwoOf
    rw [hg', List.map_map]
    rfl
  rw [ekw] at F
  replace F : FunD K (T.name g) (T.name g) (defArgs (T.st g)) (defBody (T.st g)) (defScope (T.st g)) [] (sg.kwo.map fun q => (q.1, (toDv q.2).v K)) (He.ga K (T.atn g)) fd := F
  have B : KwB P w K fd sg.ps sg.kwo := kwB_of o1 o6 F
  have ha : (T.phi K).fc g = some (He.ga K (T.atn g)) := by
    show T.adr K g = _
    unfold HT.adr
    rw [if_pos lt]
  refine ⟨He.ga K (T.atn g), fd, fn, T.sc g, T.name g, _, _, _, n, l, ha, ⟨_, F⟩, B, scB_ok o2, s6, f1, f2, o3, o4, o5, HT.globs hx hk0 X G hp s1 s2 s3 s4, fun e => ?_, fun cdv A outer s H E y cid keeps hr e => ?_, hT g, (hL g).imp id fun ⟨⟨hy, han⟩, z⟩ cdv A outer s H E hl hcd => HT.lamsAt hx0 hTB hy han z hl hcd⟩
  · rw [e] at o7
    simpa using o7
  · rw [s5] at e
    cases keeps with
    | false => exact HT.raises hx hk0 X G rfl rfl e
    | true => exact hX _ y cid rfl rfl hr e
/-! ### a def that calls what it gets -/
def tryRead (exn : List (Str × Nat × Bool)) (N : List Str) (sg : Scope) (fld : Str) : List Stmt → Option (Str × PyData × List (Nat × HR))
  | [.Try [.Return (some (.Tuple [.Constant (.str t) _ _, .Call (.Name a _) [] [] _] _ _)) _] (hd0 :: hds) [] [] _] => match hdsOf exn N sg fld (hd0 :: hds) with
    | some hs => some (a, .str t, hs)
    | none => none
  | _ => none
theorem HT.exnAt (hx : T.ex K = true) (hk : T.ok = true) (X : K.In h) (G : h.Ns mainGlobals mg) (hF : ∀ x cid, (x, cid, true) ∈ T.exn → XfC K (He.ga K x) ∧ PySem.W.findIn K (.ref (He.ga K x)) T.fld = some none) {Y : Cx} (eK : Y.K = K) (em : Y.mg = mg) : ExnAt Y (T.phi K) T.exn T.sub T.fld := by
  have hk0 := hk
  unfold HT.ex at hx
  simp only [Bool.and_eq_true, List.all_eq_true, decide_eq_true_eq] at hx
  obtain ⟨x1, x2, x3, x4, x5, x6, x7⟩ := hx
  unfold HT.ok at hk
  simp only [Bool.and_eq_true, List.all_eq_true, decide_eq_true_eq] at hk
  obtain ⟨k1, k2, k3, k4, k5, k6, k7⟩ := hk
  subst eK em
  refine ⟨fun x k b e => ?_, fun c h C Ch kc kh e1 e2 => ?_, fun k C z e => ?_, fun c k q C z e1 e2 es => ?_⟩
  · exact ⟨_, _, HT.cls_of hk0 e, PySem.W.mg_of X G (x4 _ (lookup_in e)).1, fun hb => by rw [hb]; rfl⟩
  · obtain ⟨x, b, m, rfl, _⟩ := HT.cls_in e1
    obtain ⟨y, b', m', rfl, _⟩ := HT.cls_in e2
    exact x5 _ m _ m'
  · obtain ⟨x, b, m, rfl, hz⟩ := HT.cls_in e
    cases b with
    | false => cases hz
    | true =>
      cases hz
      exact ⟨rfl, hF x k m⟩
  · obtain ⟨q1, q2⟩ := q
    obtain ⟨x, b, m, rfl, hz⟩ := HT.cls_in e2
    obtain ⟨y, b', m', rfl, _⟩ := HT.cls_in e1
    cases b with
    | false => cases hz
    | true =>
      have z := k5 _ m' _ m
      simp only [Bool.or_eq_true, Bool.not_eq_true', decide_eq_true_eq, es, Bool.true_eq_false, or_false, false_or] at z
      exact z
theorem HT.tryAt {fa : List He.Fa} (c : He.SaysD fa T.fn K) (hx : T.ex K = true) (hk : T.ok = true) (X : K.In h) (G : h.Ns mainGlobals mg) (hF : ∀ x cid, (x, cid, true) ∈ T.exn → XfC K (He.ga K x) ∧ PySem.W.findIn K (.ref (He.ga K x)) T.fld = some none)
    (hTB : ∀ y ∈ T.lamd, LamX.TabB base mg (He.cT K (y, none)).1 (He.cT K (y, none)).2) (hsub : T.pm.sub = T.sub) {g gt : Nat} {sg : Sig} {a t : Str} {hs : List (Nat × HR)} (hy : T.name g ∈ T.lamd) (ht : T.name gt ∈ T.trs) (han : T.atn g = T.name g) (hant : T.atn gt = T.name gt) (hsg : T.sigs[gt]? = some sg) (hps : sg.ps = [a]) (hkwo : sg.kwo = [])
    (hr : tryRead T.exn (T.sc gt).N (defScope (T.st gt)) T.fld (defBody (T.st gt)) = some (a, .str t, hs)) (hv : isVis (defScope (T.st gt)) a = true) (hna : nameOk a = true) {N : List Str} {scope : Scope}
    {cdv : Value} {A : Around} {outer : List Env} {s : Shared} {H : Hp} {E : XK} (hl : ∃ oc od dV kV doc pm an ct osl, K.lookup (He.ga K (T.atn g)) = some ⟨oc, od, .func (PySem.W.fnOf (T.name g) (T.name g) (defArgs (T.st g)) (defBody (T.st g)) (defScope (T.st g)) dV kV doc pm an cdv ct), osl⟩) (hcd : PySem.W.codeIn K cdv (T.name g) = true) :
    TryAt (cxOf (L2.CX P w) P w K mg base N (T.name g) scope (He.ga K (T.atn g)) cdv A outer s H E) (T.phi K) T.pm.sub (T.name gt) t hs := by
  rw [han] at hl ⊢
  have hk0 := hk
  have hx0 := hx
  unfold HT.ex at hx
  simp only [Bool.and_eq_true, List.all_eq_true, decide_eq_true_eq] at hx
  obtain ⟨x1, x2, x3, x4, x5, x6, x7⟩ := hx
  unfold HT.ok at hk
  simp only [Bool.and_eq_true, List.all_eq_true, decide_eq_true_eq] at hk
  obtain ⟨k1, k2, k3, k4, k5, k6, k7⟩ := hk
  have lt : gt < T.nm.length := by
    rw [← k1]
    exact (List.getElem?_eq_some_iff.mp hsg).1
  have ok1 := k7 gt (List.mem_range.mpr lt)
  unfold HT.ok1 at ok1
  rw [hsg] at ok1
  split at ok1
  rotate_left
  · cases ok1
  rename_i sg' fn es ef
  cases es
  simp only [Bool.and_eq_true, decide_eq_true_eq] at ok1
  obtain ⟨o1, o2, o3, o4, o5, o6, o7⟩ := ok1
  have mem : T.fn[gt]? = some (T.dOf gt) := by
    unfold HT.fn
    rw [List.getElem?_append_left (by simpa using lt), List.getElem?_map, List.getElem?_range lt]
    rfl
  obtain ⟨fd, F⟩ := c.def_ gt (d := T.dOf gt) mem
  have ekw : (T.dOf gt).kws K = [] := by
    show ((T.kwoOf gt).map fun q => (q.1, toDv q.2)).map (fun q => (q.1, q.2.v K)) = _
    unfold HT.kwoOf
    rw [hsg]
    dsimp only
    rw [hkwo]
    rfl
  rw [ekw] at F
  replace F : FunD K (T.name gt) (T.name gt) (defArgs (T.st gt)) (defBody (T.st gt)) (defScope (T.st gt)) [] [] (He.ga K (T.atn gt)) fd := F
  have B : Binds K fd sg.ps [] := (kwB_of (P := P) (w := w) (kwo := []) (by rw [← hkwo]; exact o1) o6 F).all rfl
  have Sc := scB_ok o2
  rw [hps] at B Sc
  have kp := F.kp
  obtain ⟨oc, od, dV, kV, doc, pm, an, cdg, ct, osl, rfl, lk, hcg, _, _⟩ := F.ex
  obtain ⟨oc2, od2, dV2, kV2, doc2, pm2, an2, ct2, osl2, lk2⟩ := hl
  obtain ⟨cc, hcc⟩ := He.codeIn_ref hcd
  have hcode : He.codeOf K (T.name g, none) = cc := He.codeOf_eq (p := (T.name g, none)) lk2 hcc
  have hN0 : (T.sc gt).N[0]? = some a := by
    have z := Sc.pre
    cases q : (T.sc gt).N with
    | nil => rw [q] at z; cases z
    | cons b r =>
      rw [q] at z
      simp at z
      rw [z]
      rfl
  unfold tryRead at hr
  split at hr
  rotate_left
  · cases hr
  rename_i t' j p0 a' p1 p2 kt pt p3 hd0 hds p8 eb
  split at hr
  rotate_left
  · cases hr
  rename_i hs' eh
  cases hr
  have E0 := HT.exnAt hx0 hk0 X G hF (Y := cxOf (L2.CX P w) P w K mg base N (T.name g) scope (He.ga K (T.name g)) cdv A outer s H E) rfl rfl
  rw [hsub]
  have hG := tries_give (x := T.name gt) (q := (cxOf (L2.CX P w) P w K mg base N (T.name g) scope (He.ga K (T.name g)) cdv A outer s H E).env.qual ++ "<lambda>") (g := He.ga K (T.atn gt)) (cdg := cdg) (t := t) (a := a) (j := j) (kt := kt) (p0 := p0) (p1 := p1) (p2 := p2) (pt := pt) (p3 := p3) (p8 := p8)
    E0 Sc.nd (fun f => rfl) eh
  rw [← eb] at hG
  refine ⟨⟨_, _, E0⟩, hs_ok E0 eh, He.ga K (T.atn gt), (He.cT K (T.name g, none)).1, (He.cT K (T.name g, none)).2, _, _, _, dV, kV, doc, pm, cdg, ct, oc, an, od, osl, (T.sc gt).N, a, (by rw [hant]; exact PySem.W.mg_of X G (x7 _ ht)), kp, lk, hcg, B, Sc, hN0, isVis_ok hv, hG, hTB _ hy, ?_, ?_, ?_, hna⟩
  · show cdv = .ref (He.codeOf K (T.name g, none))
    rw [hcc, hcode]
  · exact List.mem_map.mpr ⟨T.name g, hy, rfl⟩
  · intro p hp e
    have z := x6 p hp _ (List.mem_map.mpr ⟨T.name g, hy, rfl⟩)
    simp only [Bool.or_eq_true, Bool.not_eq_true', decide_eq_true_eq, decide_eq_false_iff_not] at z
    rcases z with z | z
    · exact (z e).elim
    · exact z
end
end MI

set_option Elab.async false
set_option linter.all false
set_option maxRecDepth 100000
set_option maxHeartbeats 1000000
/-! MI: the head's Hook over few addresses, the written part forced ahead of its facts. -/
namespace MI
open PySem PySem.Spec L2
open PyProof.Rows hiding St

/-- where keyword-only defaults lie -/
def kwR (o : Obj) : List Addr := match o.data with
  | .func fd => He.refV fd.kwdefaults
  | _ => []
def refsOf (g : Addr → Option Obj) (only : Obj → Bool) (as : List Addr) : List Addr := as.flatMap fun a => match g a with
  | some o => if only o then He.refsO o ++ kwR o else []
  | none => []
def isDct : Obj → Bool
  | ⟨_, _, .dict _ _, _⟩ => true
  | _ => false
def isFun : Obj → Bool
  | ⟨_, _, .func _, _⟩ => true
  | _ => false
/-- what the module's names reach: defs, classes, tuples; their codes, their tables; classes' own defs and their codes -/
def asM (g : Addr → Option Obj) : List Addr :=
  let l1 := refsOf g (fun _ => true) [mainGlobals]
  let l2 := refsOf g (fun _ => true) l1
  let l3 := refsOf g isDct l2
  let l4 := refsOf g isFun l3
  mainGlobals :: (l1 ++ (l2 ++ (l3 ++ l4)))
def frcA {α : Type} : List Addr → (List Addr → α) → α
  | [], k => k []
  | a :: r, k => HandSHeadRun.frNat a fun a => frcA r fun r => k (a :: r)
theorem frcA_eq {α : Type} : ∀ (l : List Addr) (k : List Addr → α), frcA l k = k l
  | [], _ => rfl
  | a :: r, k => by
    unfold frcA
    rw [HandSHeadRun.frNat_eq, frcA_eq r]
def frcK {α : Type} (g : Addr → Option Obj) : List Addr → (PySem.W.Frag → α) → α
  | [], k => k []
  | a :: r, k => match g a with
    | none => frcK g r k
    | some o => match He.emptyTab o with
      | true => frcK g r k
      | false => match o with
        | ⟨c, d, dt, sl⟩ => frcK g r fun K => k ((a, ⟨c, d, dt, sl⟩) :: K)
theorem frcK_eq {α : Type} (g : Addr → Option Obj) : ∀ (l : List Addr) (k : PySem.W.Frag → α), frcK g l k = k (He.frT g l)
  | [], _ => rfl
  | a :: r, k => by
    unfold frcK
    cases e : g a with
    | none =>
      dsimp only
      rw [frcK_eq g r]
      unfold He.frT He.frG
      rw [List.filterMap_cons, e]
      rfl
    | some o =>
      dsimp only
      cases z : He.emptyTab o with
      | true =>
        dsimp only
        rw [frcK_eq g r]
        unfold He.frT He.frG
        rw [List.filterMap_cons, e]
        simp [z]
      | false =>
        obtain ⟨c, d, dt, sl⟩ := o
        dsimp only
        rw [frcK_eq g r]
        unfold He.frT He.frG
        rw [List.filterMap_cons, e]
        simp [z]
abbrev AlM : Type := He.AlD × (Bool × Bool)
def obsM (fn : List He.DefD) (tf : List He.Defn) (ex : PySem.W.Frag → Bool) (g : Addr → Option Obj) : AlM := frcA (asM g) fun as => frcK g as fun K => (He.obsD [] fn K, (ex K, He.tabsB g tf K))
def valM (fn : List He.DefD) : AlM := (He.valD fn, (true, true))
structure SaysM (fn : List He.DefD) (tf : List He.Defn) (ex : PySem.W.Frag → Bool) (h : Heap) (K : PySem.W.Frag) : Prop where
  d : He.SaysD [] fn K
  more : ex K = true
  hd : ∀ p ∈ tf, PySem.W.codeHdIn K (He.cT K p).1 (He.cT K p).2 = true
  out : ∀ p ∈ tf, K.lookup (He.cT K p).2 = none
  empty : ∀ p ∈ tf, h.get? (He.cT K p).2 = some { cls := .none, data := .fields #[] }
theorem says_of {fn : List He.DefD} {tf : List He.Defn} {ex : PySem.W.Frag → Bool} {h : Heap} (e : obsM fn tf ex h.get? = valM fn) : SaysM fn tf ex h (He.frT h.get? (asM h.get?)) := by
  unfold obsM at e
  rw [frcA_eq, frcK_eq] at e
  have e1 := congrArg (fun z : AlM => z.1) e
  have e2 := congrArg (fun z : AlM => z.2.1) e
  have e3 := congrArg (fun z : AlM => z.2.2) e
  dsimp only at e1 e2 e3
  have key : ∀ p ∈ tf, PySem.W.codeHdIn (He.frT h.get? (asM h.get?)) (He.cT (He.frT h.get? (asM h.get?)) p).1 (He.cT (He.frT h.get? (asM h.get?)) p).2 = true ∧ ∃ o, h.get? (He.cT (He.frT h.get? (asM h.get?)) p).2 = some o ∧ He.emptyTab o = true := fun p hp => by
    have z : (He.tabsB h.get? tf (He.frT h.get? (asM h.get?))) = true := e3
    unfold He.tabsB at z
    have y := List.all_eq_true.mp z p hp
    rw [Bool.and_eq_true] at y
    refine ⟨y.1, ?_⟩
    have y2 := y.2
    split at y2
    · rename_i o q
      exact ⟨o, q, y2⟩
    · cases y2
  refine ⟨e1, e2, fun p hp => (key p hp).1, fun p hp => ?_, fun p hp => ?_⟩
  · obtain ⟨_, o, q, z⟩ := key p hp
    exact He.frT_none q z
  · obtain ⟨_, o, q, z⟩ := key p hp
    rw [q, He.emptyTab_eq z]
def hookM (fn : List He.DefD) (tf : List He.Defn) (ex : PySem.W.Frag → Bool) : PySem.W.Hook where
  α := AlM
  obs := fun s => obsM fn tf ex s.heap.get?
  val := fun _ => valM fn
  says := fun _ h => ∃ K : PySem.W.Frag, K.In h ∧ SaysM fn tf ex h K
  of := fun _ _ e => ⟨_, He.frT_in, says_of e⟩
  keeps := fun _ _ _ ⟨K, hK, c⟩ k => ⟨K, PySem.W.Frag.In.keeps hK k, ⟨c.d, c.more, c.hd, c.out, fun p hp => k _ _ (c.empty p hp)⟩⟩
theorem obsM_eq {fn : List He.DefD} {tf : List He.Defn} {ex : PySem.W.Frag → Bool} {g : Addr → Option Obj} {s : Shared} (h : ∀ a, g a = s.heap.get? a) : obsM fn tf ex g = (hookM fn tf ex).obs s := by
  have e : g = s.heap.get? := funext h
  rw [e] <;> rfl
end MI

set_option Elab.async false
set_option linter.all false
set_option maxRecDepth 100000
set_option maxHeartbeats 1000000
/-! MI: an own exception over LookupError whose __init__ says LookupError.__init__(self, ..) and keeps what it gets. -/
namespace PySem
namespace LeX
open PySem.W PySem.Calls PyProof.Rows PySem.HandSPX
abbrev leT : List Value := [.type "LookupError", .type "Exception", .type "BaseException", .type "object"]
theorem typ_LE : typeOf (.type "LookupError") = pure (.type "type") := by kernel_rfl
section
open Builtin Builtin.ObjectAttr
variable {prog : Program} {w : World} {A : Around} {R : Result → Shared → Prop} {hp : Heap} {g : Array GenState} {d : Drawn} {t : Nat} {os : OsState}
/-- a first field of an exception over LookupError -/
theorem le_osa {K : W.Frag} {fld : Str} {tk : Tok} {u : Value} {x C : Addr} {fs : Array Value} {cl : ClassData} (X : K.In hp) (hx : hp.get? x = some { cls := .ref C, data := .fields fs }) (hcl : W.clsIn K C = some cl) (hm : excTail leT cl.mro = true) (hh : cl.hasDict = true)
    (ha : W.findIn K (.ref C) fld = some none)
    (hq : ∀ h' tk' dx, (∀ b o, b ≠ x → hp.get? b = some o → h'.get? b = some o) → hp.objs.size ≤ dx → dx ≠ x → h'.get? x = some { cls := .ref C, dict := some dx, data := .fields fs } →
      h'.Ns1 dx (fun y => if y = fld then some u else none) → R (.ok (.ret .none)) ⟨h', g, d, tk', os⟩) :
    codeAny (model prog w) A (.call (.builtin "object.__setattr__") ⟨[.ref x, .str fld tk, u], []⟩) R ⟨hp, g, d, t, os⟩ := by
  have hne : cl.mro.isEmpty = false := by
    cases z : cl.mro with
    | nil =>
      rw [z] at hm
      exact absurd hm (by decide)
    | cons _ _ => rfl
  have tops : cl.mro.contains (.type "object") = true := (excTail_contains "object" _ hm).trans (by decide +kernel)
  have I : W.InstAt hp x { cls := .ref C, data := .fields fs } C none := ⟨hx, rfl, rfl, trivial⟩
  have SF := F.store_object
  have far : x ≠ hp.objs.size := Nat.ne_of_lt (Heap.lt_size hx)
  have isO : W.Looks (model prog w) hp (isInstance (.ref x) (.type "object")) true := I.type.andThen (W.looks_mroIn X (by unfold W.mroIn; rw [hcl, Option.bind_some, if_neg (by rw [hne]; decide), tops]))
  refine codeAny_call_builtin SF.slot.plain SF.entry (@W.check_slot (model prog w) _ _ ⟨hp, g, d, t, os⟩ "object.__setattr__" "object" "__setattr__" (.ref x) [.str fld tk, u] [] _ SF.kind SF.split isO (SF.args (.ref x) (.str fld tk) u) ?_)
  have chain : W.Looks (model prog w) hp (mroOf (.ref C)) cl.mro := (W.looks_clsIn X hcl).andThen .now
  have taker : W.Looks (model prog w) hp (storeTaker? none) none := .now
  have own : W.Looks (model prog w) hp (classData C) cl := W.looks_clsIn X hcl
  rw [W.osa_eq, refuse_eq]
  refine wpAny_bind (wpAny_bind (I.type.at (wpAny_bind (chain.at ?_))))
  rw [excTail_pass _ (F.store_LookupError.passes _) _ hm]
  refine wpAny_pure (wpAny_bind (I.type.at (wpAny_bind ((W.looks_findIn X ha).at (wpAny_bind (taker.at ?_))))))
  show wpAny _ _ (storeInOwnDict (.ref x) (.ref C) (.str fld tk) fld u false) _ _ _
  obtain ⟨c1, c2, c3, c4, c5, c6, c7, c8, c9, c10, c11⟩ := cl
  dsimp only at hh
  subst hh
  unfold storeInOwnDict; unfold ownDictForStores
  repeat (first | with_reducible refine store_in_new ?_ ?_ | with_reducible refine wpAny_loadPart_at hx ?_ | with_reducible refine own.at ?_ | wp_step)
  · exact ⟨_, #[], _, (Heap.get?_update_ne _ _ _ _ far.symm).trans (Heap.get?_push_at rfl rfl), rfl, fun e he => absurd he (by simp), fun _ => rfl⟩
  · intro h' tk' ns' same
    have hx1 : (hp.push { cls := .type "dict", data := .dict #[] }).get? x = some { cls := .ref C, data := .fields fs } := Heap.get?_push_of_some _ hx
    refine hq h' tk' hp.objs.size (fun b o nb ho => ?_) (Nat.le_refl _) far.symm ?_ ns'
    · exact (same.2 b (Nat.ne_of_lt (Heap.lt_size ho))).trans ((Heap.get?_update_ne _ _ _ _ nb).trans (Heap.get?_push_of_some _ ho))
    · exact (same.2 x far).trans (Heap.get?_update_self _ hx1 rfl)
end
/-! ### the text of __init__ -/
/-- what the written part says of the class at C and of its __init__ at fI (parameters: sf, p; the field: p too) -/
structure NumTxt (K : Frag) (mg : Str → Option Value) (C fI : Addr) (fld qn sf p m : Str) (scope : Scope) : Prop where
  cls : excInitIn K C leT "LookupError.__new__" = true
  hdC : hasDictIn K C = true
  sa : findIn K (.ref C) "__setattr__" = some (some (.builtin "object.__setattr__"))
  noN : findIn K (.ref C) fld = some none
  iC : findIn K (.ref C) "__init__" = some (some (.ref fI))
  tC : typeIn K (.ref fI) = some (.type "function")
  kC : keepIn K (.ref C) = true
  exC : subIn K (.ref C) (.type "BaseException") = some true
  tyC : typeIn K (.ref C) = some (.type "type")
  mL : mg "LookupError" = none
  fn : ∃ (oc : Value) (od : Option Addr) (dV kV doc pm : Value) (an : Option Addr) (cdv ct : Value) (osl : Array (Option Value)) (params : Arguments) (a1 a2 a3 a4 a5 a6 b1 b2 b3 b4 : Pos) (j : Nat) (pl : Addr → Sem Bool),
    K.lookup fI = some ⟨oc, od, .func (fnOf "__init__" qn params [.Expr (.Call (.Attribute (.Name "LookupError" a1) "__init__" a2) [.Name sf a3, .Constant (.str m) j a4] [] a5) a6, .Assign [.Attribute (.Name sf b1) fld b2] (.Name p b3) b4] scope dV kV doc pm an cdv ct), osl⟩ ∧
    codeIn K cdv qn = true ∧ (∀ (s : Shared) (us : List Value), K.In s.heap → us.length = 2 → BindsTo s (fnOf "__init__" qn params [.Expr (.Call (.Attribute (.Name "LookupError" a1) "__init__" a2) [.Name sf a3, .Constant (.str m) j a4] [] a5) a6, .Assign [.Attribute (.Name sf b1) fld b2] (.Name p b3) b4] scope dV kV doc pm an cdv ct) ⟨us, []⟩ ([sf, p].zip us)) ∧
    ∀ L : Addr, eval (.Call (.Attribute (.Name "LookupError" a1) "__init__" a2) [.Name sf a3, .Constant (.str m) j a4] [] a5) (envOfC qn scope L fI cdv) = (do
      let ov ← eval (.Name "LookupError" a1) (envOfC qn scope L fI cdv)
      standAt a2.atName
      let (f, first) ← holding [ov] (getMethod ov "__init__" (pl L))
      callWith a5 f first (backTo a5 (starEach [.Name sf a3, .Constant (.str m) j a4] (envOfC qn scope L fI cdv))) (backToKw a5 (keywordEach [] (envOfC qn scope L fI cdv))))
  sc : scope.isCoroutine = false ∧ scope.isGenerator = false ∧ scope.kind = .function
  lk : scope.names.lookup sf = some .local ∧ scope.names.lookup p = some .local ∧ scope.names.lookup ("LookupError" : Str) = some .globalImplicit
  ne : sf ≠ p ∧ sf ≠ "__debug__" ∧ p ≠ "__debug__"
theorem one_len (v : Value) : [v].length ≤ sizeLine := by
  rw [sizeLine_eq]
  exact (by decide : 1 ≤ 16777216)
/-- a made exception of that class -/
structure NumMade (h h' : Heap) (e C d : Addr) (fld : Str) (v : Value) : Prop where
  keep : ∀ b o, h.get? b = some o → h'.get? b = some o
  new : h.objs.size ≤ e
  obj : ∃ oe vs, h'.get? e = some oe ∧ oe.cls = .ref C ∧ oe.dict = some d ∧ oe.data = .fields vs ∧ vs[1]? = some .none
  dbig : h.objs.size ≤ d
  dne : d ≠ e
  ns : h'.Ns1 d (fun y => if y = fld then some v else none)
section
variable {prog : Program} {w : World} {A : Around} {E : Value → Shared → Prop} {R : Result → Shared → Prop} {s : Shared} {K : Frag} {mg mb : Str → Option Value} {C fI : Addr} {fld qn sf p m : Str} {scope : Scope}
theorem ld_loc {M : Model} {name : Str} {L a : Addr} {cd : Value} {n : Str → Option Value} {x : Str} {pos : Pos} {v : Value} {Q : Value → Shared → Prop} (hn : s.heap.Ns L n) (hv : n x = some v) (h : Q v s) (hk : scope.kind = .function) (hl : scope.names.lookup x = some .local) (hd : x ≠ "__debug__") :
    wpAny M A (eval (.Name x pos) (envOfC name scope L a cd)) Q E s := wpAny_Name (wpAny_loadName_local (env := envOfC name scope L a cd) hk hl hn hv h) (by simpa using hd)
theorem num_init (T : NumTxt K mg C fI fld qn sf p m scope) {x t0 : Addr} {v : Value} (X : K.In s.heap) (hlim : s.heap.NoLimit) (hg : s.heap.Ns mainGlobals mg) (hb : s.heap.Ns builtinsNs mb) (hbb : mb "LookupError" = some (.type "LookupError")) (hx : s.heap.get? x = some (excO C t0)) (hnx : K.lookup x = none) (hroom : A.depth < recursionLimit)
    (hq : ∀ h' tk dx t1, (∀ b o, b ≠ x → s.heap.get? b = some o → h'.get? b = some o) → h'.get? x = some { cls := .ref C, dict := some dx, data := .fields #[.ref t1, .none, .none, .none, .bool false, .none] } → s.heap.objs.size ≤ dx → dx ≠ x → h'.Ns1 dx (fun y => if y = fld then some v else none) → R (.ok (.ret .none)) { s with heap := h', toks := tk }) :
    codeAny (model prog w) A (.call (.ref fI) ⟨[.ref x, v], []⟩) R s := by
  obtain ⟨oc, od, dV, kV, doc, pm, an, cdv, ct, osl, params, a1, a2, a3, a4, a5, a6, b1, b2, b3, b4, j, pl, ho, hcd, hbi, hev⟩ := T.fn
  obtain ⟨sc1, sc2, sc3⟩ := T.sc
  obtain ⟨lk1, lk2, lk3⟩ := T.lk
  obtain ⟨ne1, ne2, ne3⟩ := T.ne
  refine Att.call_fn (binds := [(sf, .ref x), (p, v)]) X hlim ho hcd hroom (hbi s [.ref x, v] X rfl) ?_ (fun s₁ IC => ?_) sc1 sc2 sc3
  · show ((scope.names.lookup sf == some .local || scope.names.lookup sf == some .cell) && ((scope.names.lookup p == some .local || scope.names.lookup p == some .cell) && true)) = true
    rw [lk1, lk2]
    rfl
  obtain ⟨h₁, tk₁, rfl⟩ := IC.toInCall.same
  have k : ∀ b o, s.heap.get? b = some o → h₁.get? b = some o := IC.toInCall.keep
  have hn := IC.toInCall.ns
  have k1 : (envOfC qn scope s.heap.objs.size fI cdv).kindOf sf = some .local := lk1
  have k2 : (envOfC qn scope s.heap.objs.size fI cdv).kindOf p = some .local := lk2
  have vself : bindL (envOfC qn scope s.heap.objs.size fI cdv).kindOf [(sf, .ref x), (p, v)] (fun _ => none) sf = some (.ref x) := L2.bindL_get (P := [sf, p]) (vs := [.ref x, v]) (i := 0) (by simp [ne1]) rfl rfl k1
  have vp : bindL (envOfC qn scope s.heap.objs.size fI cdv).kindOf [(sf, .ref x), (p, v)] (fun _ => none) p = some v := L2.bindL_get (P := [sf, p]) (vs := [.ref x, v]) (i := 1) (by simp [ne1]) rfl rfl k2
  obtain ⟨nm, N, q, bs, bm, hd, sn, sub, ab, col, dd, k0, k1', k2', k3, k5, hC, hT⟩ := excInit_of (X.keeps k) T.cls
  have hx1 := k _ _ hx
  have kin1 : K.In h₁ := X.keeps k
  have quiet : interactive (envOfC qn scope s.heap.objs.size fI cdv) = false := by
    show (scope.kind == .module && _) = false
    rw [sc3]
    rfl
  show wpAny _ _ (execs (_ :: _) _) _ _ _
  refine wpAny_execs_cons (wpAny_Expr_any (PySem.W.methodCall_KW ?_ (hev _)) quiet rfl)
  refine Calls.Name_function_global sc3 lk3 (Calls.loadGlobal_builtin (mg := mg) (mb := mb) (hg.keeps k) T.mL (hb.keeps k) hbb ?_)
  refine PySem.W.method_type (h₀ := s.heap) (K := K) ⟨hn, k, Nat.le_refl _⟩ X typ_LE (by decide +kernel) (v := .builtin "LookupError.__init__") (by kernel_rfl) (by decide +kernel) ?_
  show wpAny _ _ (callWith a5 (.builtin "LookupError.__init__") [] (backTo a5 (starEach [.Name sf a3, .Constant (.str m) j a4] (envOfC qn scope s.heap.objs.size fI cdv))) []) _ _ _
  refine PyProof.Rows.callWith_method1 (spliced_more (ld_loc hn vself (spliced_more (Calls.Constant_str (spliced_none ?_))) sc3 lk1 ne2))
  refine wpAny_call (init_base F.excBase_LookupError hT hC hx1 (one_len _) fun h₂ t1 keep2 hx2 => ?_)
  have hnL : s.heap.objs.size ≠ x := Nat.ne_of_gt (Heap.lt_size hx)
  have hn2 : h₂.Ns s.heap.objs.size (bindL (envOfC qn scope s.heap.objs.size fI cdv).kindOf [(sf, .ref x), (p, v)] fun _ => none) := by
    obtain ⟨o, es, ep, e, rest⟩ := hn
    exact ⟨o, es, ep, keep2 _ _ hnL e, rest⟩
  have kin2 : K.In h₂ := fun b o e => by
    by_cases hb : b = x
    · rw [hb, hnx] at e
      cases e
    · exact keep2 b o hb (kin1 b o e)
  show wpAny _ _ (execs (_ :: _) _) _ _ _
  refine wpAny_execs_cons (plainObj_wpAny_Assign_Attribute ?_)
  refine ld_loc hn2 vp (ld_loc hn2 vself ?_ sc3 lk1 ne2) sc3 lk2 ne3
  refine set_plain kin2 (ox := excO C t1) (od := none) ⟨hx2, rfl, rfl, trivial⟩ T.sa ?_
  have hcl : ∃ cl, clsIn K C = some cl ∧ excTail leT cl.mro = true ∧ cl.hasDict = true := by
    have z := T.cls
    have y := T.hdC
    unfold excInitIn at z
    split at z
    · rename_i dd cd sl hlk
      split at z
      · rename_i C' bm _ _ _ _ n _ hm hs
        have e : clsIn K C = some cd := by
          unfold clsIn
          rw [hlk] <;> rfl
        refine ⟨cd, e, ?_, ?_⟩
        · rw [hm]
          simp only [Bool.and_eq_true] at z
          exact z.2
        · unfold hasDictIn at y
          rw [e] at y
          exact y
      · cases z
    · cases z
  obtain ⟨cl, c1, c2, c3⟩ := hcl
  refine le_osa kin2 hx2 c1 c2 c3 T.noN fun h₃ tk₃ dx k₃ dn dne hx₃ hn₃ => ?_
  show wpAny _ _ (execs _ _) _ _ _
  refine wpAny_execs_nil (hq h₃ tk₃ dx t1 (fun b o hb e => k₃ b o hb (keep2 b o hb (k b o e))) hx₃ (Nat.le_trans (Nat.le_of_lt hn2.lt) dn) dne hn₃)
theorem num_made (T : NumTxt K mg C fI fld qn sf p m scope) {v : Value} (X : K.In s.heap) (hlim : s.heap.NoLimit) (hg : s.heap.Ns mainGlobals mg) (hb : s.heap.Ns builtinsNs mb) (hbb : mb "LookupError" = some (.type "LookupError")) (hroom : A.depth + 1 < recursionLimit)
    (hq : ∀ h' tk e d, NumMade s.heap h' e C d fld v → R (.ok (.ret (.ref e))) { s with heap := h', toks := tk }) :
    codeAny (model prog w) A (.call (.ref C) ⟨[v], []⟩) R s := by
  obtain ⟨nm, N, q, bs, bm, hd, sn, sub, ab, col, dd, k0, k1', k2', k3, k5, hC, hT⟩ := excInit_of X T.cls
  obtain ⟨hp, g, dr, tk, os⟩ := s
  have k : ∀ b o, hp.get? b = some o → ((hp.push (kdv_tup [v])).push (excO C hp.objs.size)).get? b = some o := fun b o e => Heap.get?_push_of_some _ (Heap.get?_push_of_some _ e)
  have hget : ((hp.push (kdv_tup [v])).push (excO C hp.objs.size)).get? (hp.objs.size + 1) = some (excO C hp.objs.size) := by heap_get
  have hnx : K.lookup (hp.objs.size + 1) = none := by
    cases e : K.lookup (hp.objs.size + 1) with
    | none => rfl
    | some o =>
      have z : hp.get? (hp.objs.size + 1) = some o := X _ _ e
      exact absurd (Nat.lt_of_succ_lt (Heap.lt_size z)) (Nat.lt_irrefl _)
  refine call_own F.excBase_LookupError hT hC (looks_findIn X T.iC) (fun sf => bind_fn X sf T.tC) (one_len v) ?_
  refine num_init (s := ⟨(hp.push (kdv_tup [v])).push (excO C hp.objs.size), g, dr, tk, os⟩) (mb := mb) T (X.keeps k) (hlim.keeps k) (hg.keeps k) (hb.keeps k) hbb hget hnx ?_ fun h' tk' dx t1 keep hx dn dne hns => ?_
  · show A.depth + 1 < recursionLimit
    exact hroom
  · have old : ∀ b o, hp.get? b = some o → h'.get? b = some o := fun b o e => keep b o (Nat.ne_of_lt (Nat.lt_succ_of_lt (Heap.lt_size e))) (k b o e)
    have z : hp.objs.size + 1 + 1 ≤ dx := by
      first
        | (simpa only [Heap.size_push] using dn)
        | exact dn
        | (have q := dn; rw [Heap.size_push, Heap.size_push] at q; exact q)
    exact ⟨rfl, hq h' tk' (hp.objs.size + 1) dx ⟨old, Nat.le_succ _, ⟨_, _, hx, rfl, rfl, rfl, rfl⟩, Nat.le_trans (Nat.le_trans (Nat.le_succ _) (Nat.le_succ _)) z, dne, hns⟩⟩
end
end LeX
end PySem
namespace L2
open PySem PySem.Spec PyProof.Rows
theorem relO_one {fld : Str} {v : V} {v' : Value} (r : RelV v v') (f : Str) : RelO (List.lookup f [(fld, v)]) (if f = fld then some v' else none) := by
  by_cases hw : f = fld
  · subst hw
    rw [if_pos rfl]
    have q : List.lookup f [(f, v)] = some v := by simp [List.lookup]
    rw [q]
    exact r
  · rw [if_neg hw]
    have qw : (f == fld) = false := by simpa using hw
    have q2 : List.lookup f [(fld, v)] = none := by simp [List.lookup, qw]
    rw [q2]
    trivial
section
variable {X : Cx} {C fI : Addr}
/-- x(a), x a class of that shape -/
theorem pmk_num {x fld qn sf p m : Str} {scope : Scope} {a : Expr} {ta : TE} {pp pos : Pos} {k : Nat} (T : PySem.LeX.NumTxt X.K X.mg C fI fld qn sf p m scope) (hr : Room k X.A) (gC : X.mg x = some (.ref C)) (ha : PE X a ta) (hg : Gl X x) (hdb : (x == ("__debug__" : Str)) = false)
    (he : starEach (a :: []) X.env = (false, eval a X.env) :: starEach [] X.env) (hpl : (backTo pos (starEach [] X.env)).any (·.1) = false) :
    PMk X (.Call (.Name x pp) [a] [] pos) (fun σ H Q => ta σ H fun v H1 => ∀ d, H1 d = none → Q (.ref C) (some d) (upd H1 d (.xd [(fld, v)]))) := by
  intro pins s σ H Q I h
  refine wpAny_Call_Name_kw (ld_glob I hg gC ?_ hdb)
  refine PySem.W.callWith_K (h₀ := X.base) I.ok.mod.kin T.kC (thn ((pa_cons ha pa_nil he).run pos pins s σ H (fun vs H1 => ∃ v, vs = [v] ∧ ∀ d, H1 d = none → Q (.ref C) (some d) (upd H1 d (.xd [(fld, v)]))) I ?_) fun us s1 hh => ?_) he hpl
  · have e : (fun (v : V) (H1 : Hp) => ∃ y, [v] = [y] ∧ ∀ d, H1 d = none → Q (.ref C) (some d) (upd H1 d (.xd [(fld, y)]))) = fun v H1 => ∀ d, H1 d = none → Q (.ref C) (some d) (upd H1 d (.xd [(fld, v)])) := by
      funext v H1
      exact propext ⟨fun ⟨y, e, h⟩ => by cases e; exact h, fun h => ⟨v, rfl, h⟩⟩
    show ta σ H fun v H1 => ∃ y, [v] = [y] ∧ _
    rw [e]
    exact h
  obtain ⟨vs, H1, I1, r1, v, ev, q1⟩ := hh
  subst ev
  refine ⟨I1.kIn, ?_⟩
  cases r1 with
  | cons rv rn =>
    rename_i v' us'
    cases rn
    show wpAny _ _ (call (.ref C) [v']) _ _ _
    have hlim := I1.nolimit
    obtain ⟨mb, b1, b2⟩ := I1.mod.blt
    have gN : s1.heap.Ns mainGlobals X.mg := I1.mod.glob.keeps I1.bk
    have bN := b1.keeps I1.bk
    obtain ⟨hp, g, dr, tk, os⟩ := s1
    refine wpAny_call (PySem.LeX.num_made T I1.kIn hlim gN bN ((b2 _ (by decide)).trans PyProof.Rows.Boot.«LookupError») (by have := hr.dp; omega) fun h' tk' e d M => ?_)
    show MkP X pins σ Q (.ref e) ⟨h', g, dr, tk', os⟩
    obtain ⟨oe, fv, hoe, hc, hd, hdat, h1⟩ := M.obj
    have hns := M.ns
    obtain ⟨G', g1, g2⟩ := restrict h' fun b => decide (b ≠ e)
    have gk : ∀ b, b ≠ e → G'.get? b = h'.get? b := fun b hb => g1 b (decide_eq_true hb)
    have ge : G'.get? e = none := g2 e (by simp)
    have old : ∀ b o, hp.get? b = some o → G'.get? b = some o := fun b o q => (gk b (Nat.ne_of_lt (Nat.lt_of_lt_of_le (Heap.lt_size q) M.new))).trans (M.keep b o q)
    have ob : ObjOk X.prog X.w (upd H1 d (.xd [(fld, v)])) G' d (.xd [(fld, v)]) :=
      ⟨_, hns.at (fun o q => (gk d M.dne).trans q), fun f => relO_one rv f⟩
    have J : Inv X pins σ (upd H1 d (.xd [(fld, v)])) ⟨G', g, dr, tk', os⟩ := I1.laid (t' := tk') old M.dbig ob
    refine ⟨e, oe, fv, ⟨G', g, dr, tk', os⟩, _, .ref C, some d, rfl, J, fun b o q => ?_, ge, hoe, ⟨hc, hd⟩, hdat, h1, ?_, rfl, I1.bare, raises_own T.exC T.tyC, q1 d (I1.hok.fresh M.dbig)⟩
    · by_cases hb : b = e
      · have q' : G'.get? b = some o := q
        rw [hb, ge] at q'; cases q'
      · exact (gk b hb).symm.trans q
    · rw [upd_ne (Ne.symm M.dne)]
      exact I1.hok.fresh M.new
end
end L2
namespace MI
open PySem PySem.Spec L2
open PyProof.Rows hiding St
def lowK (f : Str) (K : PySem.W.Frag) (x : Str) : Bool := (xfB K (He.ga K x) && decide (PySem.W.findIn K (.ref (He.ga K x)) f = some none)) && (PySem.W.excInitIn K (He.ga K x) PySem.LeX.leT "LookupError.__new__" && (PySem.W.hasDictIn K (He.ga K x) &&
  (decide (PySem.W.findIn K (.ref (He.ga K x)) "__setattr__" = some (some (.builtin "object.__setattr__"))) && (decide (PySem.W.findIn K (.ref (He.ga K x)) "__init__" = some (some (.ref (He.ma K (He.ga K x) "__init__")))) && (decide (PySem.W.typeIn K (.ref (He.ma K (He.ga K x) "__init__")) = some (.type "function")) &&
  (PySem.W.keepIn K (.ref (He.ga K x)) && (decide (PySem.W.subIn K (.ref (He.ga K x)) (.type "BaseException") = some true) && (decide (PySem.W.typeIn K (.ref (He.ga K x)) = some (.type "type")) && decide (PySem.W.nsIn K mainGlobals "LookupError" = some none)))))))))
/-- the body that is meant, by its places -/
abbrev numB (sf fld p m : Str) (j : Nat) (a1 a2 a3 a4 a5 a6 b1 b2 b3 b4 : Pos) : List Stmt := [.Expr (.Call (.Attribute (.Name "LookupError" a1) "__init__" a2) [.Name sf a3, .Constant (.str m) j a4] [] a5) a6, .Assign [.Attribute (.Name sf b1) fld b2] (.Name p b3) b4]
section
variable {T : HT} {K : PySem.W.Frag} {mg : Str → Option Value} {h : Heap}
theorem num_of {x fld qn sf p m : Str} {scope : Scope} {params : Arguments} {body : List Stmt} {fd : FuncData} {j : Nat} {a1 a2 a3 a4 a5 a6 b1 b2 b3 b4 : Pos} {pl : Addr → Addr → Value → PySem.Sem Bool} (hl : lowK fld K x = true) (X : K.In h) (G : h.Ns mainGlobals mg) (F : FunD K "__init__" qn params body scope [] [] (He.ma K (He.ga K x) "__init__") fd)
    (eb : body = numB sf fld p m j a1 a2 a3 a4 a5 a6 b1 b2 b3 b4) (hp : plainA params [sf, p] = true)
    (hev : ∀ (L f : Addr) (cd : Value), eval (.Call (.Attribute (.Name "LookupError" a1) "__init__" a2) [.Name sf a3, .Constant (.str m) j a4] [] a5) (envOfC qn scope L f cd) = (do
      let ov ← eval (.Name "LookupError" a1) (envOfC qn scope L f cd)
      standAt a2.atName
      let (f', first) ← holding [ov] (getMethod ov "__init__" (pl L f cd))
      callWith a5 f' first (backTo a5 (starEach [.Name sf a3, .Constant (.str m) j a4] (envOfC qn scope L f cd))) (backToKw a5 (keywordEach [] (envOfC qn scope L f cd)))))
    (sc : scope.isCoroutine = false ∧ scope.isGenerator = false ∧ scope.kind = .function) (lk : scope.names.lookup sf = some .local ∧ scope.names.lookup p = some .local ∧ scope.names.lookup ("LookupError" : Str) = some .globalImplicit) (ne : sf ≠ p ∧ sf ≠ "__debug__" ∧ p ≠ "__debug__") :
    PySem.LeX.NumTxt K mg (He.ga K x) (He.ma K (He.ga K x) "__init__") fld qn sf p m scope := by
  unfold lowK at hl
  simp only [Bool.and_eq_true, decide_eq_true_eq] at hl
  obtain ⟨⟨l1, l2⟩, l3, l4, l5, l6, l7, l8, l9, l10, l11⟩ := hl
  unfold plainA at hp
  simp only [Bool.and_eq_true, decide_eq_true_eq, List.isEmpty_iff, Option.isNone_iff_eq_none] at hp
  obtain ⟨p1, p2, p3, p4, p5⟩ := hp
  have B : Binds K fd [sf, p] [] := F.bindsN fun kV doc pm an cdv ct us hl => bind_plain p1 p2 p3 p4 p5 rfl (by simp [ne.1]) hl
  obtain ⟨oc, od, dV, kV, doc, pm, an, cdv, ct, osl, rfl, lk', hcd, _, _⟩ := F.ex
  subst eb
  exact ⟨l3, l4, l5, l2, l6, l7, l8, l9, l10, PySem.W.mg_none_of X G l11, ⟨oc, od, dV, kV, doc, pm, an, cdv, ct, osl, params, a1, a2, a3, a4, a5, a6, b1, b2, b3, b4, j, fun L => pl L _ _, lk', hcd, fun s us X hl => by simpa using B s us X (by simpa using hl), fun L => hev L _ _⟩, sc, lk, ne⟩
theorem keep_num (hx : T.ex K = true) (hk : T.ok = true) (X : K.In h) (G : h.Ns mainGlobals mg) {x qn sf p m : Str} {cid : Nat} {scope : Scope} (e : T.exn.lookup x = some (cid, true)) (N : PySem.LeX.NumTxt K mg (He.ga K x) (He.ma K (He.ga K x) "__init__") T.fld qn sf p m scope) {Y : Cx} (eK : Y.K = K) (em : Y.mg = mg) (hr : Room 1 Y.A) :
    RaisesAt Y (T.phi K) x cid true := by
  have hcl := HT.cls_of (K := K) hk e
  unfold HT.ex at hx
  simp only [Bool.and_eq_true, List.all_eq_true, decide_eq_true_eq] at hx
  obtain ⟨x1, x2, x3, x4, x5, x6, x7⟩ := hx
  have z := x4 _ (lookup_in e)
  unfold HT.ok at hk
  simp only [Bool.and_eq_true, List.all_eq_true, decide_eq_true_eq] at hk
  obtain ⟨k1, k2, k3, k4, k5, k6, k7⟩ := hk
  have nd := (k4 _ (lookup_in e)).2
  subst eK em
  exact ⟨He.ga Y.K x, T.fld, hcl, fun a ta pp pos ha hs hg => pmk_num N hr (PySem.W.mg_of X G z.1) ha hg (by simpa using nd) (starEach_cons hs) (starEach_plain rfl)⟩
end
end MI

set_option Elab.async false
set_option linter.all false
set_option maxRecDepth 100000
set_option maxHeartbeats 1000000
/-! MI: a law, from its tables, its head and its value. -/
namespace MI
open PySem PySem.Spec L2
open PyProof.Rows hiding St

theorem tabs_empty {T : List (Addr × Str)} {H : Hp} (h : ∀ p ∈ T, H p.1 = some (.tbl #[])) : LamX.Tabs T H := fun p hp => LamX.TabS.nil (h p hp)
theorem rp_ints {P : Program} {w : World} {K : PySem.W.Frag} {H : Hp} : ∀ ns : List Int, RpA P w K H (ns.map V.int) (ns.map PyData.int)
  | [] => .nil
  | n :: ns => .cons (.int n) (rp_ints ns)
/-- the script as the law's def takes it -/
theorem spF_law {W : Wx} {cl : Option (List PyData) → List PyData → RF} {H : Hp} {a : Addr} {ns : List Int} (hT : LamX.Tabs W.T H) (hS : SqL W.K H a (ns.map V.int)) (hv : cl none [.list (ns.map .int)] = .ok (.d (.bool true)) none) :
    spF W cl false 1 [.ref a] H (fun v _ => v = .bl true) fun _ _ _ => False := by
  have hS' : SqL W.K (hid (fun _ => False) [] [] H) a (ns.map V.int) := by
    have k : ∀ o, H a = some o → NoTbl o → hid (fun _ => False) [] [] H a = some o := fun o e nt => hid_at e (fun z => z) (fun z => inU_nil z) nt
    rcases hS with (e | ⟨o, e⟩) | z
    · exact .inl (.inl (k _ e fun _ z => by cases z))
    · exact .inl (.inr ⟨o, k _ e fun _ z => by cases z⟩)
    · exact .inr z
  refine ⟨rfl, fun _ => False, none, [.list (ns.map .int)], [], rfl, ⟨rfl, List.nodup_nil, fun _ z => z.elim, fun _ z => (by cases z), fun n o b e => (by cases e), fun i v e => (by cases e), rfl, hT⟩, .cons (Rp.lst hS' (rp_ints ns)) .nil, ?_⟩
  rw [hv]
  intro f' H' u ex r q
  cases q
  rfl
/-- the facts of classes that keep what they get -/
structure KeepOk (T : HT) (K : PySem.W.Frag) (mg : Str → Option Value) : Prop where
  made : ∀ (Y : Cx) (y : Str) (cid : Nat), Y.K = K → Y.mg = mg → Room 1 Y.A → T.exn.lookup y = some (cid, true) → RaisesAt Y (T.phi K) y cid true
  fld : ∀ x cid, (x, cid, true) ∈ T.exn → XfC K (He.ga K x) ∧ PySem.W.findIn K (.ref (He.ga K x)) T.fld = some none
/-- how a lambda's def is read: the def of number g, its tryer's number, the tryer's parameter -/
structure TryOk (T : HT) (g gt : Nat) (a t : Str) (hs : List (Nat × HR)) : Prop where
  tr : (T.sc g).trys = [(T.name gt, .str t, hs)]
  hy : T.name g ∈ T.lamd
  ht : T.name gt ∈ T.trs
  sg : ∃ sg, T.sigs[gt]? = some sg ∧ sg.ps = [a] ∧ sg.kwo = []
  rd : tryRead T.exn (T.sc gt).N (defScope (T.st gt)) T.fld (defBody (T.st gt)) = some (a, .str t, hs)
  vis : isVis (defScope (T.st gt)) a = true
  nm : nameOk a = true
  an1 : T.atn g = T.name g
  an2 : T.atn gt = T.name gt
theorem law_of {l : PySem.W.OpenLaw} {m n : Nat} {q : Program} {loose : List Str} {XP : (Str → Option Value) → Heap → Prop} {d : DefRec} {x : Str} {T : HT} {n1 n2 lim fuel F L lg : Nat} {sg : Sig} (hn : l.most = some n) (hn2 : n ≤ sizeLine) (hdf : d.params.defaults = []) (hr : Room (3 * L + 1) callerA)
    (hk : T.ok = true) (hp : T.pm.cons = T.conD) (hsub : T.pm.sub = T.sub) (hc : ∀ g, g < T.nm.length → ∃ fn, T.pm.fns[g]? = some fn ∧ compL (orBad (compS T.S n1 n2 (T.sc g))) (defBody (T.st g)) = some fn.body)
    (hs : ∀ g, (T.sc g).cons = T.cons ∧ (T.sc g).fns = T.fns ∧ (T.sc g).free = T.free ∧ (T.sc g).nov = T.nov ∧ (T.sc g).exn = T.exn ∧ (T.sc g).sc = defScope (T.st g))
    (hkeep : ∀ (K : PySem.W.Frag) (h : Heap) (mg : Str → Option Value), He.SaysD [] T.fn K → T.ex K = true → K.In h → h.Ns mainGlobals mg → KeepOk T K mg)
    (hT : ∀ g, (T.sc g).trys = [] ∨ ∃ gt a t hs, TryOk T g gt a t hs) (hF : fuel = F + 1) (hLm : ∀ g, LamsOf T g) (hLd : ∀ g D, T.laOf g = some D → LamOk T g D) (hlg : T.sigs[lg]? = some sg) (hps : sg.ps = [x]) (hkwo : sg.kwo = []) (hdfl : ∀ g sg, T.sigs[g]? = some sg → T.pm.dfl g = sg.kwo.map (·.2)) (hdla : ∀ g D, T.laOf g = some D → T.pm.dfl g = []) (hbr : sg.br = false) (hgd : sg.gd = true) (hnm : T.fns.lookup d.name = some lg) (hlt : lg < T.nm.length)
    (hv : ∀ ns : List Int, ns.length ≤ n → callF T.pm lim fuel L lg none [.list (ns.map .int)] = .ok (.d (.bool true)) none) :
    PySem.W.WalkO q loose XP (hookM T.fn T.tf T.ex).says l.row.toRowW d [] (fun f vs => PySem.call f vs) := by
  refine walk_law (k := 3 * L + 1) (x := x) hn hn2 hdf hr fun w mg fa h Y G hmg => ?_
  obtain ⟨K, KX, c⟩ := Y
  have hK := hkeep K h mg c.d c.more KX G
  have efa : fa = He.ga K (T.atn lg) := by
    have z := c.more
    unfold HT.ex at z
    simp only [Bool.and_eq_true, List.all_eq_true, decide_eq_true_eq] at z
    have e := PySem.W.mg_of KX G (z.1 _ (lookup_in hnm))
    have e2 : mg d.name = some (.ref (He.ga K (T.atn lg))) := e
    rw [hmg] at e2
    cases e2
    rfl
  subst efa
  refine ⟨K, T.tf.map (He.cT K), spF (wP l.prog w K (T.phi K)) (callF T.pm lim fuel L lg) false 1, KX, fun p hp => ?_, fun p hp => ?_, fun p hp => ?_, fun H a ns hl hH hS => ?_, fun base kb nb hTB => ?_⟩
  · obtain ⟨q, hq, rfl⟩ := List.mem_map.mp hp
    exact c.empty q hq
  · obtain ⟨q, hq, rfl⟩ := List.mem_map.mp hp
    exact c.out q hq
  · obtain ⟨q, hq, rfl⟩ := List.mem_map.mp hp
    exact PySem.W.codeHd_of_K KX (c.hd q hq)
  · refine spF_law (tabs_empty fun p hp => ?_) hS (hv ns hl)
    obtain ⟨y, hy, rfl⟩ := List.mem_map.mp hp
    exact hH (He.cT K (y, none)) (List.mem_map.mpr ⟨(y, none), List.mem_map.mpr ⟨y, hy, rfl⟩, rfl⟩)
  · have tabs : ∀ y ∈ T.lamd, LamX.TabB base mg (He.cT K (y, none)).1 (He.cT K (y, none)).2 := fun y hy => hTB (He.cT K (y, none)) (List.mem_map.mpr ⟨(y, none), List.mem_map.mpr ⟨y, hy, rfl⟩, rfl⟩)
    have D := HT.defs (P := l.prog) (w := w) (base := base) (hTB := tabs) (hL := hLm) c.d c.more hk KX G hp hc hs hK.made fun g => by
      rcases hT g with e | ⟨gt, a, t, hs, ok⟩
      · exact .inl e
      · refine .inr fun cdv A outer s H E hl hcd y tag hs' e => ?_
        rw [ok.tr, List.lookup_cons] at e
        split at e
        · rename_i ey
          cases e
          obtain ⟨sg', e1, e2, e3⟩ := ok.sg
          rw [beq_iff_eq] at ey
          refine ⟨t, rfl, ?_⟩
          rw [ey]
          exact HT.tryAt c.d c.more hk KX G hK.fld tabs hsub ok.hy ok.ht ok.an1 ok.an2 e1 e2 e3 ok.rd ok.vis ok.nm hl hcd
        · cases e
    have FF := (levels (lim := lim) hF D (HT.lamDefs c.more hk KX G hp hLd) hdfl hdla L).1 lg sg hlg
    rw [hgd, hps, hbr] at FF
    obtain ⟨f, fd, q1, q2, q3, q4⟩ := FF.ex
    have ef : f = He.ga K (T.atn lg) := by
      have z : T.adr K lg = some f := q1
      unfold HT.adr at z
      rw [if_pos hlt] at z
      cases z
      rfl
    subst ef
    exact ⟨fd, q3, q4.all hkwo⟩
/-- no class keeps anything -/
theorem keep_none {T : HT} {K : PySem.W.Frag} {mg : Str → Option Value} (h : (T.exn.all fun p => !p.2.2) = true) : KeepOk T K mg := by
  have key : ∀ x cid, (x, cid, true) ∉ T.exn := fun x cid m => by
    have := List.all_eq_true.mp h _ m
    cases this
  exact ⟨fun Y y cid _ _ _ e => (key y cid (lookup_in e)).elim, fun x cid m => (key x cid m).elim⟩
def tupEls : Stmt → List Expr
  | .For (iter := .Tuple es _ _) .. => es
  | _ => []
def lamD (q : Str) : Expr → LamD
  | .Lambda p b s _ => ⟨q, p, b, s⟩
  | _ => ⟨q, ⟨[], [], none, [], [], none, []⟩, .Constant .none 0 ⟨0, 0, 0, 0⟩, ⟨.function, [], false, false, []⟩⟩
def clsBody : Stmt → List Stmt
  | .ClassDef (body := b) .. => b
  | _ => []
end MI

set_option Elab.async false
set_option linter.all false
set_option maxRecDepth 1000000
set_option maxHeartbeats 1000000
/-! MI: steps by values; the laws' draws. -/
namespace MI
open PySem L2
theorem bind_ok {α β : Type} (a : α) (s : MS) (k : α → MS → Out β) : (Out.ok a s).bind k = k a s := rfl
theorem bind_exc {α β : Type} (c : Nat) (x : PyData) (s : MS) (k : α → MS → Out β) : (Out.exc c x s : Out α).bind k = .exc c x s := rfl
theorem exs_next {X : MSt → MS → Out MI.Flow} {a : MSt} {r : List MSt} {s s1 : MS} (h : X a s = .ok .next s1) : exs X (a :: r) s = exs X r s1 := by
  show (X a s).bind _ = _
  rw [h]
  rfl
theorem exs_ret {X : MSt → MS → Out MI.Flow} {a : MSt} {r : List MSt} {s s1 : MS} {v : Val} (h : X a s = .ok (.ret v) s1) : exs X (a :: r) s = .ok (.ret v) s1 := by
  show (X a s).bind _ = _
  rw [h]
  rfl
theorem ex_iff {K : Cfg} {n : Nat} {c : ME} {a b : List MSt} {s s1 : MS} {t : Bool} (h : tst (sem K n).ev c s = .ok t s1) : (sem K (n + 1)).ex (.iff c a b) s = exs (sem K n).ex (if t then a else b) s1 := by
  show (tst (sem K n).ev c s).bind _ = _
  rw [h]
  cases t <;> rfl
theorem ex_asg {K : Cfg} {n i : Nat} {e : ME} {v : Val} {s s1 : MS} (h : (sem K n).ev e s = .ok v s1) (hi : i < s1.env.length) : (sem K (n + 1)).ex (.asg (.n i) e) s = .ok .next (s1.setSlot i v) := by
  show ((sem K n).ev e s).bind _ = _
  rw [h]
  show nextO (if i < s1.env.length then some (s1.setSlot i v) else none) = _
  rw [if_pos hi]
  rfl
theorem ex_ret {K : Cfg} {n : Nat} {e : ME} {v : Val} {s s1 : MS} (h : (sem K n).ev e s = .ok v s1) : (sem K (n + 1)).ex (.ret e) s = .ok (.ret v) s1 := by
  show ((sem K n).ev e s).bind _ = _
  rw [h]
  rfl
theorem ev_bin {K : Cfg} {n : Nat} {o : Op} {a b : ME} {i j k : Int} {s s1 s2 : MS} (h1 : (sem K n).ev a s = .ok (.d (.int i)) s1) (h2 : (sem K n).ev b s1 = .ok (.d (.int j)) s2) (h : intOp o i j = some k) : (sem K (n + 1)).ev (.bin o a b) s = .ok (.d (.int k)) s2 := by
  show ((sem K n).ev a s).bind (fun v s1 => ((sem K n).ev b s1).bind fun w s2 => binV o v w s2) = _
  rw [h1, bind_ok, h2, bind_ok]
  show ofO ((intOp o i j).map fun k => Val.d (.int k)) s2 = _
  rw [h]
  rfl
theorem ev_int {K : Cfg} {n : Nat} {a : ME} {i : Int} {s s1 : MS} (h1 : (sem K n).ev a s = .ok (.d (.int i)) s1) : (sem K (n + 1)).ev (.blt .int [a]) s = .ok (.d (.int i)) s1 := by
  show (evs (sem K n).ev [a] s).bind _ = _
  show (((sem K n).ev a s).bind _).bind _ = _
  rw [h1]
  rfl
theorem mod_ok {i j : Int} (h : 0 < j) : intOp .mod i j = some (i % j) := if_pos h
theorem div_ok {i j : Int} (h : 0 < j) (h2 : j.natAbs.log2 < 9000) : intOp .fdiv i j = some (i / j) := if_pos ⟨h, h2⟩
theorem mul_ok {i j : Int} (h : (Builtin.Int.intBits i : Int) + (Builtin.Int.intBits j : Int) ≤ 134217728) : intOp .mul i j = some (i * j) := if_pos h
theorem len_ev {Kc : Cfg} {n i : Nat} {ns : List Int} {s : MS} (h : s.env[i]? = some (some (.d (.list (ns.map .int))))) : (sem Kc (n + 2)).ev (.blt .len [.slot i]) s = .ok (.d (.int ns.length)) s := by
  have e1 : (sem Kc (n + 1)).ev (.slot i) s = .ok (.d (.list (ns.map .int))) s := by
    show (match s.env[i]? with
      | some (some v) => Out.ok v s
      | _ => .bad) = _
    rw [h]
  show (((sem Kc (n + 1)).ev (.slot i) s).bind fun v s1 => (Out.ok [] s1 : Out (List Val)).bind fun vs s2 => .ok (v :: vs) s2).bind (fun vs s1 => bltV .len vs s1) = _
  rw [e1]
  show ofO ((some ((ns.map PyData.int).map Val.d).length).map fun (n : Nat) => Val.d (.int (n : Int))) s = _
  rw [List.length_map, List.length_map]
  rfl
theorem tst_lt {Kc : Cfg} {n : Nat} {a b : ME} {i j : Int} {s : MS} (h1 : (sem Kc n).ev a s = .ok (.d (.int i)) s) (h2 : (sem Kc n).ev b s = .ok (.d (.int j)) s) : (sem Kc (n + 1)).ev (.cmp .lt a b) s = .ok (.d (.bool (decide (i < j)))) s := by
  show (((sem Kc n).ev a s).bind fun v s1 => ((sem Kc n).ev b s1).bind fun w s2 => ofO ((cmpV .lt v w s2).map fun t => Val.d (.bool t)) s2) = _
  rw [h1, bind_ok, h2]
  rfl
theorem ev_ite {Kc : Cfg} {n : Nat} {c a b : ME} {t : Bool} {s : MS} (h : (sem Kc n).ev c s = .ok (.d (.bool t)) s) : (sem Kc (n + 1)).ev (.ite c a b) s = if t then (sem Kc n).ev a s else (sem Kc n).ev b s := by
  show (tst (sem Kc n).ev c s).bind (fun t s1 => if t then (sem Kc n).ev a s1 else (sem Kc n).ev b s1) = _
  have e : tst (sem Kc n).ev c s = .ok t s := by
    show ((sem Kc n).ev c s).bind _ = _
    rw [h]
    rfl
  rw [e]
  rfl
theorem ev_abs {Kc : Cfg} {n : Nat} {a : ME} {i : Int} {s s1 : MS} (h1 : (sem Kc n).ev a s = .ok (.d (.int i)) s1) : (sem Kc (n + 1)).ev (.blt .abs [a]) s = .ok (.d (.int (if i < 0 then -i else i))) s1 := by
  show (((sem Kc n).ev a s).bind fun v s1 => (Out.ok [] s1 : Out (List Val)).bind fun vs s2 => .ok (v :: vs) s2).bind (fun vs s1 => bltV .abs vs s1) = _
  rw [h1]
  rfl
theorem ev_intb {Kc : Cfg} {n : Nat} {a : ME} {t : Bool} {s s1 : MS} (h1 : (sem Kc n).ev a s = .ok (.d (.bool t)) s1) : (sem Kc (n + 1)).ev (.blt .int [a]) s = .ok (.d (.int (if t then 1 else 0))) s1 := by
  show (((sem Kc n).ev a s).bind fun v s1 => (Out.ok [] s1 : Out (List Val)).bind fun vs s2 => .ok (v :: vs) s2).bind (fun vs s1 => bltV .int vs s1) = _
  rw [h1]
  rfl
theorem ev_max {Kc : Cfg} {n : Nat} {a b : ME} {i j : Int} {s : MS} (h1 : (sem Kc n).ev a s = .ok (.d (.int i)) s) (h2 : (sem Kc n).ev b s = .ok (.d (.int j)) s) : (sem Kc (n + 1)).ev (.blt .max2 [a, b]) s = .ok (.d (.int (if j > i then j else i))) s := by
  show (((sem Kc n).ev a s).bind fun v s1 => (((sem Kc n).ev b s1).bind fun w s2 => (Out.ok [] s2 : Out (List Val)).bind fun vs s3 => .ok (w :: vs) s3).bind fun vs s2 => .ok (v :: vs) s2).bind (fun vs s1 => bltV .max2 vs s1) = _
  rw [h1, bind_ok, h2]
  rfl
theorem ev_min {Kc : Cfg} {n : Nat} {a b : ME} {i j : Int} {s : MS} (h1 : (sem Kc n).ev a s = .ok (.d (.int i)) s) (h2 : (sem Kc n).ev b s = .ok (.d (.int j)) s) : (sem Kc (n + 1)).ev (.blt .min2 [a, b]) s = .ok (.d (.int (if j < i then j else i))) s := by
  show (((sem Kc n).ev a s).bind fun v s1 => (((sem Kc n).ev b s1).bind fun w s2 => (Out.ok [] s2 : Out (List Val)).bind fun vs s3 => .ok (w :: vs) s3).bind fun vs s2 => .ok (v :: vs) s2).bind (fun vs s1 => bltV .min2 vs s1) = _
  rw [h1, bind_ok, h2]
  rfl
abbrev bDip : List MSt := [.iff (.cmp .gt (.ix (.slot 0) (.con (.int 0))) (.con (.int 0))) [.asg (.n 4) (.bin .mod (.blt .int [.ix (.slot 0) (.con (.int 0))]) (.slot 1)), .sti (.slot 0) (.con (.int 0)) (.bin .fdiv (.ix (.slot 0) (.con (.int 0))) (.slot 1)), .ret (.slot 4)] [], .sti (.slot 0) (.con (.int 2)) (.bin .add (.ix (.slot 0) (.con (.int 2))) (.con (.int 1))), .asg (.n 2) (.bin .mod (.blt .int [.bin .add (.ix (.slot 0) (.con (.int 1))) (.bin .mul (.con (.int 10000121)) (.ix (.slot 0) (.con (.int 2))))]) (.con (.int 2305843009213693951))), .asg (.n 3) (.bin .add (.bin .mul (.bin .mod (.blt .int [.bin .add (.bin .mul (.slot 2) (.slot 2)) (.bin .mul (.con (.int 587)) (.ix (.slot 0) (.con (.int 2))))]) (.con (.int 2305843009213693951))) (.con (.int 8589934609))) (.slot 2)), .ret (.bin .mod (.blt .int [.bin .fdiv (.slot 3) (.con (.int 131072))]) (.slot 1))]
abbrev bOne (gd : Nat) : List MSt := [.ret (.ix (.slot 1) (.callr gd 0 [.blt .len [.slot 1]]))]
abbrev bSack : List MSt := [.asg (.n 2) (.ite (.cmp .lt (.slot 1) (.blt .len [.slot 0])) (.blt .int [.ix (.slot 0) (.slot 1)]) (.bin .add (.bin .mul (.con (.int 389)) (.slot 1)) (.con (.int 23)))), .asg (.n 3) (.bin .mod (.blt .int [.blt .abs [.slot 2]]) (.bin .pow (.bin .pow (.con (.int 10)) (.con (.int 53))) (.con (.int 6)))), .asg (.n 4) (.bin .add (.bin .add (.bin .add (.bin .mul (.bin .mod (.slot 3) (.con (.int 2305843009213693951))) (.con (.int 97))) (.bin .mul (.con (.int 613)) (.slot 1))) (.bin .mul (.con (.int 41)) (.blt .int [.cmp .lt (.slot 2) (.con (.int 0))]))) (.con (.int 67))), .ret (.lst [.blt .max2 [.con (.int 0), .bin .sub (.slot 3) (.bin .pow (.con (.int 10)) (.con (.int 15)))], .slot 4, .con (.int 0)])]

abbrev BIG : Int := 1000000000000000000000000000000
noncomputable abbrev KD (P : Prog) (lim l : Nat) : Cfg := cfg P lim 40 l
section
variable {P : Prog} {lim gs gd go : Nat} (hs : P.fns[gs]? = some ⟨2, 5, false, bSack⟩) (hd : P.fns[gd]? = some ⟨2, 5, true, bDip⟩) (ho : P.fns[go]? = some ⟨2, 2, true, bOne gd⟩)
abbrev dipS (n x y z : Int) (a b c : Option Val) : MS := ⟨[some (.ref 0), some (.d (.int n)), a, b, c], [.lst [.d (.int x), .d (.int y), .d (.int z)] true]⟩

theorem call_of {l g : Nat} {fn : Fn} {inp : Option (List PyData)} {args : List PyData} (h : P.fns[g]? = some fn) : callF P lim 40 (l + 1) g inp args = runFn (KD P lim l) 40 fn inp args := by
  rw [callF_succ, h]
include hd in
theorem dip1 {l : Nat} {x y z n : Int} (hx : 0 < x) (hn : 0 < n) (hn2 : n.natAbs.log2 < 9000) : callF P lim 40 (l + 1) gd (some [.int x, .int y, .int z]) [.int n] = .ok (.d (.int (x % n))) (some [.int (x / n), .int y, .int z]) := by
  rw [call_of hd]
  have t1 : tst (sem (KD P lim l) 39).ev (.cmp .gt (.ix (.slot 0) (.con (.int 0))) (.con (.int 0))) (dipS n x y z none none none) = .ok (decide (0 < x)) (dipS n x y z none none none) := rfl
  rw [decide_eq_true hx] at t1
  have a1 : (sem (KD P lim l) 39).ex (.asg (.n 4) (.bin .mod (.blt .int [.ix (.slot 0) (.con (.int 0))]) (.slot 1))) (dipS n x y z none none none) = .ok .next (dipS n x y z none none (some (.d (.int (x % n))))) :=
    ex_asg (i := 4) (s1 := dipS n x y z none none none) (ev_bin (i := x) (j := n) (ev_int rfl) rfl (mod_ok hn)) (by show (4 : Nat) < 5; decide)
  have e2 : (sem (KD P lim l) 38).ev (.bin .fdiv (.ix (.slot 0) (.con (.int 0))) (.slot 1)) (dipS n x y z none none (some (.d (.int (x % n))))) = .ok (.d (.int (x / n))) (dipS n x y z none none (some (.d (.int (x % n))))) := ev_bin (i := x) (j := n) rfl rfl (div_ok hn hn2)
  have a2 : (sem (KD P lim l) 39).ex (.sti (.slot 0) (.con (.int 0)) (.bin .fdiv (.ix (.slot 0) (.con (.int 0))) (.slot 1))) (dipS n x y z none none (some (.d (.int (x % n))))) = .ok .next (dipS n (x / n) y z none none (some (.d (.int (x % n))))) := by
    show ((sem (KD P lim l) 38).ev _ _).bind _ = _
    rw [e2]
    rfl
  have a3 : (sem (KD P lim l) 39).ex (.ret (.slot 4)) (dipS n (x / n) y z none none (some (.d (.int (x % n))))) = .ok (.ret (.d (.int (x % n)))) (dipS n (x / n) y z none none (some (.d (.int (x % n))))) := rfl
  have b : exs (sem (KD P lim l) 40).ex bDip (dipS n x y z none none none) = .ok (.ret (.d (.int (x % n)))) (dipS n (x / n) y z none none (some (.d (.int (x % n))))) := by
    unfold bDip
    refine exs_ret ((ex_iff t1).trans ?_)
    rw [if_pos rfl, exs_next a1, exs_next a2]
    exact exs_ret a3
  have st : MI.start ⟨2, 5, true, bDip⟩ (some [.int x, .int y, .int z]) [.int n] = dipS n x y z none none none := rfl
  unfold runFn
  rw [st]
  show (match exs (sem (KD P lim l) 40).ex bDip (dipS n x y z none none none) with
    | .ok (.ret v) s => finish true v s
    | .ok .next s => finish true (.d .none) s
    | .ok _ _ => .bad
    | .exc c x s => match outOf true s with
      | some out => .exc c x out
      | none => .bad
    | .bad => .bad) = _
  rw [b]
  rfl
theorem bits61 (a : Int) : (Builtin.Int.intBits (a % 2305843009213693951) : Int) ≤ 61 := by
  have h : (a % 2305843009213693951).natAbs < 2 ^ 61 := by
    have h1 := Int.emod_nonneg a (show (2305843009213693951 : Int) ≠ 0 by decide)
    have h2 := Int.emod_lt_of_pos a (show (0 : Int) < 2305843009213693951 by decide)
    have : (2 : Nat) ^ 61 = 2305843009213693952 := by decide
    omega
  have := PyProof.Rows.intBits_le h
  omega
theorem bitsZ {z : Int} (h0 : 0 ≤ z) (h1 : z ≤ BIG) : (Builtin.Int.intBits z : Int) ≤ 100 := by
  have h : z.natAbs < 2 ^ 100 := by
    have : (2 : Nat) ^ 100 = 1267650600228229401496703205376 := by decide
    unfold BIG at h1
    omega
  have := PyProof.Rows.intBits_le h
  omega
/-- a draw's number behind the digits -/
def dipOne (y z : Int) : Int := (y + 10000121 * (z + 1)) % 2305843009213693951
def dipTwo (y z : Int) : Int := (dipOne y z * dipOne y z + 587 * (z + 1)) % 2305843009213693951 * 8589934609 + dipOne y z
include hd in
theorem dip0 {l : Nat} {x y z n : Int} (hx : ¬ 0 < x) (hn : 0 < n) (hz : 0 ≤ z + 1) (hz2 : z + 1 ≤ BIG) : callF P lim 40 (l + 1) gd (some [.int x, .int y, .int z]) [.int n] = .ok (.d (.int (dipTwo y z / 131072 % n))) (some [.int x, .int y, .int (z + 1)]) := by
  rw [call_of hd]
  have bz := bitsZ hz hz2
  have c1 : (Builtin.Int.intBits 10000121 : Int) = 24 := by decide
  have c2 : (Builtin.Int.intBits 587 : Int) = 10 := by decide
  have c3 : (Builtin.Int.intBits 8589934609 : Int) = 34 := by decide
  have t1 : tst (sem (KD P lim l) 39).ev (.cmp .gt (.ix (.slot 0) (.con (.int 0))) (.con (.int 0))) (dipS n x y z none none none) = .ok (decide (0 < x)) (dipS n x y z none none none) := rfl
  rw [decide_eq_false hx] at t1
  have a1 : (sem (KD P lim l) 40).ex (.sti (.slot 0) (.con (.int 2)) (.bin .add (.ix (.slot 0) (.con (.int 2))) (.con (.int 1)))) (dipS n x y z none none none) = .ok .next (dipS n x y (z + 1) none none none) := rfl
  obtain ⟨one, h1⟩ : ∃ one : Int, one = (y + 10000121 * (z + 1)) % 2305843009213693951 := ⟨_, rfl⟩
  have b1 : (Builtin.Int.intBits one : Int) ≤ 61 := by rw [h1]; exact bits61 _
  have a2 : (sem (KD P lim l) 40).ex (.asg (.n 2) (.bin .mod (.blt .int [.bin .add (.ix (.slot 0) (.con (.int 1))) (.bin .mul (.con (.int 10000121)) (.ix (.slot 0) (.con (.int 2))))]) (.con (.int 2305843009213693951)))) (dipS n x y (z + 1) none none none) = .ok .next (dipS n x y (z + 1) (some (.d (.int one))) none none) := by
    rw [h1]
    exact ex_asg (i := 2) (s1 := dipS n x y (z + 1) none none none) (ev_bin (j := 2305843009213693951) (ev_int (ev_bin (i := y) rfl (ev_bin (i := 10000121) (j := z + 1) rfl rfl (mul_ok (by omega))) rfl)) rfl (mod_ok (by decide))) (by show (2 : Nat) < 5; decide)
  obtain ⟨two, h2⟩ : ∃ two : Int, two = (one * one + 587 * (z + 1)) % 2305843009213693951 * 8589934609 + one := ⟨_, rfl⟩
  have a3 : (sem (KD P lim l) 40).ex (.asg (.n 3) (.bin .add (.bin .mul (.bin .mod (.blt .int [.bin .add (.bin .mul (.slot 2) (.slot 2)) (.bin .mul (.con (.int 587)) (.ix (.slot 0) (.con (.int 2))))]) (.con (.int 2305843009213693951))) (.con (.int 8589934609))) (.slot 2))) (dipS n x y (z + 1) (some (.d (.int one))) none none) = .ok .next (dipS n x y (z + 1) (some (.d (.int one))) (some (.d (.int two))) none) := by
    rw [h2]
    have b2 := bits61 (one * one + 587 * (z + 1))
    exact ex_asg (i := 3) (s1 := dipS n x y (z + 1) (some (.d (.int one))) none none) (ev_bin (j := one) (ev_bin (j := 8589934609) (ev_bin (j := 2305843009213693951) (ev_int (ev_bin (ev_bin (i := one) (j := one) rfl rfl (mul_ok (by omega))) (ev_bin (i := 587) (j := z + 1) rfl rfl (mul_ok (by omega))) rfl)) rfl (mod_ok (by decide))) rfl (mul_ok (by omega))) rfl rfl) (by show (3 : Nat) < 5; decide)
  have a4 : (sem (KD P lim l) 40).ex (.ret (.bin .mod (.blt .int [.bin .fdiv (.slot 3) (.con (.int 131072))]) (.slot 1))) (dipS n x y (z + 1) (some (.d (.int one))) (some (.d (.int two))) none) = .ok (.ret (.d (.int (two / 131072 % n)))) (dipS n x y (z + 1) (some (.d (.int one))) (some (.d (.int two))) none) :=
    ex_ret (ev_bin (j := n) (ev_int (ev_bin (i := two) (j := 131072) rfl rfl (div_ok (by decide) (by decide)))) rfl (mod_ok hn))
  show _ = RF.ok (.d (.int (dipTwo y z / 131072 % n))) (some [.int x, .int y, .int (z + 1)])
  have h2' : two = dipTwo y z := by rw [h2, h1]; rfl
  rw [← h2']
  have b : exs (sem (KD P lim l) 40).ex bDip (dipS n x y z none none none) = .ok (.ret (.d (.int (two / 131072 % n)))) (dipS n x y (z + 1) (some (.d (.int one))) (some (.d (.int two))) none) := by
    unfold bDip
    refine (exs_next ((ex_iff t1).trans rfl)).trans ?_
    rw [exs_next a1, exs_next a2, exs_next a3]
    exact exs_ret a4
  have st : MI.start ⟨2, 5, true, bDip⟩ (some [.int x, .int y, .int z]) [.int n] = dipS n x y z none none none := rfl
  unfold runFn
  rw [st]
  show (match exs (sem (KD P lim l) 40).ex bDip (dipS n x y z none none none) with
    | .ok (.ret v) s => finish true v s
    | .ok .next s => finish true (.d .none) s
    | .ok _ _ => .bad
    | .exc c x s => match outOf true s with
      | some out => .exc c x out
      | none => .bad
    | .bad => .bad) = _
  rw [b]
  rfl
/-- a dip's number, the sack behind it -/
def dipR (x y z n : Int) : Int := if 0 < x then x % n else dipTwo y z / 131072 % n
def dipX (x n : Int) : Int := if 0 < x then x / n else x
def dipZ (x z : Int) : Int := if 0 < x then z else z + 1
include hd in
theorem dipC {l : Nat} {x y z n : Int} (hn : 0 < n) (hn2 : n.natAbs.log2 < 9000) (hz : 0 ≤ z) (hz2 : z < BIG) : callF P lim 40 (l + 1) gd (some [.int x, .int y, .int z]) [.int n] = .ok (.d (.int (dipR x y z n))) (some [.int (dipX x n), .int y, .int (dipZ x z)]) := by
  unfold dipR dipX dipZ
  by_cases hx : 0 < x
  · rw [if_pos hx, if_pos hx, if_pos hx]
    exact dip1 hd hx hn hn2
  · rw [if_neg hx, if_neg hx, if_neg hx]
    exact dip0 hd hx hn (by omega) (by omega)
theorem dipR_range {x y z n : Int} (hn : 0 < n) : 0 ≤ dipR x y z n ∧ dipR x y z n < n := by
  unfold dipR
  split <;> exact ⟨Int.emod_nonneg _ (by omega), Int.emod_lt_of_pos _ hn⟩
theorem dipZ_range {x z : Int} : z ≤ dipZ x z ∧ dipZ x z ≤ z + 1 := by
  unfold dipZ
  split <;> omega
include hd in
/-- a dip: a number below n; the sack keeps its form -/
theorem dip {l : Nat} {x y z n : Int} (hn : 0 < n) (hn2 : n.natAbs.log2 < 9000) (hz : 0 ≤ z) (hz2 : z < BIG) : ∃ (r : Nat) (x' z' : Int), callF P lim 40 (l + 1) gd (some [.int x, .int y, .int z]) [.int n] = .ok (.d (.int r)) (some [.int x', .int y, .int z']) ∧ (r : Int) < n ∧ 0 ≤ z' ∧ z' ≤ z + 1 := by
  have r := dipR_range (x := x) (y := y) (z := z) hn
  have q := dipZ_range (x := x) (z := z)
  refine ⟨(dipR x y z n).toNat, dipX x n, dipZ x z, ?_, by omega, by omega, by omega⟩
  rw [Int.toNat_of_nonneg r.1]
  exact dipC hd hn hn2 hz hz2
/-! ### calls within the law -/
theorem frzs_d (os : List MO) : ∀ ds : List PyData, frzs os (ds.map .d) = some (ds, os)
  | [] => rfl
  | d :: ds => by
    show (match frz FD os (.d d) with
      | none => none
      | some (x, os1) => match frzL (frz FD) os1 (ds.map .d) with
        | none => none
        | some (xs, os2) => some (x :: xs, os2)) = _
    have e : frz FD os (.d d) = some (d, os) := rfl
    have e2 : frzL (frz FD) os (ds.map .d) = some (ds, os) := frzs_d os ds
    rw [e]
    dsimp only
    rw [e2]
theorem callV_exc {Kc : Cfg} {g c : Nat} {ds dfl : List PyData} {x : PyData} {s : MS} (hc : Kc.call g none (ds ++ dfl) = .exc c x none) : callV Kc g (ds.map .d) dfl s = .exc c x s := by
  unfold callV
  rw [frzs_d]
  dsimp only
  rw [hc]
  rfl
theorem callV_ok {Kc : Cfg} {g : Nat} {ds dfl : List PyData} {x : PyData} {s : MS} (hc : Kc.call g none (ds ++ dfl) = .ok (.d x) none) : callV Kc g (ds.map .d) dfl s = .ok (.d x) s := by
  unfold callV
  rw [frzs_d]
  dsimp only
  rw [hc]
  rfl
theorem callv_exc {Kc : Cfg} {n g c i : Nat} {es : List ME} {ds : List PyData} {x : PyData} {s : MS} (h7 : s.env[i]? = some (some (.fn g))) (ha : evs (sem Kc n).ev es s = .ok (ds.map .d) s) (hc : Kc.call g none (ds ++ Kc.dfl g) = .exc c x none) : (sem Kc (n + 1)).ev (.callv i es) s = .exc c x s := by
  show (match s.env[i]? with
    | some (some (.fn g)) => (evs (sem Kc n).ev es s).bind fun vs s1 => callV Kc g vs (Kc.dfl g) s1
    | _ => .bad) = _
  rw [h7]
  show (evs (sem Kc n).ev es s).bind _ = _
  rw [ha]
  exact callV_exc hc
theorem callv_ok {Kc : Cfg} {n g i : Nat} {es : List ME} {ds : List PyData} {x : PyData} {s : MS} (h7 : s.env[i]? = some (some (.fn g))) (ha : evs (sem Kc n).ev es s = .ok (ds.map .d) s) (hc : Kc.call g none (ds ++ Kc.dfl g) = .ok (.d x) none) : (sem Kc (n + 1)).ev (.callv i es) s = .ok (.d x) s := by
  show (match s.env[i]? with
    | some (some (.fn g)) => (evs (sem Kc n).ev es s).bind fun vs s1 => callV Kc g vs (Kc.dfl g) s1
    | _ => .bad) = _
  rw [h7]
  show (evs (sem Kc n).ev es s).bind _ = _
  rw [ha]
  exact callV_ok hc
theorem call_ok {Kc : Cfg} {n g : Nat} {es : List ME} {ds dfl : List PyData} {x : PyData} {s s1 : MS} (ha : evs (sem Kc n).ev es s = .ok (ds.map .d) s1) (hc : Kc.call g none (ds ++ dfl) = .ok (.d x) none) : (sem Kc (n + 1)).ev (.call g es dfl) s = .ok (.d x) s1 := by
  show (evs (sem Kc n).ev es s).bind _ = _
  rw [ha]
  exact callV_ok hc
theorem call_exc {Kc : Cfg} {n g c : Nat} {es : List ME} {ds dfl : List PyData} {x : PyData} {s s1 : MS} (ha : evs (sem Kc n).ev es s = .ok (ds.map .d) s1) (hc : Kc.call g none (ds ++ dfl) = .exc c x none) : (sem Kc (n + 1)).ev (.call g es dfl) s = .exc c x s1 := by
  show (evs (sem Kc n).ev es s).bind _ = _
  rw [ha]
  exact callV_exc hc
/-- told.append(x(lambda: body)): what is told, the state behind the body -/
theorem told_gen {Kc : Cfg} {n t i : Nat} {e : ME} {d : PyData} {s s1 : MS} {xs : List Val} (hb : (sem Kc (n + 1)).ev e s = .ok (.d d) s1) (hse : s1.env = s.env) (he : s.env[i]? = some (some (.ref t))) (ho0 : tyOf s.objs (.ref t) = some .list) (ho : s1.objs[t]? = some (.lst xs true)) (hl : xs.length < 1000) :
    (sem Kc (n + 3)).ex (.ex (.mth .append (.slot i) [e])) s = .ok .next { s1 with objs := s1.objs.set t (.lst (xs ++ [.d d]) true) } := by
  have e1 : (sem Kc (n + 1)).ev (.slot i) s = .ok (.ref t) s := by
    show (match s.env[i]? with
      | some (some v) => Out.ok v s
      | _ => .bad) = _
    rw [he]
  have e3 : (sem Kc (n + 2)).ev (.mth .append (.slot i) [e]) s = .ok (.d .none) { s1 with objs := s1.objs.set t (.lst (xs ++ [.d d]) true) } := by
    show ((sem Kc (n + 1)).ev (.slot i) s).bind (fun v s1 => if mthOk .append (tyOf s1.objs v) then (evs (sem Kc (n + 1)).ev [e] s1).bind fun vs s2 => mthV .append v vs s2 else .bad) = _
    rw [e1, bind_ok, ho0, if_pos (show mthOk .append (some Ty.list) = true from rfl)]
    show (((sem Kc (n + 1)).ev e s).bind _).bind _ = _
    rw [hb]
    show (match s1.objs[t]? with
      | some (.lst xs true) => if xs.length < 16777216 && !isFn (Val.d d) then (Out.ok (Val.d .none) { s1 with objs := s1.objs.set t (.lst (xs ++ [Val.d d]) true) } : Out Val) else .bad
      | _ => .bad) = _
    rw [ho]
    dsimp only
    rw [if_pos]
    simp [isFn]
    omega
  show ((sem Kc (n + 2)).ev _ s).bind _ = _
  rw [e3]
  rfl
theorem tryl_exc {Kc : Cfg} {n c : Nat} {hs : List (Nat × HR)} {tag : PyData} {body : ME} {x : PyData} {r : HR} {s s1 : MS} (hb : (sem Kc n).ev body s = .exc c x s1) (hc : caught Kc.sub c hs = some r) : (sem Kc (n + 1)).ev (.tryl 0 hs tag body) s = .ok (.d (hrOf x r)) s1 := by
  show (match (sem Kc n).ev body s with
    | .ok v s1 => pureV s1 v fun x s2 => .ok (.d (.tuple [tag, x])) s2
    | .exc c x s1 => match caught Kc.sub c hs with
      | some r => .ok (.d (hrOf x r)) s1
      | none => .bad
    | .bad => .bad) = _
  rw [hb]
  dsimp only
  rw [hc]
theorem tryl_ok {Kc : Cfg} {n : Nat} {hs : List (Nat × HR)} {tag : PyData} {body : ME} {x : PyData} {s s1 : MS} (hb : (sem Kc n).ev body s = .ok (.d x) s1) : (sem Kc (n + 1)).ev (.tryl 0 hs tag body) s = .ok (.d (.tuple [tag, x])) s1 := by
  show (match (sem Kc n).ev body s with
    | .ok v s1 => pureV s1 v fun x s2 => .ok (.d (.tuple [tag, x])) s2
    | .exc c x s1 => match caught Kc.sub c hs with
      | some r => .ok (.d (hrOf x r)) s1
      | none => .bad
    | .bad => .bad) = _
  rw [hb]
  rfl
theorem told_step {Kc : Cfg} {n t c i : Nat} {hs : List (Nat × HR)} {tag : PyData} {body : ME} {x : PyData} {r : HR} {s : MS} {xs : List Val} (hb : (sem Kc n).ev body s = .exc c x s) (hc : caught Kc.sub c hs = some r) (he : s.env[i]? = some (some (.ref t))) (ho : s.objs[t]? = some (.lst xs true)) (hl : xs.length < 1000) :
    (sem Kc (n + 3)).ex (.ex (.mth .append (.slot i) [.tryl 0 hs tag body])) s = .ok .next { s with objs := s.objs.set t (.lst (xs ++ [.d (hrOf x r)]) true) } := by
  refine told_gen (tryl_exc hb hc) rfl he ?_ ho hl
  show (match s.objs[t]? with
    | some (.lst _ _) => some Ty.list
    | some (.dct _ _) => some .dict
    | none => none) = _
  rw [ho]
theorem frL_next {A : Item → MS → Option MS} {B : MS → Out MI.Flow} {it : Item} {r : List Item} {s s1 s2 : MS} (h1 : A it s = some s1) (h2 : B s1 = .ok .next s2) : frL A B (it :: r) s = frL A B r s2 := by
  show (match A it s with
    | none => Out.bad
    | some s1 => (B s1).bind fun f s2 => match f with
      | .next => frL A B r s2
      | .cnt => frL A B r s2
      | .brk => .ok .next s2
      | .ret v => .ok (.ret v) s2) = _
  rw [h1]
  dsimp only
  rw [h2]
  rfl

abbrev skO (a b c : Int) : MO := .lst [.d (.int a), .d (.int b), .d (.int c)] true
theorem draw {Kc : Cfg} {n g : Nat} {es : List ME} {vs : List Val} {ds : List PyData} {v : PyData} {os : List MO} {a b c a' c' : Int} {s s1 : MS} (h0 : s.env[0]? = some (some (.ref 0))) (h1 : evs (sem Kc n).ev es s = .ok vs s1) (hf : frzs s1.objs vs = some (ds, os)) (ho : os[0]? = some (skO a b c))
    (hc : Kc.call g (some [.int a, .int b, .int c]) ds = .ok (.d v) (some [.int a', .int b, .int c'])) : (sem Kc (n + 1)).ev (.callr g 0 es) s = .ok (.d v) { s1 with objs := os.set 0 (skO a' b c') } := by
  show (match s.env[0]? with
    | some (some (.ref n')) => (evs (sem Kc n).ev es s).bind fun vs s1 => callR Kc g n' vs s1
    | _ => .bad) = _
  rw [h0]
  show (evs (sem Kc n).ev es s).bind _ = _
  rw [h1]
  show callR Kc g 0 vs s1 = _
  unfold callR
  rw [hf]
  dsimp only
  rw [ho]
  show ofRFr (Kc.call g (some [.int a, .int b, .int c]) ds) 0 { s1 with objs := os } = _
  rw [hc]
  rfl
abbrev oneS (xs : List PyData) (a b c : Int) : MS := ⟨[some (.ref 0), some (.d (.list xs))], [skO a b c]⟩
include hd ho in
theorem one {l : Nat} {a b c : Int} {xs : List PyData} (hx : 0 < xs.length) (hl : xs.length < 1000) (hz : 0 ≤ c) (hz2 : c < BIG) : ∃ (v : PyData) (a' c' : Int), callF P lim 40 (l + 2) go (some [.int a, .int b, .int c]) [.list xs] = .ok (.d v) (some [.int a', .int b, .int c']) ∧ v ∈ xs ∧ 0 ≤ c' ∧ c' ≤ c + 1 := by
  obtain ⟨r, a', c', h1, h2, h3, h4⟩ := dip hd (lim := lim) (l := l) (x := a) (y := b) (z := c) (n := (xs.length : Int)) (by omega) (by
    rw [Int.natAbs_natCast]
    exact Nat.lt_of_le_of_lt (Nat.log2_le_self _) (by omega)) hz hz2
  have hr : r < xs.length := by omega
  refine ⟨xs[r], a', c', ?_, List.getElem_mem hr, h3, h4⟩
  rw [call_of ho]
  have st : MI.start ⟨2, 2, true, (bOne gd)⟩ (some [.int a, .int b, .int c]) [.list xs] = (oneS xs a b c) := rfl
  have e1 : evs (sem (KD P lim (l + 1)) 37).ev [.blt .len [.slot 1]] (oneS xs a b c) = .ok [.d (.int xs.length)] (oneS xs a b c) := by
    show ((ofO ((some (xs.map Val.d).length).map fun (n : Nat) => Val.d (.int (n : Int))) (oneS xs a b c)).bind fun v s1 => (Out.ok [] s1 : Out (List Val)).bind fun vs s2 => .ok (v :: vs) s2) = _
    rw [List.length_map]
    rfl
  have e2 : (sem (KD P lim (l + 1)) 38).ev (.callr gd 0 [.blt .len [.slot 1]]) (oneS xs a b c) = .ok (.d (.int r)) (oneS xs a' b c') := by
    show (evs (sem (KD P lim (l + 1)) 37).ev [.blt .len [.slot 1]] (oneS xs a b c)).bind (fun vs s1 => callR (KD P lim (l + 1)) gd 0 vs s1) = _
    rw [e1]
    show ofRFr (callF P lim 40 (l + 1) gd (some [.int a, .int b, .int c]) [.int xs.length]) 0 (oneS xs a b c) = _
    rw [h1]
    rfl
  have e3 : (sem (KD P lim (l + 1)) 40).ex (.ret (.ix (.slot 1) (.callr gd 0 [.blt .len [.slot 1]]))) (oneS xs a b c) = .ok (.ret (.d xs[r])) (oneS xs a' b c') := by
    refine ex_ret ?_
    show ((sem (KD P lim (l + 1)) 38).ev (.callr gd 0 [.blt .len [.slot 1]]) (oneS xs a b c)).bind (fun w s2 => ofO (ixV (.d (.list xs)) w s2) s2) = _
    rw [e2]
    show ofO (match place (xs.map Val.d).length (r : Int) with
      | some k => (xs.map Val.d)[k]?
      | none => none) (oneS xs a' b c') = _
    have p : place (xs.map Val.d).length (r : Int) = some r := by
      unfold place
      rw [if_pos (by omega), if_pos (by rw [List.length_map]; omega)]
      simp
    rw [p]
    dsimp only
    rw [List.getElem?_map, List.getElem?_eq_getElem hr]
    rfl
  unfold runFn
  rw [st]
  show (match exs (sem (KD P lim (l + 1)) 40).ex (bOne gd) (oneS xs a b c) with
    | .ok (.ret v) s => finish true v s
    | .ok .next s => finish true (.d .none) s
    | .ok _ _ => .bad
    | .exc c x s => match outOf true s with
      | some out => .exc c x out
      | none => .bad
    | .bad => .bad) = _
  unfold bOne
  rw [exs_ret e3]
  rfl
abbrev s84 (ns : List Int) (k : Int) (e2 e3 e4 : Option Val) : MS := ⟨[some (.d (.list (ns.map .int))), some (.d (.int k)), e2, e3, e4], []⟩
include hs in
theorem sack {l : Nat} {ns : List Int} {k : Nat} (hk : k < 4) : ∃ a b : Int, callF P lim 40 (l + 1) gs none [.list (ns.map .int), .int k] = .ok (.lst [.int a, .int b, .int 0]) none := by
  rw [call_of hs]
  have bk := bitsZ (z := (k : Int)) (by omega) (by unfold BIG; omega)
  have c1 : (Builtin.Int.intBits 389 : Int) = 9 := by decide
  have c2 : (Builtin.Int.intBits 97 : Int) = 7 := by decide
  have c3 : (Builtin.Int.intBits 613 : Int) = 10 := by decide
  have c4 : (Builtin.Int.intBits 41 : Int) = 6 := by decide
  -- the value drawn
  obtain ⟨u, hu⟩ : ∃ u : Int, (sem (KD P lim l) 39).ev (.ite (.cmp .lt (.slot 1) (.blt .len [.slot 0])) (.blt .int [.ix (.slot 0) (.slot 1)]) (.bin .add (.bin .mul (.con (.int 389)) (.slot 1)) (.con (.int 23)))) (s84 ns k none none none) = .ok (.d (.int u)) (s84 ns k none none none) := by
    rw [ev_ite (n := 38) (tst_lt (n := 37) (i := (k : Int)) (j := (ns.length : Int)) rfl (len_ev (n := 35) rfl))]
    by_cases h : (k : Int) < ns.length
    · rw [decide_eq_true h, if_pos rfl]
      have hk2 : k < ns.length := by omega
      refine ⟨ns[k], ev_int (n := 37) ?_⟩
      show ofO (match place ((ns.map PyData.int).map Val.d).length (k : Int) with
        | some p => ((ns.map PyData.int).map Val.d)[p]?
        | none => none) (s84 ns k none none none) = _
      have p : place ((ns.map PyData.int).map Val.d).length (k : Int) = some k := by
        unfold place
        rw [if_pos (by omega), if_pos (by rw [List.length_map, List.length_map]; omega)]
        simp
      rw [p]
      dsimp only
      rw [List.getElem?_map, List.getElem?_map, List.getElem?_eq_getElem hk2]
      rfl
    · rw [decide_eq_false h]
      exact ⟨389 * k + 23, ev_bin (n := 37) (i := 389 * k) (j := 23) (ev_bin (n := 36) (i := 389) (j := (k : Int)) rfl rfl (mul_ok (by omega))) rfl rfl⟩
  have a1 : (sem (KD P lim l) 40).ex (.asg (.n 2) (.ite (.cmp .lt (.slot 1) (.blt .len [.slot 0])) (.blt .int [.ix (.slot 0) (.slot 1)]) (.bin .add (.bin .mul (.con (.int 389)) (.slot 1)) (.con (.int 23))))) (s84 ns k none none none) = .ok .next (s84 ns k (some (.d (.int u))) none none) := ex_asg (i := 2) (s1 := s84 ns k none none none) hu (by show (2 : Nat) < 5; decide)
  have q1 : intOp .pow 10 53 = some (10 ^ 53) := by kernel_rfl
  have q2 : intOp .pow (10 ^ 53) 6 = some ((10 ^ 53) ^ 6) := by kernel_rfl
  have q3 : intOp .pow 10 15 = some (10 ^ 15) := by kernel_rfl
  obtain ⟨r, hr⟩ : ∃ r : Int, r = (if u < 0 then -u else u) % (10 ^ 53) ^ 6 := ⟨_, rfl⟩
  have a2 : (sem (KD P lim l) 40).ex (.asg (.n 3) (.bin .mod (.blt .int [.blt .abs [.slot 2]]) (.bin .pow (.bin .pow (.con (.int 10)) (.con (.int 53))) (.con (.int 6))))) (s84 ns k (some (.d (.int u))) none none) = .ok .next (s84 ns k (some (.d (.int u))) (some (.d (.int r))) none) := by
    rw [hr]
    exact ex_asg (i := 3) (s1 := s84 ns k (some (.d (.int u))) none none) (ev_bin (n := 38) (j := (10 ^ 53) ^ 6) (ev_int (n := 37) (ev_abs (n := 36) (i := u) rfl)) (ev_bin (n := 37) (i := 10 ^ 53) (j := 6) (ev_bin (n := 36) (i := 10) (j := 53) rfl rfl q1) rfl q2) (mod_ok (by decide))) (by show (3 : Nat) < 5; decide)
  obtain ⟨b, hb⟩ : ∃ b : Int, b = r % 2305843009213693951 * 97 + 613 * k + 41 * (if decide (u < 0) then 1 else 0) + 67 := ⟨_, rfl⟩
  have a3 : (sem (KD P lim l) 40).ex (.asg (.n 4) (.bin .add (.bin .add (.bin .add (.bin .mul (.bin .mod (.slot 3) (.con (.int 2305843009213693951))) (.con (.int 97))) (.bin .mul (.con (.int 613)) (.slot 1))) (.bin .mul (.con (.int 41)) (.blt .int [.cmp .lt (.slot 2) (.con (.int 0))]))) (.con (.int 67)))) (s84 ns k (some (.d (.int u))) (some (.d (.int r))) none) = .ok .next (s84 ns k (some (.d (.int u))) (some (.d (.int r))) (some (.d (.int b)))) := by
    rw [hb]
    have b2 := bits61 r
    have b3 : (Builtin.Int.intBits (if decide (u < 0) then 1 else 0) : Int) ≤ 100 := by
      refine bitsZ ?_ ?_
      · split <;> decide
      · split <;> decide
    exact ex_asg (i := 4) (s1 := s84 ns k (some (.d (.int u))) (some (.d (.int r))) none) (ev_bin (n := 38) (j := 67) (ev_bin (n := 37) (ev_bin (n := 36) (ev_bin (n := 35) (j := 97) (ev_bin (n := 34) (i := r) (j := 2305843009213693951) rfl rfl (mod_ok (by decide))) rfl (mul_ok (by omega))) (ev_bin (n := 35) (i := 613) (j := (k : Int)) rfl rfl (mul_ok (by omega))) rfl) (ev_bin (n := 36) (i := 41) rfl (ev_intb (n := 35) (tst_lt (n := 34) (i := u) (j := 0) rfl rfl)) (mul_ok (by omega))) rfl) rfl rfl) (by show (4 : Nat) < 5; decide)
  obtain ⟨a, ha⟩ : ∃ a : Int, a = if r - 10 ^ 15 > 0 then r - 10 ^ 15 else 0 := ⟨_, rfl⟩
  have m1 : (sem (KD P lim l) 38).ev (.blt .max2 [.con (.int 0), .bin .sub (.slot 3) (.bin .pow (.con (.int 10)) (.con (.int 15)))]) (s84 ns k (some (.d (.int u))) (some (.d (.int r))) (some (.d (.int b)))) = .ok (.d (.int a)) (s84 ns k (some (.d (.int u))) (some (.d (.int r))) (some (.d (.int b)))) := by
    rw [ha]
    exact ev_max (n := 37) rfl (ev_bin (n := 36) (i := r) (j := 10 ^ 15) rfl (ev_bin (n := 35) (i := 10) (j := 15) rfl rfl q3) rfl)
  refine ⟨a, b, ?_⟩
  have m2 : (sem (KD P lim l) 39).ev (.lst [.blt .max2 [.con (.int 0), .bin .sub (.slot 3) (.bin .pow (.con (.int 10)) (.con (.int 15)))], .slot 4, .con (.int 0)]) (s84 ns k (some (.d (.int u))) (some (.d (.int r))) (some (.d (.int b)))) = .ok (.ref 0) { s84 ns k (some (.d (.int u))) (some (.d (.int r))) (some (.d (.int b))) with objs := [skO a b 0] } := by
    show ((((sem (KD P lim l) 38).ev (.blt .max2 [.con (.int 0), .bin .sub (.slot 3) (.bin .pow (.con (.int 10)) (.con (.int 15)))]) (s84 ns k (some (.d (.int u))) (some (.d (.int r))) (some (.d (.int b))))).bind fun v s1 => (evs (sem (KD P lim l) 38).ev [.slot 4, .con (.int 0)] s1).bind fun vs s2 => .ok (v :: vs) s2)).bind (fun vs s1 => if noFns vs then newLst s1 vs else .bad) = _
    rw [m1]
    rfl
  have fin : exs (sem (KD P lim l) 40).ex bSack (s84 ns k none none none) = .ok (.ret (.ref 0)) { s84 ns k (some (.d (.int u))) (some (.d (.int r))) (some (.d (.int b))) with objs := [skO a b 0] } := by
    unfold bSack
    rw [exs_next a1, exs_next a2, exs_next a3]
    exact exs_ret (ex_ret (n := 39) m2)
  have st : MI.start ⟨2, 5, false, bSack⟩ none [.list (ns.map .int), .int k] = s84 ns k none none none := rfl
  unfold runFn
  rw [st]
  show (match exs (sem (KD P lim l) 40).ex bSack (s84 ns k none none none) with
    | .ok (.ret v) s => finish false v s
    | .ok .next s => finish false (.d .none) s
    | .ok _ _ => .bad
    | .exc c x s => match outOf false s with
      | some out => .exc c x out
      | none => .bad
    | .bad => .bad) = _
  rw [fin]
  rfl


def chkF (x : PyData) : Bool := (x.showable && SeqAt.shaped x) && (sizeOk x.shown.length && PyData.canLay0 (.str x.shown))
theorem repr_ev {Kc : Cfg} {n i t : Nat} {x : PyData} {s : MS} (he : s.env[i]? = some (some (.ref t))) (hs : snap s.objs (.ref t) = some x) (hk : chkF x = true) : (sem Kc (n + 2)).ev (.blt .repr [.slot i]) s = .ok (.d (.str x.shown)) s := by
  have e1 : evs (sem Kc (n + 1)).ev [.slot i] s = .ok [.ref t] s := by
    show ((match s.env[i]? with
      | some (some v) => Out.ok v s
      | _ => .bad).bind _) = _
    rw [he]
    rfl
  show (evs (sem Kc (n + 1)).ev [.slot i] s).bind (fun vs s1 => bltV .repr vs s1) = _
  rw [e1]
  show (match snap s.objs (.ref t) with
    | some x => if x.showable && sizeOk x.shown.length && SeqAt.shaped x then Out.ok (Val.d (.str x.shown)) s else .bad
    | none => .bad) = _
  rw [hs]
  dsimp only
  unfold chkF at hk
  simp only [Bool.and_eq_true] at hk
  rw [if_pos]
  simp only [Bool.and_eq_true]
  exact ⟨⟨hk.1.1, hk.2.1⟩, hk.1.2⟩
theorem ne_same {a : Str} {s : MS} (h : PyData.canLay0 (.str a) = true) : cmpV .ne (.d (.str a)) (.d (.str a)) s = some false := by
  show (eqP (.str a) (.str a)).map (!·) = _
  have e : eqP (.str a) (.str a) = some true := by
    show (if SeqAt.shaped (.str a) && SeqAt.shaped (.str a) then some (PyData.eqv (.str a) (.str a)) else none) = _
    have h1 : PyData.eqv (.str a) (.str a) = true := by simp [PyData.eqv]
    have h2 : SeqAt.shaped (.str a) = true := by
      unfold SeqAt.shaped
      rw [h]
      simp [PyData.depth]
    rw [h1, h2]
    rfl
  rw [e]
  rfl
theorem ex_fr {Kc : Cfg} {n : Nat} {tg : MT} {k : ItK} {it : List ME} {b : List MSt} {s : MS} : (sem Kc (n + 1)).ex (.fr tg k it b) s = (walkF (sem Kc n).ev k it s).bind fun its s2 => frL (asgI tg) (exs (sem Kc n).ex b) its s2 := rfl
theorem ex_forf {Kc : Cfg} {n i : Nat} {gs : List Nat} {b : List MSt} {s : MS} : (sem Kc (n + 1)).ex (.forf i gs b) s = frL (asgI (.n i)) (exs (sem Kc n).ex b) (gs.map fun g => .one (.fn g)) s := rfl
theorem tst_ne {Kc : Cfg} {n : Nat} {a b : ME} {s : MS} {x : Str} (h1 : (sem Kc n).ev a s = .ok (.d (.str x)) s) (h2 : (sem Kc n).ev b s = .ok (.d (.str x)) s) (h : PyData.canLay0 (.str x) = true) : tst (sem Kc (n + 1)).ev (.cmp .ne a b) s = .ok false s := by
  show (((sem Kc n).ev a s).bind fun v s1 => ((sem Kc n).ev b s1).bind fun w s2 => ofO ((cmpV .ne v w s2).map fun t => Val.d (.bool t)) s2).bind (fun v s1 => match boolV v with
    | some b => .ok b s1
    | none => .bad) = _
  rw [h1, bind_ok, h2, bind_ok, ne_same h]
  rfl
theorem iff_skip {Kc : Cfg} {n : Nat} {c : ME} {a : List MSt} {s : MS} (h : tst (sem Kc n).ev c s = .ok false s) : (sem Kc (n + 1)).ex (.iff c a []) s = .ok .next s := (ex_iff h).trans rfl
theorem exs_one {X : MSt → MS → Out MI.Flow} {a : MSt} {s s1 : MS} (h : X a s = .ok .next s1) : exs X [a] s = .ok .next s1 := (exs_next h).trans rfl
theorem due_step {Kc : Cfg} {n t i : Nat} {d : PyData} {s : MS} {xs : List Val} (he : s.env[i]? = some (some (.ref t))) (ho : s.objs[t]? = some (.lst xs true)) (hl : xs.length < 1000) :
    (sem Kc (n + 3)).ex (.ex (.mth .append (.slot i) [.con d])) s = .ok .next { s with objs := s.objs.set t (.lst (xs ++ [.d d]) true) } := by
  have e1 : (sem Kc (n + 1)).ev (.slot i) s = .ok (.ref t) s := by
    show (match s.env[i]? with
      | some (some v) => Out.ok v s
      | _ => .bad) = _
    rw [he]
  have ty : tyOf s.objs (.ref t) = some .list := by
    show (match s.objs[t]? with
      | some (.lst _ _) => some Ty.list
      | some (.dct _ _) => some .dict
      | none => none) = _
    rw [ho]
  have e3 : (sem Kc (n + 2)).ev (.mth .append (.slot i) [.con d]) s = .ok (.d .none) { s with objs := s.objs.set t (.lst (xs ++ [.d d]) true) } := by
    show ((sem Kc (n + 1)).ev (.slot i) s).bind (fun v s1 => if mthOk .append (tyOf s1.objs v) then (evs (sem Kc (n + 1)).ev [.con d] s1).bind fun vs s2 => mthV .append v vs s2 else .bad) = _
    rw [e1, bind_ok, ty, if_pos (show mthOk .append (some Ty.list) = true from rfl)]
    show (match s.objs[t]? with
      | some (.lst xs true) => if xs.length < 16777216 && !isFn (Val.d d) then (Out.ok (Val.d .none) { s with objs := s.objs.set t (.lst (xs ++ [Val.d d]) true) } : Out Val) else .bad
      | _ => .bad) = _
    rw [ho]
    dsimp only
    rw [if_pos]
    simp [isFn]
    omega
  show ((sem Kc (n + 2)).ev _ s).bind _ = _
  rw [e3]
  rfl
section
variable {l gr gl : Nat} (right : ∀ a b c : Int, 0 ≤ c → c < 1000 → ∃ a' c' : Int, callF P lim 40 (l + 1) gr (some [.int a, .int b, .int c]) [] = .ok (.d (.bool true)) (some [.int a', .int b, .int c']) ∧ 0 ≤ c' ∧ c' ≤ c + 5)
abbrev bLaw (gs gr : Nat) : List MSt := [.fr (.n 1) .rng1 [.blt .max2 [.con (.int 1), .blt .min2 [.con (.int 4), .blt .len [.slot 0]]]] [.asg (.n 2) (.call gs [.slot 0, .slot 1] []), .iff (.orr (.nt (.callr gr 2 [])) (.nt (.callr gr 2 []))) [.ret (.con (.bool false))] []], .ret (.con (.bool true))]
variable (hl : P.fns[gl]? = some ⟨1, 3, false, bLaw gs gr⟩)
/-! ### law -/
theorem right_ev {n m : Nat} {a b c a' c' : Int} {s : MS} (h2 : s.env[2]? = some (some (.ref m))) (hm : s.objs[m]? = some (skO a b c)) (h : callF P lim 40 (l + 1) gr (some [.int a, .int b, .int c]) [] = .ok (.d (.bool true)) (some [.int a', .int b, .int c'])) :
    tst (sem (KD P lim (l + 1)) (n + 2)).ev (.nt (.callr gr 2 [])) s = .ok false { s with objs := s.objs.set m (skO a' b c') } := by
  have e : (sem (KD P lim (l + 1)) (n + 1)).ev (.callr gr 2 []) s = .ok (.d (.bool true)) { s with objs := s.objs.set m (skO a' b c') } := by
    show (match s.env[2]? with
      | some (some (.ref n')) => (Out.ok [] s : Out (List Val)).bind fun vs s1 => callR (KD P lim (l + 1)) gr n' vs s1
      | _ => .bad) = _
    rw [h2]
    show callR (KD P lim (l + 1)) gr m [] s = _
    unfold callR
    show (match s.objs[m]? with
      | some (.lst xs true) => match pures xs with
        | some inp => ofRFr ((KD P lim (l + 1)).call gr (some inp) []) m s
        | none => .bad
      | _ => .bad) = _
    rw [hm]
    show ofRFr (callF P lim 40 (l + 1) gr (some [.int a, .int b, .int c]) []) m s = _
    rw [h]
    rfl
  show ((((sem (KD P lim (l + 1)) (n + 1)).ev (.callr gr 2 []) s).bind fun v s1 => match boolV v with
    | some b => .ok b s1
    | none => .bad).bind fun b s1 => .ok (.d (.bool (!b))) s1).bind (fun v s1 => match boolV v with
      | some b => .ok b s1
      | none => .bad) = _
  rw [e]
  rfl
abbrev bodyW (gs gr : Nat) : List MSt := [.asg (.n 2) (.call gs [.slot 0, .slot 1] []), .iff (.orr (.nt (.callr gr 2 [])) (.nt (.callr gr 2 []))) [.ret (.con (.bool false))] []]
include hs right in
theorem turnW {ns : List Int} {k : Nat} {e2 : Option Val} {os : List MO} (hk : k < 4) : ∃ e2' os', exs (sem (KD P lim (l + 1)) 39).ex (bodyW gs gr) ⟨[some (.d (.list (ns.map .int))), some (.d (.int k)), e2], os⟩ = .ok .next ⟨[some (.d (.list (ns.map .int))), some (.d (.int k)), e2'], os'⟩ := by
  obtain ⟨a, b, hs⟩ := sack hs (l := l) (ns := ns) hk
  obtain ⟨a1, c1, r1, g1, k1⟩ := right a b 0 (by decide) (by decide)
  obtain ⟨a2, c2, r2, g2, k2⟩ := right a1 b c1 g1 (by omega)
  have e1 : (sem (KD P lim (l + 1)) 38).ev (.call gs [.slot 0, .slot 1] []) ⟨[some (.d (.list (ns.map .int))), some (.d (.int k)), e2], os⟩ = .ok (.ref os.length) ⟨[some (.d (.list (ns.map .int))), some (.d (.int k)), e2], os ++ [skO a b 0]⟩ := by
    show ofRF (callF P lim 40 (l + 1) gs none [.list (ns.map .int), .int k]) ⟨[some (.d (.list (ns.map .int))), some (.d (.int k)), e2], os⟩ = _
    rw [hs]
    rfl
  have t1 : (sem (KD P lim (l + 1)) 39).ex (.asg (.n 2) (.call gs [.slot 0, .slot 1] [])) ⟨[some (.d (.list (ns.map .int))), some (.d (.int k)), e2], os⟩ = .ok .next ⟨[some (.d (.list (ns.map .int))), some (.d (.int k)), some (.ref os.length)], os ++ [skO a b 0]⟩ :=
    ex_asg (i := 2) (s1 := ⟨[some (.d (.list (ns.map .int))), some (.d (.int k)), e2], os ++ [skO a b 0]⟩) e1 (by show (2 : Nat) < 3; decide)
  have o1 : (os ++ [skO a b 0])[os.length]? = some (skO a b 0) := List.getElem?_concat_length
  have u1 := right_ev (n := 35) (m := os.length) (s := ⟨[some (.d (.list (ns.map .int))), some (.d (.int k)), some (.ref os.length)], os ++ [skO a b 0]⟩) rfl o1 r1
  have o2 : ((os ++ [skO a b 0]).set os.length (skO a1 b c1))[os.length]? = some (skO a1 b c1) := List.getElem?_set_self (by simp)
  have u2 := right_ev (n := 35) (m := os.length) (s := ⟨[some (.d (.list (ns.map .int))), some (.d (.int k)), some (.ref os.length)], (os ++ [skO a b 0]).set os.length (skO a1 b c1)⟩) rfl o2 r2
  have t2 : tst (sem (KD P lim (l + 1)) 38).ev (.orr (.nt (.callr gr 2 [])) (.nt (.callr gr 2 []))) ⟨[some (.d (.list (ns.map .int))), some (.d (.int k)), some (.ref os.length)], os ++ [skO a b 0]⟩ = .ok false ⟨[some (.d (.list (ns.map .int))), some (.d (.int k)), some (.ref os.length)], ((os ++ [skO a b 0]).set os.length (skO a1 b c1)).set os.length (skO a2 b c2)⟩ := by
    show (((tst (sem (KD P lim (l + 1)) 37).ev (.nt (.callr gr 2 [])) ⟨[some (.d (.list (ns.map .int))), some (.d (.int k)), some (.ref os.length)], os ++ [skO a b 0]⟩).bind fun c s1 => if c then .ok (.d (.bool true)) s1 else (tst (sem (KD P lim (l + 1)) 37).ev (.nt (.callr gr 2 [])) s1).bind fun c' s2 => .ok (.d (.bool c')) s2)).bind (fun v s1 => match boolV v with
      | some b => .ok b s1
      | none => .bad) = _
    rw [u1, bind_ok, if_neg (by decide), u2]
    rfl
  exact ⟨_, _, (exs_next t1).trans (exs_one ((ex_iff (n := 38) t2).trans rfl))⟩
include hs right in
theorem loopW {ns : List Int} : ∀ (m k : Nat) (e1 e2 : Option Val) (os : List MO), k + m ≤ 4 → ∃ e1' e2' os', frL (asgI (.n 1)) (exs (sem (KD P lim (l + 1)) 39).ex (bodyW gs gr)) (intsF k m) ⟨[some (.d (.list (ns.map .int))), e1, e2], os⟩ = .ok .next ⟨[some (.d (.list (ns.map .int))), e1', e2'], os'⟩ := by
  intro m
  induction m with
  | zero => intro k e1 e2 os _; exact ⟨e1, e2, os, rfl⟩
  | succ m ih =>
    intro k e1 e2 os h
    obtain ⟨e2', os', t⟩ := turnW hs right (ns := ns) (k := k) (e2 := e2) (os := os) (by omega)
    obtain ⟨x1, x2, x3, z⟩ := ih (k + 1) (some (.d (.int k))) e2' os' (by omega)
    refine ⟨x1, x2, x3, ?_⟩
    show frL _ _ (.one (.d (.int k)) :: intsF ((k : Int) + 1) m) _ = _
    rw [frL_next (s1 := ⟨[some (.d (.list (ns.map .int))), some (.d (.int k)), e2], os⟩) rfl t]
    exact z
include hs right hl in
theorem law_val4 (ns : List Int) : callF P lim 40 (l + 2) gl none [.list (ns.map .int)] = .ok (.d (.bool true)) none := by
  rw [call_of hl]
  obtain ⟨m, hm⟩ : ∃ m : Int, m = if (if (ns.length : Int) < 4 then (ns.length : Int) else 4) > 1 then (if (ns.length : Int) < 4 then (ns.length : Int) else 4) else 1 := ⟨_, rfl⟩
  have m1 : 0 ≤ m := by rw [hm]; split <;> (try split) <;> omega
  have m2 : m ≤ 4 := by rw [hm]; split <;> (try split) <;> omega
  obtain ⟨x1, x2, x3, z⟩ := loopW hs right (ns := ns) m.toNat 0 none none [] (by omega)
  have ev : (sem (KD P lim (l + 1)) 39).ev (.blt .max2 [.con (.int 1), .blt .min2 [.con (.int 4), .blt .len [.slot 0]]]) ⟨[some (.d (.list (ns.map .int))), none, none], []⟩ = .ok (.d (.int m)) ⟨[some (.d (.list (ns.map .int))), none, none], []⟩ := by
    rw [hm]
    exact ev_max (n := 38) rfl (ev_min (n := 37) rfl (len_ev (n := 35) rfl))
  have w : walkF (sem (KD P lim (l + 1)) 39).ev .rng1 [.blt .max2 [.con (.int 1), .blt .min2 [.con (.int 4), .blt .len [.slot 0]]]] ⟨[some (.d (.list (ns.map .int))), none, none], []⟩ = .ok (intsF 0 m.toNat) ⟨[some (.d (.list (ns.map .int))), none, none], []⟩ := by
    show ((((sem (KD P lim (l + 1)) 39).ev (.blt .max2 [.con (.int 1), .blt .min2 [.con (.int 4), .blt .len [.slot 0]]]) ⟨[some (.d (.list (ns.map .int))), none, none], []⟩).bind fun v s1 => (Out.ok [] s1 : Out (List Val)).bind fun vs s2 => .ok (v :: vs) s2)).bind (fun vs s1 => match walk .rng1 vs s1 with
      | none => .bad
      | some (its, s2) => .ok its s2) = _
    rw [ev]
    show (match (if inRange m then some (intsF 0 m.toNat, (⟨[some (.d (.list (ns.map .int))), none, none], []⟩ : MS)) else none) with
      | none => Out.bad
      | some (its, s2) => .ok its s2) = _
    have hi : inRange m = true := by
      unfold inRange
      simp only [Bool.and_eq_true, decide_eq_true_eq]
      omega
    rw [if_pos hi]
  have t1 : (sem (KD P lim (l + 1)) 40).ex (.fr (.n 1) .rng1 [.blt .max2 [.con (.int 1), .blt .min2 [.con (.int 4), .blt .len [.slot 0]]]] (bodyW gs gr)) ⟨[some (.d (.list (ns.map .int))), none, none], []⟩ = .ok .next ⟨[some (.d (.list (ns.map .int))), x1, x2], x3⟩ := by
    refine (ex_fr (n := 39)).trans ?_
    rw [w, bind_ok]
    exact z
  have fin : exs (sem (KD P lim (l + 1)) 40).ex (bLaw gs gr) ⟨[some (.d (.list (ns.map .int))), none, none], []⟩ = .ok (.ret (.d (.bool true))) ⟨[some (.d (.list (ns.map .int))), x1, x2], x3⟩ := by
    unfold bLaw
    exact (exs_next t1).trans (exs_ret (ex_ret (n := 39) rfl))
  have st : MI.start ⟨1, 3, false, (bLaw gs gr)⟩ none [.list (ns.map .int)] = ⟨[some (.d (.list (ns.map .int))), none, none], []⟩ := rfl
  unfold runFn
  rw [st]
  show (match exs (sem (KD P lim (l + 1)) 40).ex (bLaw gs gr) ⟨[some (.d (.list (ns.map .int))), none, none], []⟩ with
    | .ok (.ret v) s => finish false v s
    | .ok .next s => finish false (.d .none) s
    | .ok _ _ => .bad
    | .exc c x s => match outOf false s with
      | some out => .exc c x out
      | none => .bad
    | .bad => .bad) = _
  rw [fin]
  rfl
end
end
end MI

set_option Elab.async false
set_option linter.all false
set_option maxRecDepth 1000000
set_option maxHeartbeats 0
namespace GK89
open PySem MI L2
def prog : Program := PySem.Challenge.pw_leafwide_k89_errors_of_walks
def top (i : Nat) : Stmt := prog.main.body.getD i (.Pass ⟨0, 0, 0, 0⟩)
def fns : List (Str × Nat) := ([("is_whole", 0),
  ("are_whole", 1),
  ("shared_part", 2),
  ("part_of_all", 3),
  ("lowest_row", 4),
  ("is_lowest", 5),
  ("product_by", 6),
  ("mirror_by", 7),
  ("need_halvings", 8),
  ("dot", 9),
  ("cross", 10),
  ("det", 11),
  ("is_place", 12),
  ("is_mark", 13),
  ("need_mark", 14),
  ("are_apart", 15),
  ("sign_of", 16),
  ("det_sign", 17),
  ("lies_on", 18),
  ("crossing_at", 19),
  ("meets", 20),
  ("leader", 21),
  ("is_turn", 22),
  ("need_turn", 23),
  ("stretch_of", 24),
  ("rows_of", 34),
  ("rows_of_turns", 25),
  ("turned_in", 26),
  ("is_upper", 27),
  ("dot_of", 28)] : List (Str × Nat)) ++
  ([("without_twos", 29),
  ("size_of", 30),
  ("turned_aside", 31),
  ("row_around", 32),
  ("rows_by", 33),
  ("rows_of_shares", 34),
  ("number_by", 35),
  ("share_floor_by", 36),
  ("sides_in", 37),
  ("do_overlap", 38),
  ("are_simple", 39),
  ("are_corners", 40),
  ("is_land", 41),
  ("factor_of", 42),
  ("link_of", 43),
  ("direction_by", 44),
  ("are_lands", 45),
  ("need_lands", 46),
  ("holders", 47),
  ("first_twice", 48),
  ("open_in", 49),
  ("need_closed", 50),
  ("times_by", 51),
  ("are_steps", 52),
  ("pointed", 53),
  ("beside", 54),
  ("turns_over", 55),
  ("rounds_in", 56),
  ("goes_along", 57),
  ("told_often", 58)] : List (Str × Nat)) ++
  ([("heights_in", 59),
  ("need_walk", 60),
  ("need_ball", 61),
  ("need_clear", 62),
  ("is_walk", 63),
  ("walk_direction", 64),
  ("pointer_direction", 65),
  ("walk_share", 66),
  ("rounds", 67),
  ("turned_walk", 68),
  ("other_walk", 69),
  ("joined_walks", 70),
  ("is_along", 71),
  ("heights", 72),
  ("are_heights", 73),
  ("_law_sack", 74),
  ("_law_dip", 75),
  ("_law_one", 76),
  ("_law_right", 78),
  ("law", 79)] : List (Str × Nat))
def cons : List (Str × Nat) := ([("RIGHT", 0),
  ("HALVINGS", 1),
  ("MOST_HALVINGS", 2),
  ("SPARE", 3),
  ("CLEAR", 4),
  ("MOST_CORNERS", 5),
  ("FEWEST_CORNERS", 6),
  ("MOST_LANDS", 7),
  ("FINE", 8),
  ("FEWEST", 9),
  ("MOST", 10),
  ("MARKS", 11)] : List (Str × Nat))
def conD : List (PyData) := ([.tuple [.int 1, .int 0],
  .int 30,
  .int 200,
  .int 64,
  .int 4,
  .int 24,
  .int 3,
  .int 40,
  .int 10,
  .int 2,
  .int 60,
  .tuple [.tuple [.int 1, .int 0, .int 0], .tuple [.int 0, .int 1, .int 0]]] : List (PyData))
def exn : List (Str × Nat × Bool) := ([("LeafError", 0, false),
  ("NoHalvings", 1, false),
  ("NoMark", 2, false),
  ("NoTurn", 3, false),
  ("NoLands", 4, false),
  ("NoRow", 5, false)] : List (Str × Nat × Bool))
def free : List Str := ["len", "abs", "int", "sum", "any", "all", "sorted", "tuple", "repr", "min", "max", "isinstance", "range", "enumerate", "bool", "dict"]
def sigs : List (Sig) := ([⟨["thing"], false, false, []⟩,
  ⟨["thing", "many"], false, false, []⟩,
  ⟨["one", "other"], false, false, []⟩,
  ⟨["row"], false, false, []⟩,
  ⟨["row"], false, false, []⟩,
  ⟨["thing", "many"], false, false, []⟩,
  ⟨["one", "other"], false, false, []⟩,
  ⟨["pair"], false, false, []⟩,
  ⟨["thing", "upto"], false, false, [("upto", .int 200)]⟩,
  ⟨["one", "other"], false, false, []⟩,
  ⟨["one", "other"], false, false, []⟩,
  ⟨["one", "other", "third"], false, false, []⟩,
  ⟨["thing"], false, false, []⟩,
  ⟨["thing"], false, false, []⟩,
  ⟨["thing"], false, false, []⟩,
  ⟨["one", "other"], false, false, []⟩,
  ⟨["number"], false, false, []⟩,
  ⟨["one", "other", "third"], false, false, []⟩,
  ⟨["side", "mark"], false, false, []⟩,
  ⟨["side", "other"], false, false, []⟩,
  ⟨["side", "other"], false, false, []⟩,
  ⟨["row"], false, false, []⟩,
  ⟨["thing"], false, false, []⟩,
  ⟨["thing"], false, false, []⟩,
  ⟨["turn"], false, false, []⟩,
  ⟨["turn"], false, false, []⟩,
  ⟨["turn", "mark"], false, false, []⟩,
  ⟨["pair"], false, false, []⟩,
  ⟨["one", "other"], false, false, []⟩,
  ⟨["pair"], false, false, []⟩] : List (Sig)) ++
  ([⟨["pair"], false, false, []⟩,
  ⟨["pair", "bits", "way"], false, false, []⟩,
  ⟨["low", "high", "bits"], false, false, []⟩,
  ⟨["direction", "halvings", "bits"], false, false, []⟩,
  ⟨["direction", "halvings"], false, false, []⟩,
  ⟨["rows"], false, false, []⟩,
  ⟨["direction", "halvings"], false, false, []⟩,
  ⟨["corners"], false, false, []⟩,
  ⟨["side", "other"], false, false, []⟩,
  ⟨["sides"], false, false, []⟩,
  ⟨["thing"], false, false, []⟩,
  ⟨["thing"], false, false, []⟩,
  ⟨["place"], false, false, []⟩,
  ⟨["one", "other"], false, false, []⟩,
  ⟨["corners"], false, false, []⟩,
  ⟨["thing"], false, false, []⟩,
  ⟨["thing"], false, false, []⟩,
  ⟨["lands"], false, false, []⟩,
  ⟨["lands"], false, false, []⟩,
  ⟨["lands"], false, false, []⟩,
  ⟨["lands"], false, false, []⟩,
  ⟨["lands"], false, false, []⟩,
  ⟨["thing"], false, false, []⟩,
  ⟨["walk"], false, false, []⟩,
  ⟨["mark"], false, false, []⟩,
  ⟨["mark", "line", "one", "other"], false, false, []⟩,
  ⟨["walk", "mark"], false, false, []⟩,
  ⟨["lands", "walk"], false, false, []⟩,
  ⟨["walk"], false, false, []⟩,
  ⟨["lands", "walk"], false, false, []⟩] : List (Sig)) ++
  ([⟨["thing"], false, false, []⟩,
  ⟨["lands"], false, false, []⟩,
  ⟨["walk", "mark"], false, false, []⟩,
  ⟨["value"], false, false, []⟩,
  ⟨["walk"], false, false, []⟩,
  ⟨["walk"], false, false, []⟩,
  ⟨["walk", "halvings"], false, false, [("halvings", .int 30)]⟩,
  ⟨["walk", "mark"], false, false, []⟩,
  ⟨["turn", "walk"], false, false, []⟩,
  ⟨["walk"], false, false, []⟩,
  ⟨["walk", "other"], false, false, []⟩,
  ⟨["lands", "walk"], false, false, []⟩,
  ⟨["lands", "walk"], false, false, []⟩,
  ⟨["lands", "walk", "value"], false, false, []⟩,
  ⟨["script", "spot"], false, false, []⟩,
  ⟨["sack", "total"], true, false, []⟩,
  ⟨["sack", "items"], true, false, []⟩,
  ⟨["call"], false, false, []⟩,
  ⟨["sack"], true, true, []⟩,
  ⟨["script"], false, true, []⟩] : List (Sig))
def S (g : Nat) : Option Sig := sigs[g]?
def poss : List (Nat) := ([9,
  10,
  11,
  12,
  13,
  14,
  15,
  16,
  20,
  22,
  23,
  24,
  25,
  26,
  27,
  28,
  30,
  31,
  32,
  33,
  34,
  36,
  37,
  38,
  39,
  40,
  42,
  46,
  47,
  48] : List (Nat)) ++
  ([49,
  50,
  51,
  52,
  53,
  55,
  56,
  60,
  61,
  62,
  63,
  64,
  65,
  66,
  67,
  71,
  72,
  73,
  74,
  75,
  76,
  77,
  82,
  83,
  84,
  85,
  86,
  87,
  88,
  89] : List (Nat)) ++
  ([90,
  91,
  92,
  93,
  94,
  95,
  96,
  97,
  98,
  99,
  100,
  101,
  102,
  103,
  105,
  106,
  107,
  108,
  109,
  110] : List (Nat))
def Ns : List (List Str) := ([["thing"],
  ["thing", "many", "part"],
  ["one", "other"],
  ["row", "found", "number"],
  ["row", "part", "number"],
  ["thing", "many"],
  ["one", "other", "a", "b", "c", "d"],
  ["pair", "a", "b"],
  ["thing", "upto"],
  ["one", "other"],
  ["one", "other", "ax", "ay", "az", "bx", "by", "bz"],
  ["one", "other", "third"],
  ["thing"],
  ["thing"],
  ["thing"],
  ["one", "other"],
  ["number"],
  ["one", "other", "third"],
  ["side", "mark", "normal", "one", "other"],
  ["side", "other", "ways", "a", "b", "c", "d", "number"],
  ["side", "other", "end"],
  ["row", "number"],
  ["thing"],
  ["thing"],
  ["turn", "number"],
  ["turn", "first", "second", "a", "b", "c", "d"],
  ["turn", "mark", "found", "row", "number"],
  ["pair", "a", "b"],
  ["one", "other"],
  ["pair", "a", "b"]] : List (List Str)) ++
  ([["pair"],
  ["pair", "bits", "way", "cut", "a", "b"],
  ["low", "high", "bits"],
  ["direction", "halvings", "bits", "found", "low", "high", "turn"],
  ["direction", "halvings", "bits", "found"],
  ["rows", "found", "low", "high"],
  ["direction", "halvings"],
  ["corners", "at", "place"],
  ["side", "other"],
  ["sides", "many", "at", "other"],
  ["thing", "sides", "place", "one", "other"],
  ["thing"],
  ["place", "x", "y", "z", "w"],
  ["one", "other", "a", "b", "q", "p", "r", "s"],
  ["corners", "found", "one", "other"],
  ["thing", "land"],
  ["thing"],
  ["lands", "found", "number", "land", "side"],
  ["lands", "holder", "some", "side", "number", "land"],
  ["lands", "twice", "holder", "side"],
  ["lands"],
  ["lands", "floors", "land"],
  ["thing", "one", "other"],
  ["walk", "direction"],
  ["mark"],
  ["mark", "line", "one", "other", "turn", "begin", "end"],
  ["walk", "mark", "line", "one", "other"],
  ["lands", "walk", "found", "side"],
  ["walk", "found", "side"],
  ["lands", "walk", "least", "holder", "often", "found", "waiting", "here", "side", "mate", "goal", "number"]] : List (List Str)) ++
  ([["thing"],
  ["lands"],
  ["walk", "mark", "far", "number", "side"],
  ["value"],
  ["walk"],
  ["walk"],
  ["walk", "halvings"],
  ["walk", "mark"],
  ["turn", "walk", "place"],
  ["walk"],
  ["walk", "other"],
  ["lands", "walk"],
  ["lands", "walk"],
  ["lands", "walk", "value", "part"],
  ["script", "spot", "cell", "great", "mixed"],
  ["sack", "total", "one", "two", "found"],
  ["sack", "items"],
  ["call"],
  ["sack", "none", "mark", "turn", "lands", "call", "due", "value", "x", "y", "z", "good", "halves", "told"],
  ["script", "spot", "sack"]] : List (List Str))
def st (g : Nat) : Stmt := top (poss.getD g 0)
def trs : List (Str × PyData × List (Nat × HR)) := [("_law_refused", .str "told", [(3, .con (.str "turn")), (4, .con (.str "lands")), (1, .con (.str "halvings")), (2, .con (.str "mark")), (5, .con (.str "row"))])]
def lamd : List Nat := [78]
def lam_0 : LamD := lamD (HT.lamN "_law_right") ((tupEls ((defBody (st 78)).getD 21 (.Pass ⟨0, 0, 0, 0⟩))).getD 2 (.Constant .none 0 ⟨0, 0, 0, 0⟩))
def lams : List (LamD × Nat) := [(lam_0, 80)]
def lamsG : List (Nat × List (LamD × Nat)) := [(78, [(lam_0, 80)])]
def gdl : List Nat := [78, 79]
def sc (g : Nat) : SC := ⟨Ns.getD g [], defScope (st g), fns, cons, exn, free, true, gdl.contains g, if lamd.contains g then trs else [], gdl, (lamsG.lookup g).getD []⟩
def cmp (g : Nat) : Option (List MSt) := compL (orBad (compS S 60 60 (sc g))) (defBody (st g))
def b0 : List MSt := [.ret (.an (.isi (.slot 0) .int) (.nt (.isi (.slot 0) .bool)))]
def b1 : List MSt := [.ret (.an (.isi (.slot 0) .tuple) (.an (.cmp .eq (.blt .len [.slot 0]) (.slot 1)) (.blt .all [.lc [2] (.n 2) .seq [.slot 0] [] (.call 0 [.slot 2] [])])))]
def b2 : List MSt := [.par [0, 1] [.blt .abs [.slot 0], .blt .abs [.slot 1]], .whl (.cmp .ne (.slot 1) (.con (.int 0))) [.par [0, 1] [.slot 1, .bin .mod (.slot 0) (.slot 1)]], .ret (.slot 0)]
def b3 : List MSt := [.asg (.n 1) (.con (.int 0)), .fr (.n 2) .seq [.slot 0] [.asg (.n 1) (.call 2 [.slot 1, .slot 2] [])], .ret (.slot 1)]
def b4 : List MSt := [.asg (.n 1) (.call 3 [.slot 0] []), .ret (.blt .tuple [.lc [2] (.n 2) .seq [.slot 0] [] (.bin .fdiv (.slot 2) (.slot 1))])]
def b5 : List MSt := [.ret (.an (.call 1 [.slot 0, .slot 1] []) (.cmp .eq (.call 3 [.slot 0] []) (.con (.int 1))))]
def b6 : List MSt := [.asg (.t [.n 2, .n 3]) (.slot 0), .asg (.t [.n 4, .n 5]) (.slot 1), .ret (.tup [.bin .sub (.bin .mul (.slot 2) (.slot 4)) (.bin .mul (.slot 3) (.slot 5)), .bin .add (.bin .mul (.slot 2) (.slot 5)) (.bin .mul (.slot 3) (.slot 4))])]
def b7 : List MSt := [.asg (.t [.n 1, .n 2]) (.slot 0), .ret (.tup [.slot 1, .neg (.slot 2)])]
def b8 : List MSt := [.iff (.orr (.nt (.call 0 [.slot 0] [])) (.nt (.chn .le .le (.con (.int 0)) (.slot 0) (.slot 1)))) [.rse 1 (.con .none)] []]
def b9 : List MSt := [.ret (.bin .add (.bin .add (.bin .mul (.ix (.slot 0) (.con (.int 0))) (.ix (.slot 1) (.con (.int 0)))) (.bin .mul (.ix (.slot 0) (.con (.int 1))) (.ix (.slot 1) (.con (.int 1))))) (.bin .mul (.ix (.slot 0) (.con (.int 2))) (.ix (.slot 1) (.con (.int 2)))))]
def b10 : List MSt := [.asg (.t [.t [.n 2, .n 3, .n 4], .t [.n 5, .n 6, .n 7]]) (.tup [.sl (.slot 0) (.con .none) (.con (.int 3)) 1, .sl (.slot 1) (.con .none) (.con (.int 3)) 1]), .ret (.tup [.bin .sub (.bin .mul (.slot 3) (.slot 7)) (.bin .mul (.slot 4) (.slot 6)), .bin .sub (.bin .mul (.slot 4) (.slot 5)) (.bin .mul (.slot 2) (.slot 7)), .bin .sub (.bin .mul (.slot 2) (.slot 6)) (.bin .mul (.slot 3) (.slot 5))])]
def b11 : List MSt := [.ret (.call 9 [.call 10 [.slot 0, .slot 1] [], .slot 2] [])]
def b12 : List MSt := [.ret (.an (.call 5 [.slot 0, .con (.int 4)] []) (.an (.cmp .ge (.ix (.slot 0) (.con (.int 3))) (.con (.int 1))) (.cmp .eq (.call 9 [.slot 0, .slot 0] []) (.bin .pow (.ix (.slot 0) (.con (.int 3))) (.con (.int 2))))))]
def b13 : List MSt := [.ret (.call 5 [.slot 0, .con (.int 3)] [])]
def b14 : List MSt := [.iff (.an (.nt (.call 13 [.slot 0] [])) (.nt (.call 12 [.slot 0] []))) [.rse 2 (.con .none)] []]
def b15 : List MSt := [.ret (.cmp .ne (.call 10 [.slot 0, .slot 1] []) (.tup [.con (.int 0), .con (.int 0), .con (.int 0)]))]
def b16 : List MSt := [.ret (.bin .sub (.blt .int [.cmp .gt (.slot 0) (.con (.int 0))]) (.blt .int [.cmp .lt (.slot 0) (.con (.int 0))]))]
def b17 : List MSt := [.ret (.call 16 [.call 11 [.slot 0, .slot 1, .slot 2] []] [])]
def b18 : List MSt := [.asg (.t [.n 3, .n 4]) (.slot 0), .asg (.n 2) (.call 10 [.slot 3, .slot 4] []), .iff (.cmp .ne (.call 9 [.slot 2, .slot 1] []) (.con (.int 0))) [.ret (.con (.bool false))] [], .ret (.an (.cmp .ge (.call 9 [.call 10 [.slot 3, .slot 1] [], .slot 2] []) (.con (.int 0))) (.cmp .ge (.call 9 [.call 10 [.slot 1, .slot 4] [], .slot 2] []) (.con (.int 0))))]
def b19 : List MSt := [.asg (.t [.t [.n 3, .n 4], .t [.n 5, .n 6]]) (.tup [.slot 0, .slot 1]), .asg (.n 2) (.lst [.call 17 [.slot 5, .slot 6, .slot 3] [], .neg (.call 17 [.slot 5, .slot 6, .slot 4] []), .neg (.call 17 [.slot 3, .slot 4, .slot 5] []), .call 17 [.slot 3, .slot 4, .slot 6] []]), .iff (.orr (.cmp .eq (.ix (.slot 2) (.con (.int 0))) (.con (.int 0))) (.cmp .ne (.slot 2) (.bin .mul (.sl (.slot 2) (.con .none) (.con (.int 1)) 1) (.con (.int 4))))) [.ret (.con (.none))] [], .ret (.blt .tuple [.lc [7] (.n 7) .seq [.call 4 [.call 10 [.call 10 [.slot 3, .slot 4] [], .call 10 [.slot 5, .slot 6] []] []] []] [] (.bin .mul (.ix (.slot 2) (.con (.int 0))) (.slot 7))])]
def b20 : List MSt := [.iff (.orr (.blt .any [.lc [2] (.n 2) .seq [.slot 1] [] (.call 18 [.slot 0, .slot 2] [])]) (.blt .any [.lc [2] (.n 2) .seq [.slot 0] [] (.call 18 [.slot 1, .slot 2] [])])) [.ret (.con (.bool true))] [], .ret (.cmp .nis (.call 19 [.slot 0, .slot 1] []) (.con (.none)))]
def b21 : List MSt := [.ret (.ix (.lc [1] (.n 1) .seq [.slot 0] [.cmp .ne (.slot 1) (.con (.int 0))] (.slot 1)) (.con (.int 0)))]
def b22 : List MSt := [.ret (.an (.call 5 [.slot 0, .con (.int 4)] []) (.cmp .gt (.call 21 [.slot 0] []) (.con (.int 0))))]
def b23 : List MSt := [.iff (.nt (.call 22 [.slot 0] [])) [.rse 3 (.con .none)] []]
def b24 : List MSt := [.ret (.blt .sum [.lc [1] (.n 1) .seq [.slot 0] [] (.bin .mul (.slot 1) (.slot 1))])]
def b25 : List MSt := [.asg (.t [.n 3, .n 4, .n 5, .n 6]) (.slot 0), .asg (.n 1) (.tup [.bin .sub (.bin .sub (.bin .add (.bin .mul (.slot 3) (.slot 3)) (.bin .mul (.slot 4) (.slot 4))) (.bin .mul (.slot 5) (.slot 5))) (.bin .mul (.slot 6) (.slot 6)), .bin .mul (.con (.int 2)) (.bin .sub (.bin .mul (.slot 4) (.slot 5)) (.bin .mul (.slot 3) (.slot 6))), .bin .mul (.con (.int 2)) (.bin .add (.bin .mul (.slot 4) (.slot 6)) (.bin .mul (.slot 3) (.slot 5)))]), .asg (.n 2) (.tup [.bin .mul (.con (.int 2)) (.bin .add (.bin .mul (.slot 4) (.slot 5)) (.bin .mul (.slot 3) (.slot 6))), .bin .sub (.bin .add (.bin .sub (.bin .mul (.slot 3) (.slot 3)) (.bin .mul (.slot 4) (.slot 4))) (.bin .mul (.slot 5) (.slot 5))) (.bin .mul (.slot 6) (.slot 6)), .bin .mul (.con (.int 2)) (.bin .sub (.bin .mul (.slot 5) (.slot 6)) (.bin .mul (.slot 3) (.slot 4)))]), .ret (.tup [.slot 1, .slot 2, .tup [.bin .mul (.con (.int 2)) (.bin .sub (.bin .mul (.slot 4) (.slot 6)) (.bin .mul (.slot 3) (.slot 5))), .bin .mul (.con (.int 2)) (.bin .add (.bin .mul (.slot 5) (.slot 6)) (.bin .mul (.slot 3) (.slot 4))), .bin .add (.bin .sub (.bin .sub (.bin .mul (.slot 3) (.slot 3)) (.bin .mul (.slot 4) (.slot 4))) (.bin .mul (.slot 5) (.slot 5))) (.bin .mul (.slot 6) (.slot 6))]])]
def b26 : List MSt := [.asg (.n 2) (.lc [3] (.n 3) .seq [.call 25 [.slot 0] []] [] (.call 9 [.slot 3, .slot 1] [])), .ret (.call 4 [.blt .tuple [.bin .add (.slot 2) (.lc [4] (.n 4) .seq [.sl (.slot 1) (.con (.int 3)) (.con .none) 1] [] (.bin .mul (.call 24 [.slot 0] []) (.slot 4)))]] [])]
def b27 : List MSt := [.asg (.t [.n 1, .n 2]) (.slot 0), .ret (.orr (.cmp .gt (.slot 2) (.con (.int 0))) (.an (.cmp .eq (.slot 2) (.con (.int 0))) (.cmp .gt (.slot 1) (.con (.int 0)))))]
def b28 : List MSt := [.ret (.bin .add (.bin .mul (.ix (.slot 0) (.con (.int 0))) (.ix (.slot 1) (.con (.int 0)))) (.bin .mul (.ix (.slot 0) (.con (.int 1))) (.ix (.slot 1) (.con (.int 1)))))]
def b29 : List MSt := [.asg (.t [.n 1, .n 2]) (.slot 0), .whl (.an (.cmp .eq (.bin .mod (.slot 1) (.con (.int 2))) (.con (.int 0))) (.cmp .eq (.bin .mod (.slot 2) (.con (.int 2))) (.con (.int 0)))) [.par [1, 2] [.bin .fdiv (.slot 1) (.con (.int 2)), .bin .fdiv (.slot 2) (.con (.int 2))]], .ret (.tup [.slot 1, .slot 2])]
def b30 : List MSt := [.ret (.mth .bitlen (.blt .max2 [.blt .abs [.ix (.slot 0) (.con (.int 0))], .blt .abs [.ix (.slot 0) (.con (.int 1))]]) [])]
def b31 : List MSt := [.asg (.n 3) (.bin .sub (.call 30 [.slot 0] []) (.slot 1)), .iff (.cmp .le (.slot 3) (.con (.int 0))) [.ret (.slot 0)] [], .par [4, 5] [.bin .shr (.ix (.slot 0) (.con (.int 0))) (.slot 3), .bin .shr (.ix (.slot 0) (.con (.int 1))) (.slot 3)], .ret (.tup [.bin .sub (.bin .shl (.slot 4) (.bin .sub (.slot 1) (.gc 4))) (.bin .mul (.slot 2) (.slot 5)), .bin .add (.bin .shl (.slot 5) (.bin .sub (.slot 1) (.gc 4))) (.bin .mul (.slot 2) (.slot 4))])]
def b32 : List MSt := [.ret (.tup [.call 31 [.call 29 [.slot 0] [], .slot 2, .neg (.con (.int 1))] [], .call 31 [.call 29 [.slot 1] [], .slot 2, .con (.int 1)] []])]
def b33 : List MSt := [.asg (.n 3) (.lst []), .asg2 4 5 (.slot 0), .fr (.n 6) .rng1 [.slot 1] [.asg (.t [.n 4, .n 5]) (.call 32 [.slot 4, .slot 5, .slot 2] []), .iff (.orr (.cmp .ne (.call 27 [.slot 4] []) (.call 27 [.slot 5] [])) (.cmp .le (.call 28 [.slot 4, .slot 5] []) (.con (.int 0)))) [.ret (.con (.none))] [], .ex (.mth .append (.slot 3) [.tup [.slot 4, .slot 5]]), .par [4, 5] [.call 6 [.slot 4, .slot 4] [], .call 6 [.slot 5, .slot 5] []]], .ret (.slot 3)]
def b34 : List MSt := [.asg (.n 2) (.bin .add (.slot 1) (.gc 3)), .asg (.n 3) (.call 33 [.slot 0, .slot 1, .slot 2] []), .whl (.cmp .is (.slot 3) (.con (.none))) [.aug 2 .mul (.con (.int 2)), .asg (.n 3) (.call 33 [.slot 0, .slot 1, .slot 2] [])], .ret (.slot 3)]
def b35 : List MSt := [.asg (.n 1) (.con (.int 0)), .fr (.t [.n 2, .n 3]) .seq [.slot 0] [.asg (.n 1) (.bin .add (.bin .mul (.con (.int 2)) (.slot 1)) (.blt .int [.nt (.call 27 [.slot 2] [])]))], .ret (.slot 1)]
def b36 : List MSt := [.ret (.call 35 [.call 34 [.slot 0, .slot 1] []] [])]
def b37 : List MSt := [.ret (.lc [1, 2] (.t [.n 1, .n 2]) .enum [.slot 0] [] (.tup [.slot 2, .ix (.slot 0) (.bin .mod (.bin .add (.slot 1) (.con (.int 1))) (.blt .len [.slot 0]))]))]
def b38 : List MSt := [.ret (.orr (.call 18 [.slot 0, .ix (.slot 1) (.con (.int 1))] []) (.call 18 [.slot 1, .ix (.slot 0) (.con (.int 0))] []))]
def b39 : List MSt := [.asg (.n 1) (.blt .len [.slot 0]), .fr (.n 2) .rng1 [.slot 1] [.iff (.call 38 [.ix (.slot 0) (.slot 2), .ix (.slot 0) (.bin .mod (.bin .add (.slot 2) (.con (.int 1))) (.slot 1))] []) [.ret (.con (.bool false))] [], .iff (.blt .any [.lc [3] (.n 3) .rng2 [.bin .add (.slot 2) (.con (.int 2)), .bin .sub (.slot 1) (.blt .int [.cmp .eq (.slot 2) (.con (.int 0))])] [] (.call 20 [.ix (.slot 0) (.slot 2), .ix (.slot 0) (.slot 3)] [])]) [.ret (.con (.bool false))] []], .ret (.con (.bool true))]
def b40 : List MSt := [.iff (.orr (.nt (.isi (.slot 0) .tuple)) (.nt (.chn .le .le (.gc 6) (.blt .len [.slot 0]) (.gc 5)))) [.ret (.con (.bool false))] [], .iff (.nt (.blt .all [.lc [2] (.n 2) .seq [.slot 0] [] (.call 12 [.slot 2] [])])) [.ret (.con (.bool false))] [], .asg (.n 1) (.call 37 [.slot 0] []), .ret (.an (.blt .all [.lc [3, 4] (.t [.n 3, .n 4]) .seq [.slot 1] [] (.call 15 [.slot 3, .slot 4] [])]) (.call 39 [.slot 1] []))]
def b41 : List MSt := [.ret (.an (.call 40 [.slot 0] []) (.cmp .eq (.ix (.slot 0) (.con (.int 0))) (.blt .minS [.slot 0])))]
def b42 : List MSt := [.asg (.t [.n 1, .n 2, .n 3, .n 4]) (.slot 0), .ret (.ite (.cmp .gt (.bin .add (.slot 4) (.slot 3)) (.con (.int 0))) (.tup [.bin .add (.slot 4) (.slot 3), .tup [.slot 1, .slot 2]]) (.tup [.con (.int 0), .gc 0]))]
def b43 : List MSt := [.asg (.t [.t [.n 4, .n 5], .t [.n 6, .n 7]]) (.tup [.call 42 [.slot 0] [], .call 42 [.slot 1] []]), .asg (.t [.n 2, .n 3]) (.call 6 [.call 7 [.slot 5] [], .slot 7] []), .ret (.tup [.bin .add (.bin .mul (.slot 4) (.slot 6)) (.slot 2), .slot 3])]
def b44 : List MSt := [.asg (.n 1) (.gc 0), .fr (.t [.n 2, .n 3]) .seq [.call 37 [.slot 0] []] [.asg (.n 1) (.call 4 [.call 6 [.slot 1, .call 43 [.slot 2, .slot 3] []] []] [])], .ret (.slot 1)]
def b45 : List MSt := [.ret (.an (.isi (.slot 0) .tuple) (.an (.chn .le .le (.con (.int 1)) (.blt .len [.slot 0]) (.gc 7)) (.blt .all [.lc [1] (.n 1) .seq [.slot 0] [] (.call 41 [.slot 1] [])])))]
def b46 : List MSt := [.iff (.nt (.call 45 [.slot 0] [])) [.rse 4 (.con .none)] []]
def b47 : List MSt := [.asg (.n 1) (.dic [] []), .fr (.t [.n 2, .n 3]) .enum [.slot 0] [.fr (.n 4) .seq [.call 37 [.slot 3] []] [.ex (.mth .setdefault (.slot 1) [.slot 4, .slot 2])]], .ret (.slot 1)]
def b48 : List MSt := [.asg (.n 1) (.call 47 [.slot 0] []), .asg (.n 2) (.lc2 [4, 5, 3] [3] (.t [.n 4, .n 5]) .enum [.slot 0] [] (.n 3) .seq [.call 37 [.slot 5] []] [.cmp .ne (.ix (.slot 1) (.slot 3)) (.slot 4)] (.slot 3)), .ret (.ite (.cmp .ne (.slot 2) (.lst [])) (.ix (.slot 2) (.con (.int 0))) (.con (.none)))]
def b49 : List MSt := [.asg (.n 1) (.call 48 [.slot 0] []), .iff (.cmp .nis (.slot 1) (.con (.none))) [.ret (.tup [.con (.str "twice"), .slot 1])] [], .asg (.n 2) (.call 47 [.slot 0] []), .fr (.n 3) .seq [.slot 2] [.iff (.cmp .nin (.sl (.slot 3) (.con .none) (.con .none) (-1)) (.slot 2)) [.ret (.tup [.con (.str "open"), .slot 3])] []], .ret (.con (.none))]
def b50 : List MSt := [.ex (.call 46 [.slot 0] []), .iff (.cmp .nis (.call 49 [.slot 0] []) (.con (.none))) [.rse 4 (.con .none)] []]
def b51 : List MSt := [.asg (.n 1) (.blt .sum [.lc [2] (.n 2) .seq [.slot 0] [] (.call 36 [.call 44 [.slot 2] [], .gc 8] [])]), .ret (.neg (.bin .shr (.neg (.slot 1)) (.gc 8)))]
def b52 : List MSt := [.iff (.orr (.nt (.isi (.slot 0) .tuple)) (.orr (.nt (.chn .le .le (.gc 9) (.blt .len [.slot 0]) (.gc 10))) (.nt (.blt .all [.lc [1] (.n 1) .seq [.slot 0] [] (.call 12 [.slot 1] [])])))) [.ret (.con (.bool false))] [], .ret (.blt .all [.lc [1, 2] (.t [.n 1, .n 2]) .seq [.call 37 [.slot 0] []] [] (.call 15 [.slot 1, .slot 2] [])])]
def b53 : List MSt := [.asg (.n 1) (.call 44 [.slot 0] []), .ret (.call 4 [.call 6 [.slot 1, .slot 1] []] [])]
def b54 : List MSt := [.ret (.ite (.call 15 [.ix (.gc 11) (.con (.int 0)), .slot 0] []) (.ix (.gc 11) (.con (.int 0))) (.ix (.gc 11) (.con (.int 1))))]
def b55 : List MSt := [.par [5, 6] [.call 11 [.slot 0, .slot 1, .slot 2] [], .call 11 [.slot 0, .slot 1, .slot 3] []], .asg (.n 4) (.call 11 [.slot 0, .slot 2, .slot 3] []), .iff (.chn .le .lt (.slot 5) (.con (.int 0)) (.slot 6)) [.ret (.blt .int [.cmp .gt (.slot 4) (.con (.int 0))])] [], .iff (.chn .le .lt (.slot 6) (.con (.int 0)) (.slot 5)) [.ret (.neg (.blt .int [.cmp .lt (.slot 4) (.con (.int 0))]))] [], .ret (.con (.int 0))]
def b56 : List MSt := [.asg (.n 2) (.call 54 [.slot 1] []), .ret (.blt .sum [.lc [3, 4] (.t [.n 3, .n 4]) .seq [.call 37 [.slot 0] []] [] (.call 55 [.slot 1, .slot 2, .slot 3, .slot 4] [])])]
def b57 : List MSt := [.asg (.n 2) (.call 47 [.slot 0] []), .ret (.blt .all [.lc [3] (.n 3) .seq [.call 37 [.slot 1] []] [] (.cmp .inn (.slot 3) (.slot 2))])]
def b58 : List MSt := [.asg (.n 1) (.dic [] []), .fr (.n 2) .seq [.call 37 [.slot 0] []] [.sti (.slot 1) (.slot 2) (.bin .add (.mth .get (.slot 1) [.slot 2, .con (.int 0)]) (.con (.int 1)))], .ret (.slot 1)]
def b59 : List MSt := [.par [3, 4] [.call 47 [.slot 0] [], .call 58 [.slot 1] []], .par [5, 6] [.dic [.con (.int 0)] [.con (.int 0)], .lst [.con (.int 0)]], .whl (.cmp .ne (.slot 6) (.lst [])) [.asg (.n 7) (.mth .pop (.slot 6) []), .fr (.n 8) .seq [.call 37 [.ix (.slot 0) (.slot 7)] []] [.asg (.n 9) (.sl (.slot 8) (.con .none) (.con .none) (-1)), .asg (.n 10) (.ix (.slot 3) (.slot 9)), .iff (.cmp .nin (.slot 10) (.slot 5)) [.sti (.slot 5) (.slot 10) (.bin .add (.bin .sub (.ix (.slot 5) (.slot 7)) (.mth .get (.slot 4) [.slot 8, .con (.int 0)])) (.mth .get (.slot 4) [.slot 9, .con (.int 0)])), .ex (.mth .append (.slot 6) [.slot 10])] []]], .asg (.n 2) (.minv (.slot 5)), .ret (.dc [11] (.n 11) .seq [.blt .sorted [.slot 5]] [] (.slot 11) (.bin .sub (.ix (.slot 5) (.slot 11)) (.slot 2)))]
def b60 : List MSt := [.iff (.nt (.call 52 [.slot 0] [])) [.rse 5 (.con .none)] []]
def b61 : List MSt := [.ex (.call 50 [.slot 0] []), .iff (.cmp .ne (.call 51 [.slot 0] []) (.con (.int 1))) [.rse 4 (.con .none)] []]
def b62 : List MSt := [.asg (.n 2) (.blt .tuple [.lc [3] (.n 3) .seq [.slot 1] [] (.neg (.slot 3))]), .iff (.blt .any [.lc [4] (.n 4) .seq [.call 37 [.slot 0] []] [] (.orr (.call 18 [.slot 4, .slot 1] []) (.call 18 [.slot 4, .slot 2] []))]) [.rse 2 (.con .none)] []]
def b63 : List MSt := [.ret (.call 52 [.slot 0] [])]
def b64 : List MSt := [.ex (.call 60 [.slot 0] []), .ret (.call 44 [.slot 0] [])]
def b65 : List MSt := [.ex (.call 60 [.slot 0] []), .ret (.call 53 [.slot 0] [])]
def b66 : List MSt := [.ex (.call 60 [.slot 0] []), .ex (.call 8 [.slot 1] [.int 200]), .ret (.call 36 [.call 44 [.slot 0] [], .slot 1] [])]
def b67 : List MSt := [.ex (.call 60 [.slot 0] []), .ex (.call 14 [.slot 1] []), .ex (.call 62 [.slot 0, .sl (.slot 1) (.con .none) (.con (.int 3)) 1] []), .ret (.call 56 [.slot 0, .sl (.slot 1) (.con .none) (.con (.int 3)) 1] [])]
def b68 : List MSt := [.ex (.call 23 [.slot 0] []), .ex (.call 60 [.slot 1] []), .ret (.blt .tuple [.lc [2] (.n 2) .seq [.slot 1] [] (.call 26 [.slot 0, .slot 2] [])])]
def b69 : List MSt := [.ex (.call 60 [.slot 0] []), .ret (.bin .add (.sl (.slot 0) (.con .none) (.con (.int 1)) 1) (.sl (.slot 0) (.con .none) (.con (.int 0)) (-1)))]
def b70 : List MSt := [.ex (.call 60 [.slot 0] []), .ex (.call 60 [.slot 1] []), .iff (.cmp .ne (.ix (.slot 0) (.con (.int 0))) (.ix (.slot 1) (.con (.int 0)))) [.rse 5 (.con .none)] [], .iff (.cmp .gt (.bin .add (.blt .len [.slot 0]) (.blt .len [.slot 1])) (.gc 10)) [.rse 5 (.con .none)] [], .ret (.bin .add (.slot 0) (.slot 1))]
def b71 : List MSt := [.ex (.call 61 [.slot 0] []), .ex (.call 60 [.slot 1] []), .ret (.call 57 [.slot 0, .slot 1] [])]
def b72 : List MSt := [.ex (.call 61 [.slot 0] []), .ex (.call 60 [.slot 1] []), .iff (.nt (.call 57 [.slot 0, .slot 1] [])) [.rse 5 (.con .none)] [], .ret (.call 59 [.slot 0, .slot 1] [])]
def b73 : List MSt := [.ex (.call 61 [.slot 0] []), .ex (.call 60 [.slot 1] []), .iff (.orr (.nt (.call 57 [.slot 0, .slot 1] [])) (.nt (.isi (.slot 2) .dict))) [.ret (.con (.bool false))] [], .iff (.orr (.nt (.blt .all [.lc [3] (.n 3) .seq [.slot 2] [] (.call 0 [.slot 3] [])])) (.nt (.blt .all [.lc [3] (.n 3) .vals [.slot 2] [] (.call 0 [.slot 3] [])]))) [.ret (.con (.bool false))] [], .ret (.cmp .eq (.slot 2) (.call 59 [.slot 0, .slot 1] []))]
def b74 : List MSt := [.asg (.n 2) (.ite (.cmp .lt (.slot 1) (.blt .len [.slot 0])) (.blt .int [.ix (.slot 0) (.slot 1)]) (.bin .add (.bin .mul (.con (.int 389)) (.slot 1)) (.con (.int 23)))), .asg (.n 3) (.bin .mod (.blt .int [.blt .abs [.slot 2]]) (.bin .pow (.bin .pow (.con (.int 10)) (.con (.int 53))) (.con (.int 6)))), .asg (.n 4) (.bin .add (.bin .add (.bin .add (.bin .mul (.bin .mod (.slot 3) (.con (.int 2305843009213693951))) (.con (.int 97))) (.bin .mul (.con (.int 613)) (.slot 1))) (.bin .mul (.con (.int 41)) (.blt .int [.cmp .lt (.slot 2) (.con (.int 0))]))) (.con (.int 67))), .ret (.lst [.blt .max2 [.con (.int 0), .bin .sub (.slot 3) (.bin .pow (.con (.int 10)) (.con (.int 15)))], .slot 4, .con (.int 0)])]
def b75 : List MSt := [.iff (.cmp .gt (.ix (.slot 0) (.con (.int 0))) (.con (.int 0))) [.asg (.n 4) (.bin .mod (.blt .int [.ix (.slot 0) (.con (.int 0))]) (.slot 1)), .sti (.slot 0) (.con (.int 0)) (.bin .fdiv (.ix (.slot 0) (.con (.int 0))) (.slot 1)), .ret (.slot 4)] [], .sti (.slot 0) (.con (.int 2)) (.bin .add (.ix (.slot 0) (.con (.int 2))) (.con (.int 1))), .asg (.n 2) (.bin .mod (.blt .int [.bin .add (.ix (.slot 0) (.con (.int 1))) (.bin .mul (.con (.int 10000121)) (.ix (.slot 0) (.con (.int 2))))]) (.con (.int 2305843009213693951))), .asg (.n 3) (.bin .add (.bin .mul (.bin .mod (.blt .int [.bin .add (.bin .mul (.slot 2) (.slot 2)) (.bin .mul (.con (.int 587)) (.ix (.slot 0) (.con (.int 2))))]) (.con (.int 2305843009213693951))) (.con (.int 8589934609))) (.slot 2)), .ret (.bin .mod (.blt .int [.bin .fdiv (.slot 3) (.con (.int 131072))]) (.slot 1))]
def b76 : List MSt := [.ret (.ix (.slot 1) (.callr 75 0 [.blt .len [.slot 1]]))]
def b77 : List MSt := [.bad]
def b78 : List MSt := [.asg (.t [.n 8, .n 9, .n 10]) (.tup [.tup [.con (.int 1), .con (.int 0), .con (.int 0), .con (.int 1)], .tup [.con (.int 0), .con (.int 1), .con (.int 0), .con (.int 1)], .tup [.con (.int 0), .con (.int 0), .con (.int 1), .con (.int 1)]]), .asg (.n 1) (.callr 76 0 [.lst [.con (.none), .con (.int 0), .tup [], .tup [.slot 8], .lst [.slot 8, .slot 9], .tup [.slot 8, .slot 8], .tup [.slot 8, .tup [.neg (.con (.int 1)), .con (.int 0), .con (.int 0), .con (.int 1)]], .tup [.slot 8, .slot 9, .slot 9], .tup [.slot 8, .slot 9, .tup [.neg (.con (.int 1)), .con (.int 0), .con (.int 0), .con (.int 1)]], .tup [.slot 8, .tup [.con (.int 2), .con (.int 0), .con (.int 0), .con (.int 2)]], .tup [.slot 8, .con (.none)], .bin .mul (.tup [.slot 8, .slot 9]) (.con (.int 31))]]), .asg (.n 2) (.callr 76 0 [.lst [.con (.none), .con (.int 0), .tup [.con (.int 0), .con (.int 0), .con (.int 0)], .tup [.con (.int 2), .con (.int 0), .con (.int 0)], .lst [.con (.int 1), .con (.int 0), .con (.int 0)], .tup [.con (.int 1), .con (.int 0)], .con (.str "mark"), .tup [.con (.bool true), .con (.int 0), .con (.int 1)]]]), .asg (.n 3) (.callr 76 0 [.lst [.con (.none), .con (.int 0), .tup [.con (.int 0), .con (.int 0), .con (.int 0), .con (.int 0)], .tup [.con (.int 2), .con (.int 0), .con (.int 0), .con (.int 0)], .tup [.neg (.con (.int 1)), .con (.int 0), .con (.int 0), .con (.int 0)], .lst [.con (.int 1), .con (.int 0), .con (.int 0), .con (.int 0)], .tup [.con (.int 1), .con (.int 0), .con (.int 0)]]]), .asg (.n 4) (.callr 76 0 [.lst [.con (.none), .tup [], .lst [], .tup [.tup [.slot 8, .slot 9, .slot 10]], .tup [.slot 8, .slot 9, .slot 10], .con (.int 0)]]), .asg (.t [.n 11, .n 12]) (.tup [.tup [.slot 8, .slot 9, .slot 10], .tup [.tup [.tup [.neg (.con (.int 1)), .con (.int 0), .con (.int 0), .con (.int 1)], .tup [.con (.int 0), .neg (.con (.int 1)), .con (.int 0), .con (.int 1)], .slot 8, .slot 9], .tup [.tup [.neg (.con (.int 1)), .con (.int 0), .con (.int 0), .con (.int 1)], .slot 9, .slot 8, .tup [.con (.int 0), .neg (.con (.int 1)), .con (.int 0), .con (.int 1)]]]]), .par [13, 6] [.lst [], .lst []], .forf 5 [64, 65, 69, 66] [.ex (.mth .append (.slot 13) [.tryl 0 [(3, .con (.str "turn")), (4, .con (.str "lands")), (1, .con (.str "halvings")), (2, .con (.str "mark")), (5, .con (.str "row"))] (.str "told") (.callv 5 [.slot 1])]), .ex (.mth .append (.slot 6) [.con (.str "row")])], .ex (.mth .append (.slot 13) [.tryl 0 [(3, .con (.str "turn")), (4, .con (.str "lands")), (1, .con (.str "halvings")), (2, .con (.str "mark")), (5, .con (.str "row"))] (.str "told") (.call 66 [.slot 1, .neg (.con (.int 1))] [])]), .ex (.mth .append (.slot 13) [.tryl 0 [(3, .con (.str "turn")), (4, .con (.str "lands")), (1, .con (.str "halvings")), (2, .con (.str "mark")), (5, .con (.str "row"))] (.str "told") (.call 66 [.slot 11, .callr 76 0 [.lst [.con (.none), .neg (.con (.int 1)), .con (.int 201), .con (.bool true), .con (.str "3")]]] [])]), .ex (.mth .append (.slot 13) [.tryl 0 [(3, .con (.str "turn")), (4, .con (.str "lands")), (1, .con (.str "halvings")), (2, .con (.str "mark")), (5, .con (.str "row"))] (.str "told") (.call 67 [.slot 1, .slot 2] [])]), .ex (.mth .append (.slot 13) [.tryl 0 [(3, .con (.str "turn")), (4, .con (.str "lands")), (1, .con (.str "halvings")), (2, .con (.str "mark")), (5, .con (.str "row"))] (.str "told") (.call 67 [.slot 11, .slot 2] [])]), .ex (.mth .append (.slot 13) [.tryl 0 [(3, .con (.str "turn")), (4, .con (.str "lands")), (1, .con (.str "halvings")), (2, .con (.str "mark")), (5, .con (.str "row"))] (.str "told") (.call 67 [.slot 11, .tup [.con (.int 1), .con (.int 1), .con (.int 0)]] [])]), .ex (.mth .append (.slot 13) [.tryl 0 [(3, .con (.str "turn")), (4, .con (.str "lands")), (1, .con (.str "halvings")), (2, .con (.str "mark")), (5, .con (.str "row"))] (.str "told") (.call 67 [.slot 11, .tup [.con (.int 0), .neg (.con (.int 1)), .neg (.con (.int 1))]] [])]), .ex (.mth .append (.slot 13) [.tryl 0 [(3, .con (.str "turn")), (4, .con (.str "lands")), (1, .con (.str "halvings")), (2, .con (.str "mark")), (5, .con (.str "row"))] (.str "told") (.call 68 [.slot 3, .slot 1] [])]), .ex (.mth .append (.slot 13) [.tryl 0 [(3, .con (.str "turn")), (4, .con (.str "lands")), (1, .con (.str "halvings")), (2, .con (.str "mark")), (5, .con (.str "row"))] (.str "told") (.call 68 [.tup [.con (.int 1), .con (.int 0), .con (.int 0), .con (.int 1)], .slot 1] [])]), .ex (.mth .append (.slot 13) [.tryl 0 [(3, .con (.str "turn")), (4, .con (.str "lands")), (1, .con (.str "halvings")), (2, .con (.str "mark")), (5, .con (.str "row"))] (.str "told") (.call 70 [.slot 1, .slot 1] [])]), .ex (.mth .append (.slot 13) [.tryl 0 [(3, .con (.str "turn")), (4, .con (.str "lands")), (1, .con (.str "halvings")), (2, .con (.str "mark")), (5, .con (.str "row"))] (.str "told") (.call 70 [.slot 11, .slot 1] [])]), .ex (.mth .append (.slot 13) [.tryl 0 [(3, .con (.str "turn")), (4, .con (.str "lands")), (1, .con (.str "halvings")), (2, .con (.str "mark")), (5, .con (.str "row"))] (.str "told") (.call 70 [.slot 11, .tup [.slot 9, .slot 10, .slot 8]] [])]), .ex (.mth .append (.slot 13) [.tryl 0 [(3, .con (.str "turn")), (4, .con (.str "lands")), (1, .con (.str "halvings")), (2, .con (.str "mark")), (5, .con (.str "row"))] (.str "told") (.call 70 [.bin .mul (.tup [.slot 8, .slot 9]) (.con (.int 20)), .bin .mul (.tup [.slot 8, .slot 9]) (.con (.int 11))] [])]), .asg (.n 6) (.bin .add (.slot 6) (.lst [.con (.str "row"), .con (.str "halvings"), .con (.str "row"), .con (.str "mark"), .con (.str "mark"), .con (.str "mark"), .con (.str "turn"), .con (.str "row"), .con (.str "row"), .con (.str "row"), .con (.str "row"), .con (.str "row")])), .forf 5 [71, 72, 80] [.ex (.mth .append (.slot 13) [.tryl 0 [(3, .con (.str "turn")), (4, .con (.str "lands")), (1, .con (.str "halvings")), (2, .con (.str "mark")), (5, .con (.str "row"))] (.str "told") (.callv 5 [.slot 4, .slot 1])]), .ex (.mth .append (.slot 13) [.tryl 0 [(3, .con (.str "turn")), (4, .con (.str "lands")), (1, .con (.str "halvings")), (2, .con (.str "mark")), (5, .con (.str "row"))] (.str "told") (.callv 5 [.slot 12, .slot 1])]), .asg (.n 6) (.bin .add (.slot 6) (.lst [.con (.str "lands"), .con (.str "row")]))], .ex (.mth .append (.slot 13) [.tryl 0 [(3, .con (.str "turn")), (4, .con (.str "lands")), (1, .con (.str "halvings")), (2, .con (.str "mark")), (5, .con (.str "row"))] (.str "told") (.call 72 [.slot 12, .slot 11] [])]), .ex (.mth .append (.slot 13) [.tryl 0 [(3, .con (.str "turn")), (4, .con (.str "lands")), (1, .con (.str "halvings")), (2, .con (.str "mark")), (5, .con (.str "row"))] (.str "told") (.call 73 [.slot 12, .slot 11, .dic [.con (.int 0), .con (.int 1)] [.con (.int 0), .con (.int 0)]] [])]), .asg (.n 6) (.bin .add (.slot 6) (.lst [.con (.str "row"), .tup [.con (.str "told"), .con (.bool false)]])), .iff (.cmp .ne (.blt .repr [.slot 13]) (.blt .repr [.slot 6])) [.ret (.con (.bool false))] [], .fr (.n 7) .seq [.tup [.slot 1, .slot 2, .slot 3, .dic [] [], .lst [.lst []], .dic [.con (.str "a")] [.con (.int 1)], .tup [.dic [] [], .dic [] []], .tup [.tup [.slot 8, .slot 9], .tup [.slot 9, .slot 8]]]] [.iff (.orr (.cmp .nis (.call 63 [.slot 7] []) (.con (.bool false))) (.cmp .nis (.call 73 [.slot 12, .tup [.slot 8, .slot 9], .slot 7] []) (.con (.bool false)))) [.ret (.con (.bool false))] []], .ret (.an (.cmp .is (.call 63 [.slot 11] []) (.con (.bool true))) (.cmp .is (.call 63 [.bin .mul (.tup [.slot 8, .slot 9]) (.con (.int 30))] []) (.con (.bool true))))]
def b79 : List MSt := [.fr (.n 1) .rng1 [.blt .max2 [.con (.int 1), .blt .min2 [.con (.int 4), .blt .len [.slot 0]]]] [.asg (.n 2) (.call 74 [.slot 0, .slot 1] []), .iff (.orr (.nt (.callr 78 2 [])) (.nt (.callr 78 2 []))) [.ret (.con (.bool false))] []], .ret (.con (.bool true))]
def bodies : List (List MSt) := [b0, b1, b2, b3, b4, b5, b6, b7, b8, b9, b10, b11, b12, b13, b14, b15, b16, b17, b18, b19, b20, b21, b22, b23, b24, b25, b26, b27, b28, b29, b30, b31, b32, b33, b34, b35, b36, b37, b38, b39, b40, b41, b42, b43, b44, b45, b46, b47, b48, b49, b50, b51, b52, b53, b54, b55, b56, b57, b58, b59, b60, b61, b62, b63, b64, b65, b66, b67, b68, b69, b70, b71, b72, b73, b74, b75, b76, b77, b78, b79]
theorem ok_0 : cmp 0 = some b0 := by kernel_rfl
theorem ok_1 : cmp 1 = some b1 := by kernel_rfl
theorem ok_2 : cmp 2 = some b2 := by kernel_rfl
theorem ok_3 : cmp 3 = some b3 := by kernel_rfl
theorem ok_4 : cmp 4 = some b4 := by kernel_rfl
theorem ok_5 : cmp 5 = some b5 := by kernel_rfl
theorem ok_6 : cmp 6 = some b6 := by kernel_rfl
theorem ok_7 : cmp 7 = some b7 := by kernel_rfl
theorem ok_8 : cmp 8 = some b8 := by kernel_rfl
theorem ok_9 : cmp 9 = some b9 := by kernel_rfl
theorem ok_10 : cmp 10 = some b10 := by kernel_rfl
theorem ok_11 : cmp 11 = some b11 := by kernel_rfl
theorem ok_12 : cmp 12 = some b12 := by kernel_rfl
theorem ok_13 : cmp 13 = some b13 := by kernel_rfl
theorem ok_14 : cmp 14 = some b14 := by kernel_rfl
theorem ok_15 : cmp 15 = some b15 := by kernel_rfl
theorem ok_16 : cmp 16 = some b16 := by kernel_rfl
theorem ok_17 : cmp 17 = some b17 := by kernel_rfl
theorem ok_18 : cmp 18 = some b18 := by kernel_rfl
theorem ok_19 : cmp 19 = some b19 := by kernel_rfl
theorem ok_20 : cmp 20 = some b20 := by kernel_rfl
theorem ok_21 : cmp 21 = some b21 := by kernel_rfl
theorem ok_22 : cmp 22 = some b22 := by kernel_rfl
theorem ok_23 : cmp 23 = some b23 := by kernel_rfl
theorem ok_24 : cmp 24 = some b24 := by kernel_rfl
theorem ok_25 : cmp 25 = some b25 := by kernel_rfl
theorem ok_26 : cmp 26 = some b26 := by kernel_rfl
theorem ok_27 : cmp 27 = some b27 := by kernel_rfl
theorem ok_28 : cmp 28 = some b28 := by kernel_rfl
theorem ok_29 : cmp 29 = some b29 := by kernel_rfl
theorem ok_30 : cmp 30 = some b30 := by kernel_rfl
theorem ok_31 : cmp 31 = some b31 := by kernel_rfl
theorem ok_32 : cmp 32 = some b32 := by kernel_rfl
theorem ok_33 : cmp 33 = some b33 := by kernel_rfl
theorem ok_34 : cmp 34 = some b34 := by kernel_rfl
theorem ok_35 : cmp 35 = some b35 := by kernel_rfl
theorem ok_36 : cmp 36 = some b36 := by kernel_rfl
theorem ok_37 : cmp 37 = some b37 := by kernel_rfl
theorem ok_38 : cmp 38 = some b38 := by kernel_rfl
theorem ok_39 : cmp 39 = some b39 := by kernel_rfl
theorem ok_40 : cmp 40 = some b40 := by kernel_rfl
theorem ok_41 : cmp 41 = some b41 := by kernel_rfl
theorem ok_42 : cmp 42 = some b42 := by kernel_rfl
theorem ok_43 : cmp 43 = some b43 := by kernel_rfl
theorem ok_44 : cmp 44 = some b44 := by kernel_rfl
theorem ok_45 : cmp 45 = some b45 := by kernel_rfl
theorem ok_46 : cmp 46 = some b46 := by kernel_rfl
theorem ok_47 : cmp 47 = some b47 := by kernel_rfl
theorem ok_48 : cmp 48 = some b48 := by kernel_rfl
theorem ok_49 : cmp 49 = some b49 := by kernel_rfl
theorem ok_50 : cmp 50 = some b50 := by kernel_rfl
theorem ok_51 : cmp 51 = some b51 := by kernel_rfl
theorem ok_52 : cmp 52 = some b52 := by kernel_rfl
theorem ok_53 : cmp 53 = some b53 := by kernel_rfl
theorem ok_54 : cmp 54 = some b54 := by kernel_rfl
theorem ok_55 : cmp 55 = some b55 := by kernel_rfl
theorem ok_56 : cmp 56 = some b56 := by kernel_rfl
theorem ok_57 : cmp 57 = some b57 := by kernel_rfl
theorem ok_58 : cmp 58 = some b58 := by kernel_rfl
theorem ok_59 : cmp 59 = some b59 := by kernel_rfl
theorem ok_60 : cmp 60 = some b60 := by kernel_rfl
theorem ok_61 : cmp 61 = some b61 := by kernel_rfl
theorem ok_62 : cmp 62 = some b62 := by kernel_rfl
theorem ok_63 : cmp 63 = some b63 := by kernel_rfl
theorem ok_64 : cmp 64 = some b64 := by kernel_rfl
theorem ok_65 : cmp 65 = some b65 := by kernel_rfl
theorem ok_66 : cmp 66 = some b66 := by kernel_rfl
theorem ok_67 : cmp 67 = some b67 := by kernel_rfl
theorem ok_68 : cmp 68 = some b68 := by kernel_rfl
theorem ok_69 : cmp 69 = some b69 := by kernel_rfl
theorem ok_70 : cmp 70 = some b70 := by kernel_rfl
theorem ok_71 : cmp 71 = some b71 := by kernel_rfl
theorem ok_72 : cmp 72 = some b72 := by kernel_rfl
theorem ok_73 : cmp 73 = some b73 := by kernel_rfl
theorem ok_74 : cmp 74 = some b74 := by kernel_rfl
theorem ok_75 : cmp 75 = some b75 := by kernel_rfl
theorem ok_76 : cmp 76 = some b76 := by kernel_rfl
theorem ok_77 : cmp 77 = some b77 := by kernel_rfl
theorem ok_78 : cmp 78 = some b78 := by kernel_rfl
theorem ok_79 : cmp 79 = some b79 := by kernel_rfl
def subs : List (Nat × Nat) := [(0, 0), (1, 0), (1, 1), (2, 0), (2, 2), (3, 0), (3, 3), (4, 0), (4, 4), (5, 0), (5, 5)]
def lb_0 : ME := .call 73 [.slot 0, .slot 1, .con (.none)] []
def fnl : List Fn := [⟨1, 1, false, b0⟩, ⟨2, 3, false, b1⟩, ⟨2, 2, false, b2⟩, ⟨1, 3, false, b3⟩, ⟨1, 3, false, b4⟩, ⟨2, 2, false, b5⟩, ⟨2, 6, false, b6⟩, ⟨1, 3, false, b7⟩, ⟨2, 2, false, b8⟩, ⟨2, 2, false, b9⟩, ⟨2, 8, false, b10⟩, ⟨3, 3, false, b11⟩, ⟨1, 1, false, b12⟩, ⟨1, 1, false, b13⟩, ⟨1, 1, false, b14⟩, ⟨2, 2, false, b15⟩, ⟨1, 1, false, b16⟩, ⟨3, 3, false, b17⟩, ⟨2, 5, false, b18⟩, ⟨2, 8, false, b19⟩, ⟨2, 3, false, b20⟩, ⟨1, 2, false, b21⟩, ⟨1, 1, false, b22⟩, ⟨1, 1, false, b23⟩, ⟨1, 2, false, b24⟩, ⟨1, 7, false, b25⟩, ⟨2, 5, false, b26⟩, ⟨1, 3, false, b27⟩, ⟨2, 2, false, b28⟩, ⟨1, 3, false, b29⟩, ⟨1, 1, false, b30⟩, ⟨3, 6, false, b31⟩, ⟨3, 3, false, b32⟩, ⟨3, 7, false, b33⟩, ⟨2, 4, false, b34⟩, ⟨1, 4, false, b35⟩, ⟨2, 2, false, b36⟩, ⟨1, 3, false, b37⟩, ⟨2, 2, false, b38⟩, ⟨1, 4, false, b39⟩, ⟨1, 5, false, b40⟩, ⟨1, 1, false, b41⟩, ⟨1, 5, false, b42⟩, ⟨2, 8, false, b43⟩, ⟨1, 4, false, b44⟩, ⟨1, 2, false, b45⟩, ⟨1, 1, false, b46⟩, ⟨1, 5, false, b47⟩, ⟨1, 6, false, b48⟩, ⟨1, 4, false, b49⟩, ⟨1, 1, false, b50⟩, ⟨1, 3, false, b51⟩, ⟨1, 3, false, b52⟩, ⟨1, 2, false, b53⟩, ⟨1, 1, false, b54⟩, ⟨4, 7, false, b55⟩, ⟨2, 5, false, b56⟩, ⟨2, 4, false, b57⟩, ⟨1, 3, false, b58⟩, ⟨2, 12, false, b59⟩, ⟨1, 1, false, b60⟩, ⟨1, 1, false, b61⟩, ⟨2, 5, false, b62⟩, ⟨1, 1, false, b63⟩, ⟨1, 1, false, b64⟩, ⟨1, 1, false, b65⟩, ⟨2, 2, false, b66⟩, ⟨2, 2, false, b67⟩, ⟨2, 3, false, b68⟩, ⟨1, 1, false, b69⟩, ⟨2, 2, false, b70⟩, ⟨2, 2, false, b71⟩, ⟨2, 2, false, b72⟩, ⟨3, 4, false, b73⟩, ⟨2, 5, false, b74⟩, ⟨2, 5, true, b75⟩, ⟨2, 2, true, b76⟩, ⟨1, 1, false, b77⟩, ⟨1, 14, true, b78⟩, ⟨1, 3, false, b79⟩, ⟨2, 2, false, [.ret lb_0]⟩]
def lsc (g : Nat) : SC := match g with | 80 => ⟨["one", "two"], lam_0.scope, fns, cons, exn, free, true, false, [], gdl, []⟩ | _ => ⟨[], ⟨.function, [], false, false, []⟩, [], [], [], [], false, false, [], [], []⟩
def P : Prog := ⟨fnl, conD, fun c h => subs.contains (c, h), fun g => match sigs[g]? with
  | some sg => List.map Prod.snd (Sig.kwo sg)
  | none => []⟩
theorem dfl_ok : ∀ g sg, sigs[g]? = some sg → P.dfl g = sg.kwo.map (·.2) := fun g sg h => by
  show (match sigs[g]? with
    | some sg => List.map Prod.snd (Sig.kwo sg)
    | none => []) = _
  rw [h]
def nms : List (Str) := (["is_whole",
  "are_whole",
  "shared_part",
  "part_of_all",
  "lowest_row",
  "is_lowest",
  "product_by",
  "mirror_by",
  "need_halvings",
  "dot",
  "cross",
  "det",
  "is_place",
  "is_mark",
  "need_mark",
  "are_apart",
  "sign_of",
  "det_sign",
  "lies_on",
  "crossing_at",
  "meets",
  "leader",
  "is_turn",
  "need_turn",
  "stretch_of",
  "rows_of",
  "turned_in",
  "is_upper",
  "dot_of",
  "without_twos"] : List (Str)) ++
  (["size_of",
  "turned_aside",
  "row_around",
  "rows_by",
  "rows_of",
  "number_by",
  "share_floor_by",
  "sides_in",
  "do_overlap",
  "are_simple",
  "are_corners",
  "is_land",
  "factor_of",
  "link_of",
  "direction_by",
  "are_lands",
  "need_lands",
  "holders",
  "first_twice",
  "open_in",
  "need_closed",
  "times_by",
  "are_steps",
  "pointed",
  "beside",
  "turns_over",
  "rounds_in",
  "goes_along",
  "told_often",
  "heights_in"] : List (Str)) ++
  (["need_walk",
  "need_ball",
  "need_clear",
  "is_walk",
  "walk_direction",
  "pointer_direction",
  "walk_share",
  "rounds",
  "turned_walk",
  "other_walk",
  "joined_walks",
  "is_along",
  "heights",
  "are_heights",
  "_law_sack",
  "_law_dip",
  "_law_one",
  "_law_refused",
  "_law_right",
  "law"] : List (Str))
def ans : List (Str) := (["is_whole",
  "are_whole",
  "shared_part",
  "part_of_all",
  "lowest_row",
  "is_lowest",
  "product_by",
  "mirror_by",
  "need_halvings",
  "dot",
  "cross",
  "det",
  "is_place",
  "is_mark",
  "need_mark",
  "are_apart",
  "sign_of",
  "det_sign",
  "lies_on",
  "crossing_at",
  "meets",
  "leader",
  "is_turn",
  "need_turn",
  "stretch_of",
  "rows_of_turns",
  "turned_in",
  "is_upper",
  "dot_of",
  "without_twos"] : List (Str)) ++
  (["size_of",
  "turned_aside",
  "row_around",
  "rows_by",
  "rows_of",
  "number_by",
  "share_floor_by",
  "sides_in",
  "do_overlap",
  "are_simple",
  "are_corners",
  "is_land",
  "factor_of",
  "link_of",
  "direction_by",
  "are_lands",
  "need_lands",
  "holders",
  "first_twice",
  "open_in",
  "need_closed",
  "times_by",
  "are_steps",
  "pointed",
  "beside",
  "turns_over",
  "rounds_in",
  "goes_along",
  "told_often",
  "heights_in"] : List (Str)) ++
  (["need_walk",
  "need_ball",
  "need_clear",
  "is_walk",
  "walk_direction",
  "pointer_direction",
  "walk_share",
  "rounds",
  "turned_walk",
  "other_walk",
  "joined_walks",
  "is_along",
  "heights",
  "are_heights",
  "_law_sack",
  "_law_dip",
  "_law_one",
  "_law_refused",
  "_law_right",
  "law"] : List (Str))
noncomputable def tab : HT := ⟨nms, st, sc, sigs, fns, cons, conD, free, exn, gdl, fun c h => subs.contains (c, h), "", P, fun _ _ => true, lamd.map (fun g => nms.getD g ""), trs.map (·.1), [], lams, lsc, ans⟩
theorem tab_ok : tab.ok = true := by kernel_rfl
theorem tab_sc (g : Nat) : (tab.sc g).cons = tab.cons ∧ (tab.sc g).fns = tab.fns ∧ (tab.sc g).free = tab.free ∧ (tab.sc g).nov = tab.nov ∧ (tab.sc g).exn = tab.exn ∧ (tab.sc g).sc = defScope (tab.st g) := ⟨rfl, rfl, rfl, rfl, rfl, rfl⟩
theorem ok_all : ∀ g, g < 80 → ∃ fn, P.fns[g]? = some fn ∧ compL (orBad (compS tab.S 60 60 (tab.sc g))) (defBody (tab.st g)) = some fn.body
  | 0, _ => ⟨_, rfl, ok_0⟩
  | 1, _ => ⟨_, rfl, ok_1⟩
  | 2, _ => ⟨_, rfl, ok_2⟩
  | 3, _ => ⟨_, rfl, ok_3⟩
  | 4, _ => ⟨_, rfl, ok_4⟩
  | 5, _ => ⟨_, rfl, ok_5⟩
  | 6, _ => ⟨_, rfl, ok_6⟩
  | 7, _ => ⟨_, rfl, ok_7⟩
  | 8, _ => ⟨_, rfl, ok_8⟩
  | 9, _ => ⟨_, rfl, ok_9⟩
  | 10, _ => ⟨_, rfl, ok_10⟩
  | 11, _ => ⟨_, rfl, ok_11⟩
  | 12, _ => ⟨_, rfl, ok_12⟩
  | 13, _ => ⟨_, rfl, ok_13⟩
  | 14, _ => ⟨_, rfl, ok_14⟩
  | 15, _ => ⟨_, rfl, ok_15⟩
  | 16, _ => ⟨_, rfl, ok_16⟩
  | 17, _ => ⟨_, rfl, ok_17⟩
  | 18, _ => ⟨_, rfl, ok_18⟩
  | 19, _ => ⟨_, rfl, ok_19⟩
  | 20, _ => ⟨_, rfl, ok_20⟩
  | 21, _ => ⟨_, rfl, ok_21⟩
  | 22, _ => ⟨_, rfl, ok_22⟩
  | 23, _ => ⟨_, rfl, ok_23⟩
  | 24, _ => ⟨_, rfl, ok_24⟩
  | 25, _ => ⟨_, rfl, ok_25⟩
  | 26, _ => ⟨_, rfl, ok_26⟩
  | 27, _ => ⟨_, rfl, ok_27⟩
  | 28, _ => ⟨_, rfl, ok_28⟩
  | 29, _ => ⟨_, rfl, ok_29⟩
  | 30, _ => ⟨_, rfl, ok_30⟩
  | 31, _ => ⟨_, rfl, ok_31⟩
  | 32, _ => ⟨_, rfl, ok_32⟩
  | 33, _ => ⟨_, rfl, ok_33⟩
  | 34, _ => ⟨_, rfl, ok_34⟩
  | 35, _ => ⟨_, rfl, ok_35⟩
  | 36, _ => ⟨_, rfl, ok_36⟩
  | 37, _ => ⟨_, rfl, ok_37⟩
  | 38, _ => ⟨_, rfl, ok_38⟩
  | 39, _ => ⟨_, rfl, ok_39⟩
  | 40, _ => ⟨_, rfl, ok_40⟩
  | 41, _ => ⟨_, rfl, ok_41⟩
  | 42, _ => ⟨_, rfl, ok_42⟩
  | 43, _ => ⟨_, rfl, ok_43⟩
  | 44, _ => ⟨_, rfl, ok_44⟩
  | 45, _ => ⟨_, rfl, ok_45⟩
  | 46, _ => ⟨_, rfl, ok_46⟩
  | 47, _ => ⟨_, rfl, ok_47⟩
  | 48, _ => ⟨_, rfl, ok_48⟩
  | 49, _ => ⟨_, rfl, ok_49⟩
  | 50, _ => ⟨_, rfl, ok_50⟩
  | 51, _ => ⟨_, rfl, ok_51⟩
  | 52, _ => ⟨_, rfl, ok_52⟩
  | 53, _ => ⟨_, rfl, ok_53⟩
  | 54, _ => ⟨_, rfl, ok_54⟩
  | 55, _ => ⟨_, rfl, ok_55⟩
  | 56, _ => ⟨_, rfl, ok_56⟩
  | 57, _ => ⟨_, rfl, ok_57⟩
  | 58, _ => ⟨_, rfl, ok_58⟩
  | 59, _ => ⟨_, rfl, ok_59⟩
  | 60, _ => ⟨_, rfl, ok_60⟩
  | 61, _ => ⟨_, rfl, ok_61⟩
  | 62, _ => ⟨_, rfl, ok_62⟩
  | 63, _ => ⟨_, rfl, ok_63⟩
  | 64, _ => ⟨_, rfl, ok_64⟩
  | 65, _ => ⟨_, rfl, ok_65⟩
  | 66, _ => ⟨_, rfl, ok_66⟩
  | 67, _ => ⟨_, rfl, ok_67⟩
  | 68, _ => ⟨_, rfl, ok_68⟩
  | 69, _ => ⟨_, rfl, ok_69⟩
  | 70, _ => ⟨_, rfl, ok_70⟩
  | 71, _ => ⟨_, rfl, ok_71⟩
  | 72, _ => ⟨_, rfl, ok_72⟩
  | 73, _ => ⟨_, rfl, ok_73⟩
  | 74, _ => ⟨_, rfl, ok_74⟩
  | 75, _ => ⟨_, rfl, ok_75⟩
  | 76, _ => ⟨_, rfl, ok_76⟩
  | 77, _ => ⟨_, rfl, ok_77⟩
  | 78, _ => ⟨_, rfl, ok_78⟩
  | 79, _ => ⟨_, rfl, ok_79⟩
  | n + 80, h => absurd h (by omega)
theorem keepOk (K : PySem.W.Frag) (h : Heap) (mg : Str → Option Value) (c : He.SaysD [] tab.fn K) (hx : tab.ex K = true) (X : K.In h) (G : h.Ns mainGlobals mg) : KeepOk tab K mg := keep_none (by kernel_rfl)
def loose : List (Str) := (["LeafError",
  "NoHalvings",
  "NoMark",
  "NoTurn",
  "NoLands",
  "NoRow",
  "RIGHT",
  "is_whole",
  "are_whole",
  "shared_part",
  "part_of_all",
  "lowest_row",
  "is_lowest",
  "product_by",
  "mirror_by",
  "HALVINGS",
  "MOST_HALVINGS",
  "need_halvings",
  "dot",
  "cross",
  "det",
  "is_place",
  "is_mark",
  "need_mark",
  "are_apart",
  "sign_of",
  "det_sign",
  "lies_on",
  "crossing_at",
  "meets"] : List (Str)) ++
  (["leader",
  "is_turn",
  "need_turn",
  "stretch_of",
  "rows_of",
  "rows_of_turns",
  "turned_in",
  "SPARE",
  "CLEAR",
  "is_upper",
  "dot_of",
  "without_twos",
  "size_of",
  "turned_aside",
  "row_around",
  "rows_by",
  "rows_of_shares",
  "number_by",
  "share_floor_by",
  "MOST_CORNERS",
  "FEWEST_CORNERS",
  "sides_in",
  "do_overlap",
  "are_simple",
  "are_corners",
  "is_land",
  "factor_of",
  "link_of",
  "direction_by",
  "MOST_LANDS"] : List (Str)) ++
  (["FINE",
  "are_lands",
  "need_lands",
  "holders",
  "first_twice",
  "open_in",
  "need_closed",
  "times_by",
  "FEWEST",
  "MOST",
  "MARKS",
  "are_steps",
  "pointed",
  "beside",
  "turns_over",
  "rounds_in",
  "goes_along",
  "told_often",
  "heights_in",
  "need_walk",
  "need_ball",
  "need_clear",
  "is_walk",
  "walk_direction",
  "pointer_direction",
  "walk_share",
  "rounds",
  "turned_walk",
  "other_walk",
  "joined_walks"] : List (Str)) ++
  (["is_along",
  "heights",
  "are_heights",
  "_law_sack",
  "_law_dip",
  "_law_one",
  "_law_refused",
  "_law_right"] : List (Str))
def lawAt : Nat := 110
end GK89

set_option Elab.async false
set_option linter.all false
set_option maxRecDepth 1000000
set_option maxHeartbeats 0
namespace GK89
open PySem MI L2
abbrev pt (a b c d : Int) : PyData := .tuple [.int a, .int b, .int c, .int d]
abbrev xD : PyData := pt 1 0 0 1
abbrev yD : PyData := pt 0 1 0 1
abbrev zD : PyData := pt 0 0 1 1
abbrev farD : PyData := pt (-1) 0 0 1
abbrev awD : PyData := pt 0 (-1) 0 1
abbrev t3 (a b c : Int) : PyData := .tuple [.int a, .int b, .int c]
abbrev goodD : PyData := .tuple [xD, yD, zD]
abbrev halD : PyData := .tuple [.tuple [farD, awD, xD, yD], .tuple [farD, yD, xD, awD]]
abbrev xyN (n : Nat) : PyData := .tuple (List.replicate n [xD, yD]).flatten
def noneM : List PyData := [.none, .int 0, .tuple [], .tuple [xD], .list [xD, yD], .tuple [xD, xD], .tuple [xD, farD], .tuple [xD, yD, yD], .tuple [xD, yD, farD], .tuple [xD, pt 2 0 0 2], .tuple [xD, .none], xyN 31]
def markM : List PyData := [.none, .int 0, t3 0 0 0, t3 2 0 0, .list [.int 1, .int 0, .int 0], .tuple [.int 1, .int 0], .str "mark", .tuple [.bool true, .int 0, .int 1]]
def turnM : List PyData := [.none, .int 0, pt 0 0 0 0, pt 2 0 0 0, pt (-1) 0 0 0, .list [.int 1, .int 0, .int 0, .int 0], t3 1 0 0]
def landsM : List PyData := [.none, .tuple [], .list [], .tuple [.tuple [xD, yD, zD]], .tuple [xD, yD, zD], .int 0]
def halvM : List PyData := [.none, .int (-1), .int 201, .bool true, .str "3"]
def lastM : List PyData := [.dict [], .list [.list []], .dict [(.str "a", .int 1)], .tuple [.dict [], .dict []], .tuple [.tuple [xD, yD], .tuple [yD, xD]]]
noncomputable abbrev C (g : Nat) (a : List PyData) : RF := callF P 300 40 20 g none a
theorem n5 : ∀ v ∈ noneM, C 64 [v] = .exc 5 .none none ∧ C 65 [v] = .exc 5 .none none ∧ C 69 [v] = .exc 5 .none none ∧ C 66 [v, .int 30] = .exc 5 .none none ∧ C 66 [v, .int (-1)] = .exc 5 .none none := by
  intro v hv
  simp only [noneM, List.mem_cons, List.not_mem_nil, or_false] at hv
  rcases hv with rfl | rfl | rfl | rfl | rfl | rfl | rfl | rfl | rfl | rfl | rfl | rfl <;> exact ⟨by kernel_rfl, by kernel_rfl, by kernel_rfl, by kernel_rfl, by kernel_rfl⟩
theorem n67 (mk : PyData) : ∀ v ∈ noneM, C 67 [v, mk] = .exc 5 .none none := by
  intro v hv
  simp only [noneM, List.mem_cons, List.not_mem_nil, or_false] at hv
  rcases hv with rfl | rfl | rfl | rfl | rfl | rfl | rfl | rfl | rfl | rfl | rfl | rfl <;> kernel_rfl
theorem n70 : ∀ v ∈ noneM, C 70 [v, v] = .exc 5 .none none ∧ C 70 [goodD, v] = .exc 5 .none none := by
  intro v hv
  simp only [noneM, List.mem_cons, List.not_mem_nil, or_false] at hv
  rcases hv with rfl | rfl | rfl | rfl | rfl | rfl | rfl | rfl | rfl | rfl | rfl | rfl <;> exact ⟨by kernel_rfl, by kernel_rfl⟩
theorem n68 : ∀ v ∈ noneM, C 68 [xD, v] = .exc 5 .none none := by
  intro v hv
  simp only [noneM, List.mem_cons, List.not_mem_nil, or_false] at hv
  rcases hv with rfl | rfl | rfl | rfl | rfl | rfl | rfl | rfl | rfl | rfl | rfl | rfl <;> kernel_rfl
theorem nh : ∀ v ∈ noneM, C 71 [halD, v] = .exc 5 .none none ∧ C 72 [halD, v] = .exc 5 .none none ∧ C 80 [halD, v] = .exc 5 .none none := by
  intro v hv
  simp only [noneM, List.mem_cons, List.not_mem_nil, or_false] at hv
  rcases hv with rfl | rfl | rfl | rfl | rfl | rfl | rfl | rfl | rfl | rfl | rfl | rfl <;> exact ⟨by kernel_rfl, by kernel_rfl, by kernel_rfl⟩
theorem m67 : ∀ v ∈ markM, C 67 [goodD, v] = .exc 2 .none none := by
  intro v hv
  simp only [markM, List.mem_cons, List.not_mem_nil, or_false] at hv
  rcases hv with rfl | rfl | rfl | rfl | rfl | rfl | rfl | rfl <;> kernel_rfl
theorem h66 : ∀ v ∈ halvM, C 66 [goodD, v] = .exc 1 .none none := by
  intro v hv
  simp only [halvM, List.mem_cons, List.not_mem_nil, or_false] at hv
  rcases hv with rfl | rfl | rfl | rfl | rfl <;> kernel_rfl
theorem t68 (w : PyData) : ∀ v ∈ turnM, C 68 [v, w] = .exc 3 .none none := by
  intro v hv
  simp only [turnM, List.mem_cons, List.not_mem_nil, or_false] at hv
  rcases hv with rfl | rfl | rfl | rfl | rfl | rfl | rfl <;> kernel_rfl
theorem l4 (w : PyData) : ∀ v ∈ landsM, C 71 [v, w] = .exc 4 .none none ∧ C 72 [v, w] = .exc 4 .none none ∧ C 80 [v, w] = .exc 4 .none none := by
  intro v hv
  simp only [landsM, List.mem_cons, List.not_mem_nil, or_false] at hv
  rcases hv with rfl | rfl | rfl | rfl | rfl | rfl <;> exact ⟨by kernel_rfl, by kernel_rfl, by kernel_rfl⟩
theorem c67a : C 67 [goodD, t3 1 1 0] = .exc 2 .none none := by kernel_rfl
theorem c67b : C 67 [goodD, t3 0 (-1) (-1)] = .exc 2 .none none := by kernel_rfl
theorem c70a : C 70 [goodD, .tuple [yD, zD, xD]] = .exc 5 .none none := by kernel_rfl
theorem c70b : C 70 [xyN 20, xyN 11] = .exc 5 .none none := by kernel_rfl
theorem c72 : C 72 [halD, goodD] = .exc 5 .none none := by kernel_rfl
theorem c73 : C 73 [halD, goodD, .dict [(.int 0, .int 0), (.int 1, .int 0)]] = .ok (.d (.bool false)) none := by kernel_rfl
noncomputable abbrev no2 (v : PyData) : Prop := C 63 [v] = .ok (.d (.bool false)) none ∧ C 73 [halD, .tuple [xD, yD], v] = .ok (.d (.bool false)) none
theorem y63 : C 63 [goodD] = .ok (.d (.bool true)) none ∧ C 63 [xyN 30] = .ok (.d (.bool true)) none := ⟨by kernel_rfl, by kernel_rfl⟩
theorem f_noneM : ∀ v ∈ noneM, no2 v := by
  intro v hv
  simp only [noneM, List.mem_cons, List.not_mem_nil, or_false] at hv
  rcases hv with rfl | rfl | rfl | rfl | rfl | rfl | rfl | rfl | rfl | rfl | rfl | rfl <;> exact ⟨by kernel_rfl, by kernel_rfl⟩
theorem f_markM : ∀ v ∈ markM, no2 v := by
  intro v hv
  simp only [markM, List.mem_cons, List.not_mem_nil, or_false] at hv
  rcases hv with rfl | rfl | rfl | rfl | rfl | rfl | rfl | rfl <;> exact ⟨by kernel_rfl, by kernel_rfl⟩
theorem f_turnM : ∀ v ∈ turnM, no2 v := by
  intro v hv
  simp only [turnM, List.mem_cons, List.not_mem_nil, or_false] at hv
  rcases hv with rfl | rfl | rfl | rfl | rfl | rfl | rfl <;> exact ⟨by kernel_rfl, by kernel_rfl⟩
theorem f_lastM : ∀ v ∈ lastM, no2 v := by
  intro v hv
  simp only [lastM, List.mem_cons, List.not_mem_nil, or_false] at hv
  rcases hv with rfl | rfl | rfl | rfl | rfl <;> exact ⟨by kernel_rfl, by kernel_rfl⟩
end GK89

set_option Elab.async false
set_option linter.all false
set_option maxRecDepth 1000000
set_option maxHeartbeats 1000000
namespace GK89
open PySem MI L2
abbrev s_0 : MSt := .asg (.t [.n 8, .n 9, .n 10]) (.tup [.tup [.con (.int 1), .con (.int 0), .con (.int 0), .con (.int 1)], .tup [.con (.int 0), .con (.int 1), .con (.int 0), .con (.int 1)], .tup [.con (.int 0), .con (.int 0), .con (.int 1), .con (.int 1)]])
abbrev s_1 : MSt := .asg (.n 1) (.callr 76 0 [.lst [.con (.none), .con (.int 0), .tup [], .tup [.slot 8], .lst [.slot 8, .slot 9], .tup [.slot 8, .slot 8], .tup [.slot 8, .tup [.neg (.con (.int 1)), .con (.int 0), .con (.int 0), .con (.int 1)]], .tup [.slot 8, .slot 9, .slot 9], .tup [.slot 8, .slot 9, .tup [.neg (.con (.int 1)), .con (.int 0), .con (.int 0), .con (.int 1)]], .tup [.slot 8, .tup [.con (.int 2), .con (.int 0), .con (.int 0), .con (.int 2)]], .tup [.slot 8, .con (.none)], .bin .mul (.tup [.slot 8, .slot 9]) (.con (.int 31))]])
abbrev s_2 : MSt := .asg (.n 2) (.callr 76 0 [.lst [.con (.none), .con (.int 0), .tup [.con (.int 0), .con (.int 0), .con (.int 0)], .tup [.con (.int 2), .con (.int 0), .con (.int 0)], .lst [.con (.int 1), .con (.int 0), .con (.int 0)], .tup [.con (.int 1), .con (.int 0)], .con (.str "mark"), .tup [.con (.bool true), .con (.int 0), .con (.int 1)]]])
abbrev s_3 : MSt := .asg (.n 3) (.callr 76 0 [.lst [.con (.none), .con (.int 0), .tup [.con (.int 0), .con (.int 0), .con (.int 0), .con (.int 0)], .tup [.con (.int 2), .con (.int 0), .con (.int 0), .con (.int 0)], .tup [.neg (.con (.int 1)), .con (.int 0), .con (.int 0), .con (.int 0)], .lst [.con (.int 1), .con (.int 0), .con (.int 0), .con (.int 0)], .tup [.con (.int 1), .con (.int 0), .con (.int 0)]]])
abbrev s_4 : MSt := .asg (.n 4) (.callr 76 0 [.lst [.con (.none), .tup [], .lst [], .tup [.tup [.slot 8, .slot 9, .slot 10]], .tup [.slot 8, .slot 9, .slot 10], .con (.int 0)]])
abbrev s_5 : MSt := .asg (.t [.n 11, .n 12]) (.tup [.tup [.slot 8, .slot 9, .slot 10], .tup [.tup [.tup [.neg (.con (.int 1)), .con (.int 0), .con (.int 0), .con (.int 1)], .tup [.con (.int 0), .neg (.con (.int 1)), .con (.int 0), .con (.int 1)], .slot 8, .slot 9], .tup [.tup [.neg (.con (.int 1)), .con (.int 0), .con (.int 0), .con (.int 1)], .slot 9, .slot 8, .tup [.con (.int 0), .neg (.con (.int 1)), .con (.int 0), .con (.int 1)]]]])
abbrev s_6 : MSt := .par [13, 6] [.lst [], .lst []]
abbrev s_7 : MSt := .forf 5 [64, 65, 69, 66] [.ex (.mth .append (.slot 13) [.tryl 0 [(3, .con (.str "turn")), (4, .con (.str "lands")), (1, .con (.str "halvings")), (2, .con (.str "mark")), (5, .con (.str "row"))] (.str "told") (.callv 5 [.slot 1])]), .ex (.mth .append (.slot 6) [.con (.str "row")])]
abbrev s_8 : MSt := .ex (.mth .append (.slot 13) [.tryl 0 [(3, .con (.str "turn")), (4, .con (.str "lands")), (1, .con (.str "halvings")), (2, .con (.str "mark")), (5, .con (.str "row"))] (.str "told") (.call 66 [.slot 1, .neg (.con (.int 1))] [])])
abbrev s_9 : MSt := .ex (.mth .append (.slot 13) [.tryl 0 [(3, .con (.str "turn")), (4, .con (.str "lands")), (1, .con (.str "halvings")), (2, .con (.str "mark")), (5, .con (.str "row"))] (.str "told") (.call 66 [.slot 11, .callr 76 0 [.lst [.con (.none), .neg (.con (.int 1)), .con (.int 201), .con (.bool true), .con (.str "3")]]] [])])
abbrev s_10 : MSt := .ex (.mth .append (.slot 13) [.tryl 0 [(3, .con (.str "turn")), (4, .con (.str "lands")), (1, .con (.str "halvings")), (2, .con (.str "mark")), (5, .con (.str "row"))] (.str "told") (.call 67 [.slot 1, .slot 2] [])])
abbrev s_11 : MSt := .ex (.mth .append (.slot 13) [.tryl 0 [(3, .con (.str "turn")), (4, .con (.str "lands")), (1, .con (.str "halvings")), (2, .con (.str "mark")), (5, .con (.str "row"))] (.str "told") (.call 67 [.slot 11, .slot 2] [])])
abbrev s_12 : MSt := .ex (.mth .append (.slot 13) [.tryl 0 [(3, .con (.str "turn")), (4, .con (.str "lands")), (1, .con (.str "halvings")), (2, .con (.str "mark")), (5, .con (.str "row"))] (.str "told") (.call 67 [.slot 11, .tup [.con (.int 1), .con (.int 1), .con (.int 0)]] [])])
abbrev s_13 : MSt := .ex (.mth .append (.slot 13) [.tryl 0 [(3, .con (.str "turn")), (4, .con (.str "lands")), (1, .con (.str "halvings")), (2, .con (.str "mark")), (5, .con (.str "row"))] (.str "told") (.call 67 [.slot 11, .tup [.con (.int 0), .neg (.con (.int 1)), .neg (.con (.int 1))]] [])])
abbrev s_14 : MSt := .ex (.mth .append (.slot 13) [.tryl 0 [(3, .con (.str "turn")), (4, .con (.str "lands")), (1, .con (.str "halvings")), (2, .con (.str "mark")), (5, .con (.str "row"))] (.str "told") (.call 68 [.slot 3, .slot 1] [])])
abbrev s_15 : MSt := .ex (.mth .append (.slot 13) [.tryl 0 [(3, .con (.str "turn")), (4, .con (.str "lands")), (1, .con (.str "halvings")), (2, .con (.str "mark")), (5, .con (.str "row"))] (.str "told") (.call 68 [.tup [.con (.int 1), .con (.int 0), .con (.int 0), .con (.int 1)], .slot 1] [])])
abbrev s_16 : MSt := .ex (.mth .append (.slot 13) [.tryl 0 [(3, .con (.str "turn")), (4, .con (.str "lands")), (1, .con (.str "halvings")), (2, .con (.str "mark")), (5, .con (.str "row"))] (.str "told") (.call 70 [.slot 1, .slot 1] [])])
abbrev s_17 : MSt := .ex (.mth .append (.slot 13) [.tryl 0 [(3, .con (.str "turn")), (4, .con (.str "lands")), (1, .con (.str "halvings")), (2, .con (.str "mark")), (5, .con (.str "row"))] (.str "told") (.call 70 [.slot 11, .slot 1] [])])
abbrev s_18 : MSt := .ex (.mth .append (.slot 13) [.tryl 0 [(3, .con (.str "turn")), (4, .con (.str "lands")), (1, .con (.str "halvings")), (2, .con (.str "mark")), (5, .con (.str "row"))] (.str "told") (.call 70 [.slot 11, .tup [.slot 9, .slot 10, .slot 8]] [])])
abbrev s_19 : MSt := .ex (.mth .append (.slot 13) [.tryl 0 [(3, .con (.str "turn")), (4, .con (.str "lands")), (1, .con (.str "halvings")), (2, .con (.str "mark")), (5, .con (.str "row"))] (.str "told") (.call 70 [.bin .mul (.tup [.slot 8, .slot 9]) (.con (.int 20)), .bin .mul (.tup [.slot 8, .slot 9]) (.con (.int 11))] [])])
abbrev s_20 : MSt := .asg (.n 6) (.bin .add (.slot 6) (.lst [.con (.str "row"), .con (.str "halvings"), .con (.str "row"), .con (.str "mark"), .con (.str "mark"), .con (.str "mark"), .con (.str "turn"), .con (.str "row"), .con (.str "row"), .con (.str "row"), .con (.str "row"), .con (.str "row")]))
abbrev s_21 : MSt := .forf 5 [71, 72, 80] [.ex (.mth .append (.slot 13) [.tryl 0 [(3, .con (.str "turn")), (4, .con (.str "lands")), (1, .con (.str "halvings")), (2, .con (.str "mark")), (5, .con (.str "row"))] (.str "told") (.callv 5 [.slot 4, .slot 1])]), .ex (.mth .append (.slot 13) [.tryl 0 [(3, .con (.str "turn")), (4, .con (.str "lands")), (1, .con (.str "halvings")), (2, .con (.str "mark")), (5, .con (.str "row"))] (.str "told") (.callv 5 [.slot 12, .slot 1])]), .asg (.n 6) (.bin .add (.slot 6) (.lst [.con (.str "lands"), .con (.str "row")]))]
abbrev s_22 : MSt := .ex (.mth .append (.slot 13) [.tryl 0 [(3, .con (.str "turn")), (4, .con (.str "lands")), (1, .con (.str "halvings")), (2, .con (.str "mark")), (5, .con (.str "row"))] (.str "told") (.call 72 [.slot 12, .slot 11] [])])
abbrev s_23 : MSt := .ex (.mth .append (.slot 13) [.tryl 0 [(3, .con (.str "turn")), (4, .con (.str "lands")), (1, .con (.str "halvings")), (2, .con (.str "mark")), (5, .con (.str "row"))] (.str "told") (.call 73 [.slot 12, .slot 11, .dic [.con (.int 0), .con (.int 1)] [.con (.int 0), .con (.int 0)]] [])])
abbrev s_24 : MSt := .asg (.n 6) (.bin .add (.slot 6) (.lst [.con (.str "row"), .tup [.con (.str "told"), .con (.bool false)]]))
abbrev s_25 : MSt := .iff (.cmp .ne (.blt .repr [.slot 13]) (.blt .repr [.slot 6])) [.ret (.con (.bool false))] []
abbrev s_26 : MSt := .fr (.n 7) .seq [.tup [.slot 1, .slot 2, .slot 3, .dic [] [], .lst [.lst []], .dic [.con (.str "a")] [.con (.int 1)], .tup [.dic [] [], .dic [] []], .tup [.tup [.slot 8, .slot 9], .tup [.slot 9, .slot 8]]]] [.iff (.orr (.cmp .nis (.call 63 [.slot 7] []) (.con (.bool false))) (.cmp .nis (.call 73 [.slot 12, .tup [.slot 8, .slot 9], .slot 7] []) (.con (.bool false)))) [.ret (.con (.bool false))] []]
abbrev s_27 : MSt := .ret (.an (.cmp .is (.call 63 [.slot 11] []) (.con (.bool true))) (.cmp .is (.call 63 [.bin .mul (.tup [.slot 8, .slot 9]) (.con (.int 30))] []) (.con (.bool true))))
theorem b78_eq : b78 = [s_0, s_1, s_2, s_3, s_4, s_5, s_6, s_7, s_8, s_9, s_10, s_11, s_12, s_13, s_14, s_15, s_16, s_17, s_18, s_19, s_20, s_21, s_22, s_23, s_24, s_25, s_26, s_27] := rfl
noncomputable abbrev KK : Cfg := KD P 300 20
noncomputable abbrev X40 : MSt → MS → Out MI.Flow := (sem KK 40).ex
def lv : MO → MO
  | .lst xs _ => .lst xs true
  | o => o
abbrev En (v m t l e5 e6 e7 e13 : Option Val) : List (Option Val) := [some (.ref 0), v, m, t, l, e5, e6, e7, some (.d xD), some (.d yD), some (.d zD), some (.d goodD), some (.d halD), e13]
abbrev E0 (v m t l : Option Val) : List (Option Val) := [some (.ref 0), v, m, t, l, none, none, none, some (.d xD), some (.d yD), some (.d zD), none, none, none]
abbrev o1 : MO := .lst [.d xD, .d yD] false
abbrev o2 : MO := .lst [.d .none, .d (.int 0), .d (.tuple []), .d (.tuple [xD]), .ref 1, .d (.tuple [xD, xD]), .d (.tuple [xD, farD]), .d (.tuple [xD, yD, yD]), .d (.tuple [xD, yD, farD]), .d (.tuple [xD, pt 2 0 0 2]), .d (.tuple [xD, .none]), .d (xyN 31)] false
abbrev o3 : MO := .lst [.d (.int 1), .d (.int 0), .d (.int 0)] false
abbrev o4 : MO := .lst [.d .none, .d (.int 0), .d (t3 0 0 0), .d (t3 2 0 0), .ref 3, .d (.tuple [.int 1, .int 0]), .d (.str "mark"), .d (.tuple [.bool true, .int 0, .int 1])] false
abbrev o5 : MO := .lst [.d (.int 1), .d (.int 0), .d (.int 0), .d (.int 0)] false
abbrev o6 : MO := .lst [.d .none, .d (.int 0), .d (pt 0 0 0 0), .d (pt 2 0 0 0), .d (pt (-1) 0 0 0), .ref 5, .d (t3 1 0 0)] false
abbrev o7 : MO := .lst [] false
abbrev o8 : MO := .lst [.d .none, .d (.tuple []), .ref 7, .d (.tuple [.tuple [xD, yD, zD]]), .d (.tuple [xD, yD, zD]), .d (.int 0)] false
abbrev o11 : MO := .lst [.d .none, .d (.int (-1)), .d (.int 201), .d (.bool true), .d (.str "3")] false
abbrev fn78 : Fn := ⟨1, 14, true, b78⟩
abbrev s00 (a b c : Int) : MS := ⟨[some (.ref 0), none, none, none, none, none, none, none, none, none, none, none, none, none], [skO a b c]⟩
abbrev sA (a b c : Int) : MS := ⟨E0 none none none none, [skO a b c]⟩
abbrev sB (v : PyData) (a b c : Int) : MS := ⟨E0 (some (.d v)) none none none, [skO a b c, o1, o2]⟩
abbrev sC (v m : PyData) (a b c : Int) : MS := ⟨E0 (some (.d v)) (some (.d m)) none none, [skO a b c, o1, o2, o3, o4]⟩
abbrev sD (v m t : PyData) (a b c : Int) : MS := ⟨E0 (some (.d v)) (some (.d m)) (some (.d t)) none, [skO a b c, o1, o2, o3, o4, o5, o6]⟩
abbrev sE (v m t l : PyData) (a b c : Int) : MS := ⟨E0 (some (.d v)) (some (.d m)) (some (.d t)) (some (.d l)), [skO a b c, o1, o2, o3, o4, o5, o6, o7, o8]⟩
structure Lv where
  v : PyData
  m : PyData
  t : PyData
  l : PyData
  a : Int
  b : Int
  c : Int
abbrev W (q : Lv) (e5 : Option Val) (di : Nat) (e7 : Option Val) (told : List Val) (tail : List MO) : MS := ⟨En (some (.d q.v)) (some (.d q.m)) (some (.d q.t)) (some (.d q.l)) e5 (some (.ref di)) e7 (some (.ref 9)), skO q.a q.b q.c :: o1 :: o2 :: o3 :: o4 :: o5 :: o6 :: o7 :: o8 :: .lst told true :: tail⟩
abbrev sF (q : Lv) : MS := ⟨En (some (.d q.v)) (some (.d q.m)) (some (.d q.t)) (some (.d q.l)) none none none none, [skO q.a q.b q.c, o1, o2, o3, o4, o5, o6, o7, o8]⟩
theorem p0 (a b c : Int) : X40 s_0 (s00 a b c) = .ok .next (sA a b c) := by kernel_rfl
theorem p1 {v : PyData} {a b c a' c' : Int} (hc : callF P 300 40 20 76 (some [.int a, .int b, .int c]) [.list noneM] = .ok (.d v) (some [.int a', .int b, .int c'])) : X40 s_1 (sA a b c) = .ok .next (sB v a' b c') :=
  ex_asg (i := 1) (s1 := { (sA a b c) with objs := [skO a' b c', o1, o2] }) (draw (n := 38) (vs := [.ref 2]) (ds := [.list noneM]) (os := [skO a b c, o1, o2]) (s1 := { (sA a b c) with objs := [skO a b c, lv o1, lv o2] }) rfl (by kernel_rfl) (by kernel_rfl) rfl hc) (by show (1 : Nat) < 14; decide)
theorem p2 {v m : PyData} {a b c a' c' : Int} (hc : callF P 300 40 20 76 (some [.int a, .int b, .int c]) [.list markM] = .ok (.d m) (some [.int a', .int b, .int c'])) : X40 s_2 (sB v a b c) = .ok .next (sC v m a' b c') :=
  ex_asg (i := 2) (s1 := { (sB v a b c) with objs := [skO a' b c', o1, o2, o3, o4] }) (draw (n := 38) (vs := [.ref 4]) (ds := [.list markM]) (os := [skO a b c, o1, o2, o3, o4]) (s1 := { (sB v a b c) with objs := [skO a b c, o1, o2, lv o3, lv o4] }) rfl (by kernel_rfl) (by kernel_rfl) rfl hc) (by show (2 : Nat) < 14; decide)
theorem p3 {v m t : PyData} {a b c a' c' : Int} (hc : callF P 300 40 20 76 (some [.int a, .int b, .int c]) [.list turnM] = .ok (.d t) (some [.int a', .int b, .int c'])) : X40 s_3 (sC v m a b c) = .ok .next (sD v m t a' b c') :=
  ex_asg (i := 3) (s1 := { (sC v m a b c) with objs := [skO a' b c', o1, o2, o3, o4, o5, o6] }) (draw (n := 38) (vs := [.ref 6]) (ds := [.list turnM]) (os := [skO a b c, o1, o2, o3, o4, o5, o6]) (s1 := { (sC v m a b c) with objs := [skO a b c, o1, o2, o3, o4, lv o5, lv o6] }) rfl (by kernel_rfl) (by kernel_rfl) rfl hc) (by show (3 : Nat) < 14; decide)
theorem p4 {v m t l : PyData} {a b c a' c' : Int} (hc : callF P 300 40 20 76 (some [.int a, .int b, .int c]) [.list landsM] = .ok (.d l) (some [.int a', .int b, .int c'])) : X40 s_4 (sD v m t a b c) = .ok .next (sE v m t l a' b c') :=
  ex_asg (i := 4) (s1 := { (sD v m t a b c) with objs := [skO a' b c', o1, o2, o3, o4, o5, o6, o7, o8] }) (draw (n := 38) (vs := [.ref 8]) (ds := [.list landsM]) (os := [skO a b c, o1, o2, o3, o4, o5, o6, o7, o8]) (s1 := { (sD v m t a b c) with objs := [skO a b c, o1, o2, o3, o4, o5, o6, lv o7, lv o8] }) rfl (by kernel_rfl) (by kernel_rfl) rfl hc) (by show (4 : Nat) < 14; decide)
abbrev T0 : List Val := []
abbrev T1 : List Val := [.d (.str "row")]
abbrev T2 : List Val := [.d (.str "row"), .d (.str "row")]
abbrev T3 : List Val := [.d (.str "row"), .d (.str "row"), .d (.str "row")]
abbrev T4 : List Val := [.d (.str "row"), .d (.str "row"), .d (.str "row"), .d (.str "row")]
abbrev T5 : List Val := [.d (.str "row"), .d (.str "row"), .d (.str "row"), .d (.str "row"), .d (.str "row")]
abbrev T6 : List Val := [.d (.str "row"), .d (.str "row"), .d (.str "row"), .d (.str "row"), .d (.str "row"), .d (.str "halvings")]
abbrev T7 : List Val := [.d (.str "row"), .d (.str "row"), .d (.str "row"), .d (.str "row"), .d (.str "row"), .d (.str "halvings"), .d (.str "row")]
abbrev T8 : List Val := [.d (.str "row"), .d (.str "row"), .d (.str "row"), .d (.str "row"), .d (.str "row"), .d (.str "halvings"), .d (.str "row"), .d (.str "mark")]
abbrev T9 : List Val := [.d (.str "row"), .d (.str "row"), .d (.str "row"), .d (.str "row"), .d (.str "row"), .d (.str "halvings"), .d (.str "row"), .d (.str "mark"), .d (.str "mark")]
abbrev T10 : List Val := [.d (.str "row"), .d (.str "row"), .d (.str "row"), .d (.str "row"), .d (.str "row"), .d (.str "halvings"), .d (.str "row"), .d (.str "mark"), .d (.str "mark"), .d (.str "mark")]
abbrev T11 : List Val := [.d (.str "row"), .d (.str "row"), .d (.str "row"), .d (.str "row"), .d (.str "row"), .d (.str "halvings"), .d (.str "row"), .d (.str "mark"), .d (.str "mark"), .d (.str "mark"), .d (.str "turn")]
abbrev T12 : List Val := [.d (.str "row"), .d (.str "row"), .d (.str "row"), .d (.str "row"), .d (.str "row"), .d (.str "halvings"), .d (.str "row"), .d (.str "mark"), .d (.str "mark"), .d (.str "mark"), .d (.str "turn"), .d (.str "row")]
abbrev T13 : List Val := [.d (.str "row"), .d (.str "row"), .d (.str "row"), .d (.str "row"), .d (.str "row"), .d (.str "halvings"), .d (.str "row"), .d (.str "mark"), .d (.str "mark"), .d (.str "mark"), .d (.str "turn"), .d (.str "row"), .d (.str "row")]
abbrev T14 : List Val := [.d (.str "row"), .d (.str "row"), .d (.str "row"), .d (.str "row"), .d (.str "row"), .d (.str "halvings"), .d (.str "row"), .d (.str "mark"), .d (.str "mark"), .d (.str "mark"), .d (.str "turn"), .d (.str "row"), .d (.str "row"), .d (.str "row")]
abbrev T15 : List Val := [.d (.str "row"), .d (.str "row"), .d (.str "row"), .d (.str "row"), .d (.str "row"), .d (.str "halvings"), .d (.str "row"), .d (.str "mark"), .d (.str "mark"), .d (.str "mark"), .d (.str "turn"), .d (.str "row"), .d (.str "row"), .d (.str "row"), .d (.str "row")]
abbrev T16 : List Val := [.d (.str "row"), .d (.str "row"), .d (.str "row"), .d (.str "row"), .d (.str "row"), .d (.str "halvings"), .d (.str "row"), .d (.str "mark"), .d (.str "mark"), .d (.str "mark"), .d (.str "turn"), .d (.str "row"), .d (.str "row"), .d (.str "row"), .d (.str "row"), .d (.str "row")]
abbrev T17 : List Val := [.d (.str "row"), .d (.str "row"), .d (.str "row"), .d (.str "row"), .d (.str "row"), .d (.str "halvings"), .d (.str "row"), .d (.str "mark"), .d (.str "mark"), .d (.str "mark"), .d (.str "turn"), .d (.str "row"), .d (.str "row"), .d (.str "row"), .d (.str "row"), .d (.str "row"), .d (.str "lands")]
abbrev T18 : List Val := [.d (.str "row"), .d (.str "row"), .d (.str "row"), .d (.str "row"), .d (.str "row"), .d (.str "halvings"), .d (.str "row"), .d (.str "mark"), .d (.str "mark"), .d (.str "mark"), .d (.str "turn"), .d (.str "row"), .d (.str "row"), .d (.str "row"), .d (.str "row"), .d (.str "row"), .d (.str "lands"), .d (.str "row")]
abbrev T19 : List Val := [.d (.str "row"), .d (.str "row"), .d (.str "row"), .d (.str "row"), .d (.str "row"), .d (.str "halvings"), .d (.str "row"), .d (.str "mark"), .d (.str "mark"), .d (.str "mark"), .d (.str "turn"), .d (.str "row"), .d (.str "row"), .d (.str "row"), .d (.str "row"), .d (.str "row"), .d (.str "lands"), .d (.str "row"), .d (.str "lands")]
abbrev T20 : List Val := [.d (.str "row"), .d (.str "row"), .d (.str "row"), .d (.str "row"), .d (.str "row"), .d (.str "halvings"), .d (.str "row"), .d (.str "mark"), .d (.str "mark"), .d (.str "mark"), .d (.str "turn"), .d (.str "row"), .d (.str "row"), .d (.str "row"), .d (.str "row"), .d (.str "row"), .d (.str "lands"), .d (.str "row"), .d (.str "lands"), .d (.str "row")]
abbrev T21 : List Val := [.d (.str "row"), .d (.str "row"), .d (.str "row"), .d (.str "row"), .d (.str "row"), .d (.str "halvings"), .d (.str "row"), .d (.str "mark"), .d (.str "mark"), .d (.str "mark"), .d (.str "turn"), .d (.str "row"), .d (.str "row"), .d (.str "row"), .d (.str "row"), .d (.str "row"), .d (.str "lands"), .d (.str "row"), .d (.str "lands"), .d (.str "row"), .d (.str "lands")]
abbrev T22 : List Val := [.d (.str "row"), .d (.str "row"), .d (.str "row"), .d (.str "row"), .d (.str "row"), .d (.str "halvings"), .d (.str "row"), .d (.str "mark"), .d (.str "mark"), .d (.str "mark"), .d (.str "turn"), .d (.str "row"), .d (.str "row"), .d (.str "row"), .d (.str "row"), .d (.str "row"), .d (.str "lands"), .d (.str "row"), .d (.str "lands"), .d (.str "row"), .d (.str "lands"), .d (.str "row")]
abbrev T23 : List Val := [.d (.str "row"), .d (.str "row"), .d (.str "row"), .d (.str "row"), .d (.str "row"), .d (.str "halvings"), .d (.str "row"), .d (.str "mark"), .d (.str "mark"), .d (.str "mark"), .d (.str "turn"), .d (.str "row"), .d (.str "row"), .d (.str "row"), .d (.str "row"), .d (.str "row"), .d (.str "lands"), .d (.str "row"), .d (.str "lands"), .d (.str "row"), .d (.str "lands"), .d (.str "row"), .d (.str "row")]
abbrev T24 : List Val := [.d (.str "row"), .d (.str "row"), .d (.str "row"), .d (.str "row"), .d (.str "row"), .d (.str "halvings"), .d (.str "row"), .d (.str "mark"), .d (.str "mark"), .d (.str "mark"), .d (.str "turn"), .d (.str "row"), .d (.str "row"), .d (.str "row"), .d (.str "row"), .d (.str "row"), .d (.str "lands"), .d (.str "row"), .d (.str "lands"), .d (.str "row"), .d (.str "lands"), .d (.str "row"), .d (.str "row"), .d (.tuple [.str "told", .bool false])]
theorem p5 (q : Lv) : X40 s_5 (sE q.v q.m q.t q.l q.a q.b q.c) = .ok .next (sF q) := by kernel_rfl
theorem p6 (q : Lv) : X40 s_6 (sF q) = .ok .next (W q none 10 none T0 [.lst T0 true]) := by kernel_rfl
abbrev hsT : List (Nat × HR) := [(3, .con (.str "turn")), (4, .con (.str "lands")), (1, .con (.str "halvings")), (2, .con (.str "mark")), (5, .con (.str "row"))]
abbrev bodyR : List MSt := [.ex (.mth .append (.slot 13) [.tryl 0 hsT (.str "told") (.callv 5 [.slot 1])]), .ex (.mth .append (.slot 6) [.con (.str "row")])]
theorem turnR {q : Lv} {g : Nat} {told due : List Val} (hc : C g ([q.v] ++ P.dfl g) = .exc 5 .none none) (h1 : told.length < 1000) (h2 : due.length < 1000) :
    exs (sem KK 39).ex bodyR (W q (some (.fn g)) 10 none told [.lst due true]) = .ok .next (W q (some (.fn g)) 10 none (told ++ [.d (.str "row")]) [.lst (due ++ [.d (.str "row")]) true]) := by
  rw [exs_next (told_step (n := 36) (i := 13) (t := 9) (c := 5) (x := .none) (r := .con (.str "row")) (xs := told) (s := W q (some (.fn g)) 10 none told [.lst due true]) (callv_exc (n := 35) (i := 5) (g := g) (ds := [q.v]) rfl rfl hc) rfl rfl rfl h1)]
  exact exs_one (due_step (n := 36) (t := 10) (i := 6) (s := W q (some (.fn g)) 10 none (told ++ [.d (.str "row")]) [.lst due true]) rfl rfl h2)
theorem p7 {q : Lv} (hv : q.v ∈ noneM) : X40 s_7 (W q none 10 none T0 [.lst T0 true]) = .ok .next (W q (some (.fn 66)) 10 none T4 [.lst T4 true]) := by
  obtain ⟨h1, h2, h3, h4, _⟩ := n5 _ hv
  show frL (asgI (.n 5)) (exs (sem KK 39).ex bodyR) [.one (.fn 64), .one (.fn 65), .one (.fn 69), .one (.fn 66)] (W q none 10 none T0 [.lst T0 true]) = _
  rw [frL_next (s1 := W q (some (.fn 64)) 10 none T0 [.lst T0 true]) rfl (turnR h1 (by decide) (by decide))]
  rw [frL_next (s1 := W q (some (.fn 65)) 10 none T1 [.lst T1 true]) rfl (turnR h2 (by decide) (by decide))]
  rw [frL_next (s1 := W q (some (.fn 69)) 10 none T2 [.lst T2 true]) rfl (turnR h3 (by decide) (by decide))]
  rw [frL_next (s1 := W q (some (.fn 66)) 10 none T3 [.lst T3 true]) rfl (turnR h4 (by decide) (by decide))]
  rfl
theorem callK {n g c : Nat} {es : List ME} {ds : List PyData} {x : PyData} {s : MS} (ha : evs (sem KK n).ev es s = .ok (ds.map .d) s) (hc : C g ds = .exc c x none) : (sem KK (n + 1)).ev (.call g es []) s = .exc c x s := call_exc ha (by rw [List.append_nil]; exact hc)
abbrev ta4 : List MO := [.lst T4 true]
abbrev ta9 : List MO := [.lst T4 true, o11]
section
variable {q : Lv} {e5 e7 : Option Val} {di : Nat} {tail : List MO}
theorem p8 (hv : q.v ∈ noneM) : X40 s_8 (W q e5 di e7 T4 tail) = .ok .next (W q e5 di e7 T5 tail) := told_step (n := 37) (i := 13) (t := 9) (c := 5) (x := .none) (r := .con (.str "row")) (s := W q e5 di e7 T4 tail) (callK (n := 36) (ds := [q.v, .int (-1)]) rfl ((n5 _ hv).2.2.2.2)) rfl rfl rfl (by decide)
theorem p10 (hv : q.v ∈ noneM) : X40 s_10 (W q e5 di e7 T6 tail) = .ok .next (W q e5 di e7 T7 tail) := told_step (n := 37) (i := 13) (t := 9) (c := 5) (x := .none) (r := .con (.str "row")) (s := W q e5 di e7 T6 tail) (callK (n := 36) (ds := [q.v, q.m]) rfl (n67 _ _ hv)) rfl rfl rfl (by decide)
theorem p11 (hm : q.m ∈ markM) : X40 s_11 (W q e5 di e7 T7 tail) = .ok .next (W q e5 di e7 T8 tail) := told_step (n := 37) (i := 13) (t := 9) (c := 2) (x := .none) (r := .con (.str "mark")) (s := W q e5 di e7 T7 tail) (callK (n := 36) (ds := [goodD, q.m]) rfl (m67 _ hm)) rfl rfl rfl (by decide)
theorem p12 : X40 s_12 (W q e5 di e7 T8 tail) = .ok .next (W q e5 di e7 T9 tail) := told_step (n := 37) (i := 13) (t := 9) (c := 2) (x := .none) (r := .con (.str "mark")) (s := W q e5 di e7 T8 tail) (callK (n := 36) (ds := [goodD, t3 1 1 0]) rfl (c67a)) rfl rfl rfl (by decide)
theorem p13 : X40 s_13 (W q e5 di e7 T9 tail) = .ok .next (W q e5 di e7 T10 tail) := told_step (n := 37) (i := 13) (t := 9) (c := 2) (x := .none) (r := .con (.str "mark")) (s := W q e5 di e7 T9 tail) (callK (n := 36) (ds := [goodD, t3 0 (-1) (-1)]) rfl (c67b)) rfl rfl rfl (by decide)
theorem p14 (ht : q.t ∈ turnM) : X40 s_14 (W q e5 di e7 T10 tail) = .ok .next (W q e5 di e7 T11 tail) := told_step (n := 37) (i := 13) (t := 9) (c := 3) (x := .none) (r := .con (.str "turn")) (s := W q e5 di e7 T10 tail) (callK (n := 36) (ds := [q.t, q.v]) rfl (t68 _ _ ht)) rfl rfl rfl (by decide)
theorem p15 (hv : q.v ∈ noneM) : X40 s_15 (W q e5 di e7 T11 tail) = .ok .next (W q e5 di e7 T12 tail) := told_step (n := 37) (i := 13) (t := 9) (c := 5) (x := .none) (r := .con (.str "row")) (s := W q e5 di e7 T11 tail) (callK (n := 36) (ds := [xD, q.v]) rfl (n68 _ hv)) rfl rfl rfl (by decide)
theorem p16 (hv : q.v ∈ noneM) : X40 s_16 (W q e5 di e7 T12 tail) = .ok .next (W q e5 di e7 T13 tail) := told_step (n := 37) (i := 13) (t := 9) (c := 5) (x := .none) (r := .con (.str "row")) (s := W q e5 di e7 T12 tail) (callK (n := 36) (ds := [q.v, q.v]) rfl ((n70 _ hv).1)) rfl rfl rfl (by decide)
theorem p17 (hv : q.v ∈ noneM) : X40 s_17 (W q e5 di e7 T13 tail) = .ok .next (W q e5 di e7 T14 tail) := told_step (n := 37) (i := 13) (t := 9) (c := 5) (x := .none) (r := .con (.str "row")) (s := W q e5 di e7 T13 tail) (callK (n := 36) (ds := [goodD, q.v]) rfl ((n70 _ hv).2)) rfl rfl rfl (by decide)
theorem p18 : X40 s_18 (W q e5 di e7 T14 tail) = .ok .next (W q e5 di e7 T15 tail) := told_step (n := 37) (i := 13) (t := 9) (c := 5) (x := .none) (r := .con (.str "row")) (s := W q e5 di e7 T14 tail) (callK (n := 36) (ds := [goodD, .tuple [yD, zD, xD]]) rfl (c70a)) rfl rfl rfl (by decide)
theorem p19 : X40 s_19 (W q e5 di e7 T15 tail) = .ok .next (W q e5 di e7 T16 tail) := told_step (n := 37) (i := 13) (t := 9) (c := 5) (x := .none) (r := .con (.str "row")) (s := W q e5 di e7 T15 tail) (callK (n := 36) (ds := [xyN 20, xyN 11]) rfl (c70b)) rfl rfl rfl (by decide)
theorem p22 : X40 s_22 (W q e5 di e7 T22 tail) = .ok .next (W q e5 di e7 T23 tail) := told_step (n := 37) (i := 13) (t := 9) (c := 5) (x := .none) (r := .con (.str "row")) (s := W q e5 di e7 T22 tail) (callK (n := 36) (ds := [halD, goodD]) rfl (c72)) rfl rfl rfl (by decide)
end
theorem p9 {q : Lv} {e5 : Option Val} {h : PyData} {a' c' : Int} (hh : h ∈ halvM) (hc : callF P 300 40 20 76 (some [.int q.a, .int q.b, .int q.c]) [.list halvM] = .ok (.d h) (some [.int a', .int q.b, .int c'])) :
    X40 s_9 (W q e5 10 none T5 ta4) = .ok .next (W { q with a := a', c := c' } e5 10 none T6 ta9) := by
  have e1 : (sem KK 36).ev (.callr 76 0 [.lst [.con (.none), .neg (.con (.int 1)), .con (.int 201), .con (.bool true), .con (.str "3")]]) (W q e5 10 none T5 ta4) = .ok (.d h) (W { q with a := a', c := c' } e5 10 none T5 ta9) :=
    draw (n := 35) (vs := [.ref 11]) (ds := [.list halvM]) (os := skO q.a q.b q.c :: o1 :: o2 :: o3 :: o4 :: o5 :: o6 :: o7 :: o8 :: .lst T5 true :: ta9) (s1 := W q e5 10 none T5 [.lst T4 true, lv o11]) rfl (by kernel_rfl) (by kernel_rfl) rfl hc
  have e2 : evs (sem KK 36).ev [.slot 11, .callr 76 0 [.lst [.con (.none), .neg (.con (.int 1)), .con (.int 201), .con (.bool true), .con (.str "3")]]] (W q e5 10 none T5 ta4) = .ok ([goodD, h].map .d) (W { q with a := a', c := c' } e5 10 none T5 ta9) := by
    show (Out.ok (Val.d goodD) (W q e5 10 none T5 ta4)).bind (fun v s1 => (((sem KK 36).ev (.callr 76 0 [.lst [.con (.none), .neg (.con (.int 1)), .con (.int 201), .con (.bool true), .con (.str "3")]]) s1).bind fun w s2 => (Out.ok [] s2 : Out (List Val)).bind fun vs s3 => .ok (w :: vs) s3).bind fun vs s2 => .ok (v :: vs) s2) = _
    rw [bind_ok, e1]
    rfl
  exact told_gen (n := 37) (i := 13) (t := 9) (s1 := W { q with a := a', c := c' } e5 10 none T5 ta9) (tryl_exc (n := 37) (r := .con (.str "halvings")) (call_exc (n := 36) (c := 1) (ds := [goodD, h]) e2 (by rw [List.append_nil]; exact h66 _ hh)) rfl) rfl rfl rfl rfl (by decide)
abbrev L20 : List Val := [.d (.str "row"), .d (.str "halvings"), .d (.str "row"), .d (.str "mark"), .d (.str "mark"), .d (.str "mark"), .d (.str "turn"), .d (.str "row"), .d (.str "row"), .d (.str "row"), .d (.str "row"), .d (.str "row")]
abbrev L21 : List Val := [.d (.str "lands"), .d (.str "row")]
abbrev L24 : List Val := [.d (.str "row"), .d (.tuple [.str "told", .bool false])]
abbrev ta20 : List MO := [.lst T4 true, o11, .lst L20 true, .lst T16 true]
abbrev ta21a : List MO := [.lst T4 true, o11, .lst L20 true, .lst T16 true, .lst L21 true, .lst T18 true]
abbrev ta21b : List MO := [.lst T4 true, o11, .lst L20 true, .lst T16 true, .lst L21 true, .lst T18 true, .lst L21 true, .lst T20 true]
abbrev ta21 : List MO := [.lst T4 true, o11, .lst L20 true, .lst T16 true, .lst L21 true, .lst T18 true, .lst L21 true, .lst T20 true, .lst L21 true, .lst T22 true]
abbrev ta23 : List MO := [.lst T4 true, o11, .lst L20 true, .lst T16 true, .lst L21 true, .lst T18 true, .lst L21 true, .lst T20 true, .lst L21 true, .lst T22 true, .dct [(.int 0, .d (.int 0)), (.int 1, .d (.int 0))] false]
abbrev ta24 : List MO := [.lst T4 true, o11, .lst L20 true, .lst T16 true, .lst L21 true, .lst T18 true, .lst L21 true, .lst T20 true, .lst L21 true, .lst T22 true, .dct [(.int 0, .d (.int 0)), (.int 1, .d (.int 0))] false, .lst L24 true, .lst T24 true]
theorem p20 (q : Lv) (e5 : Option Val) : X40 s_20 (W q e5 10 none T16 ta9) = .ok .next (W q e5 13 none T16 ta20) := by kernel_rfl
abbrev asgL : MSt := .asg (.n 6) (.bin .add (.slot 6) (.lst [.con (.str "lands"), .con (.str "row")]))
abbrev bodyL : List MSt := [.ex (.mth .append (.slot 13) [.tryl 0 hsT (.str "told") (.callv 5 [.slot 4, .slot 1])]), .ex (.mth .append (.slot 13) [.tryl 0 hsT (.str "told") (.callv 5 [.slot 12, .slot 1])]), asgL]
theorem turnL {q : Lv} {g di di' : Nat} {told : List Val} {tail tail' : List MO} (h1 : C g ([q.l, q.v] ++ P.dfl g) = .exc 4 .none none) (h2 : C g ([halD, q.v] ++ P.dfl g) = .exc 5 .none none) (hl : told.length < 900)
    (ha : (sem KK 39).ex asgL (W q (some (.fn g)) di none (told ++ [.d (.str "lands")] ++ [.d (.str "row")]) tail) = .ok .next (W q (some (.fn g)) di' none (told ++ [.d (.str "lands")] ++ [.d (.str "row")]) tail')) :
    exs (sem KK 39).ex bodyL (W q (some (.fn g)) di none told tail) = .ok .next (W q (some (.fn g)) di' none (told ++ [.d (.str "lands")] ++ [.d (.str "row")]) tail') := by
  have t1 := told_step (n := 36) (i := 13) (t := 9) (tag := .str "told") (x := .none) (r := .con (.str "lands")) (hs := hsT) (s := W q (some (.fn g)) di none told tail) (xs := told) (callv_exc (Kc := KK) (n := 35) (i := 5) (g := g) (es := [.slot 4, .slot 1]) (ds := [q.l, q.v]) rfl rfl h1) rfl rfl rfl (by omega)
  have t2 := told_step (n := 36) (i := 13) (t := 9) (tag := .str "told") (x := .none) (r := .con (.str "row")) (hs := hsT) (s := W q (some (.fn g)) di none (told ++ [.d (.str "lands")]) tail) (xs := told ++ [.d (.str "lands")]) (callv_exc (Kc := KK) (n := 35) (i := 5) (g := g) (es := [.slot 12, .slot 1]) (ds := [halD, q.v]) rfl rfl h2) rfl rfl rfl (by simp; omega)
  exact (exs_next t1).trans ((exs_next t2).trans (exs_one ha))
theorem p21 {q : Lv} {e5 : Option Val} (hv : q.v ∈ noneM) (hl : q.l ∈ landsM) : X40 s_21 (W q e5 13 none T16 ta20) = .ok .next (W q (some (.fn 80)) 19 none T22 ta21) := by
  obtain ⟨a1, a2, a3⟩ := l4 q.v _ hl
  obtain ⟨b1, b2, b3⟩ := nh _ hv
  show frL (asgI (.n 5)) (exs (sem KK 39).ex bodyL) [.one (.fn 71), .one (.fn 72), .one (.fn 80)] (W q e5 13 none T16 ta20) = _
  rw [frL_next (s1 := W q (some (.fn 71)) 13 none T16 ta20) rfl (turnL (di' := 15) (tail' := ta21a) a1 b1 (by decide) (by kernel_rfl))]
  rw [frL_next (s1 := W q (some (.fn 72)) 15 none T18 ta21a) rfl (turnL (di' := 17) (tail' := ta21b) a2 b2 (by decide) (by kernel_rfl))]
  rw [frL_next (s1 := W q (some (.fn 80)) 17 none T20 ta21b) rfl (turnL (di' := 19) (tail' := ta21) a3 b3 (by decide) (by kernel_rfl))]
  rfl
abbrev call23 : ME := .call 73 [.slot 12, .slot 11, .dic [.con (.int 0), .con (.int 1)] [.con (.int 0), .con (.int 0)]] []
theorem call_of2 {Kc : Cfg} {n g : Nat} {es : List ME} {vs : List Val} {ds dfl : List PyData} {x : PyData} {s s1 : MS} {os : List MO} (ha : evs (sem Kc n).ev es s = .ok vs s1) (hf : frzs s1.objs vs = some (ds, os)) (hc : Kc.call g none (ds ++ dfl) = .ok (.d x) none) : (sem Kc (n + 1)).ev (.call g es dfl) s = .ok (.d x) { s1 with objs := os } := by
  show (evs (sem Kc n).ev es s).bind _ = _
  rw [ha]
  show callV Kc g vs dfl s1 = _
  unfold callV
  rw [hf]
  dsimp only
  rw [hc]
  rfl
theorem p23g {Kc : Cfg} (q : Lv) (e5 : Option Val) (hc : Kc.call 73 none [halD, goodD, .dict [(.int 0, .int 0), (.int 1, .int 0)]] = .ok (.d (.bool false)) none) : (sem Kc 40).ex s_23 (W q e5 19 none T23 ta21) = .ok .next (W q e5 19 none T24 ta23) := by
  refine told_gen (n := 37) (i := 13) (t := 9) (s := W q e5 19 none T23 ta21) (s1 := W q e5 19 none T23 ta23) (e := .tryl 0 hsT (.str "told") call23) (tryl_ok (n := 37) (call_of2 (n := 36) (es := [.slot 12, .slot 11, .dic [.con (.int 0), .con (.int 1)] [.con (.int 0), .con (.int 0)]]) (s := W q e5 19 none T23 ta21) (vs := [.d halD, .d goodD, .ref 20]) (ds := [halD, goodD, .dict [(.int 0, .int 0), (.int 1, .int 0)]]) (s1 := W q e5 19 none T23 (ta21 ++ [.dct [(.int 0, .d (.int 0)), (.int 1, .d (.int 0))] true])) (os := (W q e5 19 none T23 ta23).objs) (by kernel_rfl) (by kernel_rfl) (by rw [List.append_nil]; exact hc))) rfl rfl rfl rfl (by decide)
theorem p24 (q : Lv) (e5 : Option Val) : X40 s_24 (W q e5 19 none T24 ta23) = .ok .next (W q e5 22 none T24 ta24) := by kernel_rfl
abbrev FL : PyData := .list [(.str "row"), (.str "row"), (.str "row"), (.str "row"), (.str "row"), (.str "halvings"), (.str "row"), (.str "mark"), (.str "mark"), (.str "mark"), (.str "turn"), (.str "row"), (.str "row"), (.str "row"), (.str "row"), (.str "row"), (.str "lands"), (.str "row"), (.str "lands"), (.str "row"), (.str "lands"), (.str "row"), (.str "row"), (.tuple [.str "told", .bool false])]
theorem fl_ok : chkF FL = true := by kernel_rfl
theorem snapT (q : Lv) (e5 : Option Val) : snap (W q e5 22 none T24 ta24).objs (.ref 9) = some FL := by kernel_rfl
theorem snapD (q : Lv) (e5 : Option Val) : snap (W q e5 22 none T24 ta24).objs (.ref 22) = some FL := by kernel_rfl
theorem p25g {Kc : Cfg} (q : Lv) (e5 : Option Val) : (sem Kc 40).ex s_25 (W q e5 22 none T24 ta24) = .ok .next (W q e5 22 none T24 ta24) := by
  have hk := fl_ok
  have hk2 := hk
  unfold chkF at hk2
  simp only [Bool.and_eq_true] at hk2
  exact iff_skip (n := 39) (tst_ne (n := 38) (repr_ev (n := 36) (i := 13) (t := 9) rfl (snapT q e5) hk) (repr_ev (n := 36) (i := 6) (t := 22) rfl (snapD q e5) hk) hk2.2.2)
end GK89

set_option Elab.async false
set_option linter.all false
set_option maxRecDepth 1000000
set_option maxHeartbeats 1000000
namespace GK89
open PySem MI L2
/-! ### the last loop -/
abbrev iffF : MSt := .iff (.orr (.cmp .nis (.call 63 [.slot 7] []) (.con (.bool false))) (.cmp .nis (.call 73 [.slot 12, .tup [.slot 8, .slot 9], .slot 7] []) (.con (.bool false)))) [.ret (.con (.bool false))] []
theorem nis_f {Kc : Cfg} {n : Nat} {e : ME} {s : MS} (h : (sem Kc (n + 1)).ev e s = .ok (.d (.bool false)) s) : (sem Kc (n + 2)).ev (.cmp .nis e (.con (.bool false))) s = .ok (.d (.bool false)) s := by
  show ((sem Kc (n + 1)).ev e s).bind (fun v s1 => ((Out.ok (.d (.bool false)) s1 : Out Val)).bind fun w s2 => ofO ((cmpV .nis v w s2).map fun t => Val.d (.bool t)) s2) = _
  rw [h]
  rfl
theorem is_t {Kc : Cfg} {n : Nat} {e : ME} {s : MS} (h : (sem Kc (n + 1)).ev e s = .ok (.d (.bool true)) s) : (sem Kc (n + 2)).ev (.cmp .is e (.con (.bool true))) s = .ok (.d (.bool true)) s := by
  show ((sem Kc (n + 1)).ev e s).bind (fun v s1 => ((Out.ok (.d (.bool true)) s1 : Out Val)).bind fun w s2 => ofO ((cmpV .is v w s2).map fun t => Val.d (.bool t)) s2) = _
  rw [h]
  rfl
theorem tst_of {Kc : Cfg} {n : Nat} {e : ME} {b : Bool} {s : MS} (h : (sem Kc n).ev e s = .ok (.d (.bool b)) s) : tst (sem Kc n).ev e s = .ok b s := by
  show ((sem Kc n).ev e s).bind _ = _
  rw [h]
  rfl
theorem orr_ff {Kc : Cfg} {n : Nat} {a b : ME} {s : MS} (h1 : (sem Kc n).ev a s = .ok (.d (.bool false)) s) (h2 : (sem Kc n).ev b s = .ok (.d (.bool false)) s) : (sem Kc (n + 1)).ev (.orr a b) s = .ok (.d (.bool false)) s := by
  show (tst (sem Kc n).ev a s).bind (fun c s1 => if c then .ok (Val.d (.bool true)) s1 else (tst (sem Kc n).ev b s1).bind fun c' s2 => .ok (Val.d (.bool c')) s2) = _
  rw [tst_of h1, bind_ok, if_neg (by decide), tst_of h2]
  rfl
theorem an_tt {Kc : Cfg} {n : Nat} {a b : ME} {s : MS} (h1 : (sem Kc n).ev a s = .ok (.d (.bool true)) s) (h2 : (sem Kc n).ev b s = .ok (.d (.bool true)) s) : (sem Kc (n + 1)).ev (.an a b) s = .ok (.d (.bool true)) s := by
  show (tst (sem Kc n).ev a s).bind (fun c s1 => if c then (tst (sem Kc n).ev b s1).bind fun c' s2 => .ok (Val.d (.bool c')) s2 else .ok (Val.d (.bool false)) s1) = _
  rw [tst_of h1, bind_ok, if_pos rfl, tst_of h2]
  rfl
theorem turnF {Kc : Cfg} {q : Lv} {e5 : Option Val} {w : PyData} {tail : List MO} (h1 : Kc.call 63 none [w] = .ok (.d (.bool false)) none) (h2 : Kc.call 73 none [halD, .tuple [xD, yD], w] = .ok (.d (.bool false)) none) :
    exs (sem Kc 39).ex [iffF] (W q e5 22 (some (.d w)) T24 tail) = .ok .next (W q e5 22 (some (.d w)) T24 tail) := by
  have e1 : (sem Kc 36).ev (.call 63 [.slot 7] []) (W q e5 22 (some (.d w)) T24 tail) = .ok (.d (.bool false)) (W q e5 22 (some (.d w)) T24 tail) := call_ok (n := 35) (ds := [w]) rfl (by rw [List.append_nil]; exact h1)
  have e2 : (sem Kc 36).ev (.call 73 [.slot 12, .tup [.slot 8, .slot 9], .slot 7] []) (W q e5 22 (some (.d w)) T24 tail) = .ok (.d (.bool false)) (W q e5 22 (some (.d w)) T24 tail) := call_ok (n := 35) (ds := [halD, .tuple [xD, yD], w]) rfl (by rw [List.append_nil]; exact h2)
  exact exs_one (iff_skip (n := 38) (tst_of (orr_ff (n := 37) (nis_f (n := 35) e1) (nis_f (n := 35) e2))))
theorem loopF {Kc : Cfg} {q : Lv} {e5 : Option Val} {tail : List MO} : ∀ (ws : List PyData) (e7 : Option Val), (∀ w ∈ ws, Kc.call 63 none [w] = .ok (.d (.bool false)) none ∧ Kc.call 73 none [halD, .tuple [xD, yD], w] = .ok (.d (.bool false)) none) →
    ∃ e7', frL (asgI (.n 7)) (exs (sem Kc 39).ex [iffF]) (ws.map fun w => .one (.d w)) (W q e5 22 e7 T24 tail) = .ok .next (W q e5 22 e7' T24 tail)
  | [], e7, _ => ⟨e7, rfl⟩
  | w :: ws, e7, h => by
    obtain ⟨e7', z⟩ := loopF (q := q) (e5 := e5) (tail := tail) ws (some (.d w)) fun v hv => h v (List.mem_cons_of_mem _ hv)
    refine ⟨e7', ?_⟩
    obtain ⟨h1, h2⟩ := h w List.mem_cons_self
    show frL _ _ (.one (.d w) :: ws.map fun w => .one (.d w)) _ = _
    rw [frL_next (s1 := W q e5 22 (some (.d w)) T24 tail) rfl (turnF h1 h2)]
    exact z
abbrev more : List MO := [.dct [] false, .lst [] false, .lst [.ref 24] false, .dct [(.str "a", .d (.int 1))] false, .dct [] false, .dct [] false]
abbrev tupF : ME := .tup [.slot 1, .slot 2, .slot 3, .dic [] [], .lst [.lst []], .dic [.con (.str "a")] [.con (.int 1)], .tup [.dic [] [], .dic [] []], .tup [.tup [.slot 8, .slot 9], .tup [.slot 9, .slot 8]]]
theorem walkE (Kc : Cfg) (q : Lv) (e5 : Option Val) : walkF (sem Kc 39).ev .seq [tupF] (W q e5 22 none T24 ta24) = .ok ((q.v :: q.m :: q.t :: lastM).map fun w => .one (.d w)) (W q e5 22 none T24 (ta24 ++ more)) := by kernel_rfl
theorem p26g {Kc : Cfg} {q : Lv} {e5 : Option Val} (h : ∀ w ∈ q.v :: q.m :: q.t :: lastM, Kc.call 63 none [w] = .ok (.d (.bool false)) none ∧ Kc.call 73 none [halD, .tuple [xD, yD], w] = .ok (.d (.bool false)) none) : ∃ e7', (sem Kc 40).ex s_26 (W q e5 22 none T24 ta24) = .ok .next (W q e5 22 e7' T24 (ta24 ++ more)) := by
  obtain ⟨a, z⟩ := loopF (Kc := Kc) (q := q) (e5 := e5) (tail := ta24 ++ more) (q.v :: q.m :: q.t :: lastM) none h
  refine ⟨a, (ex_fr (n := 39)).trans ?_⟩
  rw [walkE, bind_ok]
  exact z
theorem c_eq (g : Nat) (a : List PyData) : KK.call g none a = C g a := rfl
theorem p26 {q : Lv} {e5 : Option Val} (hv : q.v ∈ noneM) (hm : q.m ∈ markM) (ht : q.t ∈ turnM) : ∃ e7', X40 s_26 (W q e5 22 none T24 ta24) = .ok .next (W q e5 22 e7' T24 (ta24 ++ more)) := by
  refine p26g (Kc := KK) fun w m => ?_
  rw [c_eq, c_eq]
  rcases List.mem_cons.mp m with rfl | m
  · exact f_noneM _ hv
  rcases List.mem_cons.mp m with rfl | m
  · exact f_markM _ hm
  rcases List.mem_cons.mp m with rfl | m
  · exact f_turnM _ ht
  · exact f_lastM _ m
theorem p27g {Kc : Cfg} {q : Lv} {e5 e7 : Option Val} {tail : List MO} (h1 : Kc.call 63 none [goodD] = .ok (.d (.bool true)) none) (h2 : Kc.call 63 none [xyN 30] = .ok (.d (.bool true)) none) : (sem Kc 40).ex s_27 (W q e5 22 e7 T24 tail) = .ok (.ret (.d (.bool true))) (W q e5 22 e7 T24 tail) := by
  have e1 : (sem Kc 37).ev (.call 63 [.slot 11] []) (W q e5 22 e7 T24 tail) = .ok (.d (.bool true)) (W q e5 22 e7 T24 tail) := call_ok (n := 36) (ds := [goodD]) rfl (by rw [List.append_nil]; exact h1)
  have e2 : (sem Kc 37).ev (.call 63 [.bin .mul (.tup [.slot 8, .slot 9]) (.con (.int 30))] []) (W q e5 22 e7 T24 tail) = .ok (.d (.bool true)) (W q e5 22 e7 T24 tail) := call_ok (n := 36) (ds := [xyN 30]) rfl (by rw [List.append_nil]; exact h2)
  exact ex_ret (n := 39) (an_tt (n := 38) (is_t (n := 36) e1) (is_t (n := 36) e2))
theorem hdip : P.fns[75]? = some ⟨2, 5, true, bDip⟩ := rfl
theorem hone : P.fns[76]? = some ⟨2, 2, true, bOne 75⟩ := rfl
theorem hsack : P.fns[74]? = some ⟨2, 5, false, bSack⟩ := rfl
/-- _law_right says True -/
theorem right (a b c : Int) (hz : 0 ≤ c) (hz2 : c < 1000) : ∃ a' c' : Int, callF P 300 40 21 78 (some [.int a, .int b, .int c]) [] = .ok (.d (.bool true)) (some [.int a', .int b, .int c']) ∧ 0 ≤ c' ∧ c' ≤ c + 5 := by
  obtain ⟨v, x1, z1, d1, hv, g1, k1⟩ := one (lim := 300) hdip hone (l := 18) (a := a) (b := b) (c := c) (xs := noneM) (by decide) (by decide) hz (by unfold BIG; omega)
  obtain ⟨m, x2, z2, d2, hm, g2, k2⟩ := one (lim := 300) hdip hone (l := 18) (a := x1) (b := b) (c := z1) (xs := markM) (by decide) (by decide) g1 (by unfold BIG; omega)
  obtain ⟨t, x3, z3, d3, ht, g3, k3⟩ := one (lim := 300) hdip hone (l := 18) (a := x2) (b := b) (c := z2) (xs := turnM) (by decide) (by decide) g2 (by unfold BIG; omega)
  obtain ⟨l, x4, z4, d4, hl, g4, k4⟩ := one (lim := 300) hdip hone (l := 18) (a := x3) (b := b) (c := z3) (xs := landsM) (by decide) (by decide) g3 (by unfold BIG; omega)
  obtain ⟨h, x5, z5, d5, hh, g5, k5⟩ := one (lim := 300) hdip hone (l := 18) (a := x4) (b := b) (c := z4) (xs := halvM) (by decide) (by decide) g4 (by unfold BIG; omega)
  refine ⟨x5, z5, ?_, g5, by omega⟩
  obtain ⟨q, hq⟩ : ∃ q : Lv, q = ⟨v, m, t, l, x4, b, z4⟩ := ⟨_, rfl⟩
  have qv : q.v ∈ noneM := by rw [hq]; exact hv
  have qm : q.m ∈ markM := by rw [hq]; exact hm
  have qt : q.t ∈ turnM := by rw [hq]; exact ht
  have ql : q.l ∈ landsM := by rw [hq]; exact hl
  obtain ⟨r, hr⟩ : ∃ r : Lv, r = { q with a := x5, c := z5 } := ⟨_, rfl⟩
  have rv : r.v ∈ noneM := by rw [hr]; exact qv
  have rm : r.m ∈ markM := by rw [hr]; exact qm
  have rt : r.t ∈ turnM := by rw [hr]; exact qt
  have rl : r.l ∈ landsM := by rw [hr]; exact ql
  have e4 : X40 s_4 (sD v m t x3 b z3) = .ok .next (sE q.v q.m q.t q.l q.a q.b q.c) := by rw [hq]; exact p4 d4
  have d5' : callF P 300 40 20 76 (some [.int q.a, .int q.b, .int q.c]) [.list halvM] = .ok (.d h) (some [.int x5, .int q.b, .int z5]) := by rw [hq]; exact d5
  have t9 := p9 (q := q) (e5 := some (.fn 66)) hh d5'
  rw [← hr] at t9
  have t10 := p10 (q := r) (e5 := some (.fn 66)) (e7 := none) (di := 10) (tail := ta9) rv
  have t11 := p11 (q := r) (e5 := some (.fn 66)) (e7 := none) (di := 10) (tail := ta9) rm
  have t12 := p12 (q := r) (e5 := some (.fn 66)) (e7 := none) (di := 10) (tail := ta9)
  have t13 := p13 (q := r) (e5 := some (.fn 66)) (e7 := none) (di := 10) (tail := ta9)
  have t14 := p14 (q := r) (e5 := some (.fn 66)) (e7 := none) (di := 10) (tail := ta9) rt
  have t15 := p15 (q := r) (e5 := some (.fn 66)) (e7 := none) (di := 10) (tail := ta9) rv
  have t16 := p16 (q := r) (e5 := some (.fn 66)) (e7 := none) (di := 10) (tail := ta9) rv
  have t17 := p17 (q := r) (e5 := some (.fn 66)) (e7 := none) (di := 10) (tail := ta9) rv
  have t18 := p18 (q := r) (e5 := some (.fn 66)) (e7 := none) (di := 10) (tail := ta9)
  have t19 := p19 (q := r) (e5 := some (.fn 66)) (e7 := none) (di := 10) (tail := ta9)
  have t22 := p22 (q := r) (e5 := some (.fn 80)) (e7 := none) (di := 19) (tail := ta21)
  have t23 := p23g (Kc := KK) r (some (.fn 80)) ((c_eq _ _).trans c73)
  have t25 := p25g (Kc := KK) r (some (.fn 80))
  obtain ⟨f7, t26⟩ := p26 (q := r) (e5 := some (.fn 80)) rv rm rt
  have t27 := p27g (Kc := KK) (q := r) (e5 := some (.fn 80)) (e7 := f7) (tail := ta24 ++ more) ((c_eq _ _).trans y63.1) ((c_eq _ _).trans y63.2)
  have all : exs X40 b78 (s00 a b c) = .ok (.ret (.d (.bool true))) (W r (some (.fn 80)) 22 f7 T24 (ta24 ++ more)) := by
    rw [b78_eq]
    rw [exs_next (p0 a b c), exs_next (p1 d1), exs_next (p2 d2), exs_next (p3 d3), exs_next e4, exs_next (p5 q), exs_next (p6 q), exs_next (p7 qv)]
    refine (exs_next (p8 (q := q) (e5 := some (.fn 66)) (e7 := none) (di := 10) (tail := ta4) qv)).trans ((exs_next t9).trans ((exs_next t10).trans ((exs_next t11).trans ((exs_next t12).trans ((exs_next t13).trans ((exs_next t14).trans ((exs_next t15).trans ?_)))))))
    refine (exs_next t16).trans ((exs_next t17).trans ((exs_next t18).trans ((exs_next t19).trans ((exs_next (p20 r (some (.fn 66)))).trans ((exs_next (p21 (e5 := some (.fn 66)) rv rl)).trans ((exs_next t22).trans ((exs_next t23).trans ?_)))))))
    exact (exs_next (p24 r (some (.fn 80)))).trans ((exs_next t25).trans ((exs_next t26).trans (exs_ret t27)))
  rw [call_of (fn := fn78) rfl]
  have st : MI.start fn78 (some [.int a, .int b, .int c]) [] = s00 a b c := rfl
  unfold runFn
  rw [st]
  show (match exs X40 b78 (s00 a b c) with
    | .ok (.ret v) s => finish true v s
    | .ok .next s => finish true (.d .none) s
    | .ok _ _ => .bad
    | .exc c x s => match outOf true s with
      | some out => .exc c x out
      | none => .bad
    | .bad => .bad) = _
  rw [all, hr, hq]
  rfl
theorem law_val (ns : List Int) : callF P 300 40 22 79 none [.list (ns.map .int)] = .ok (.d (.bool true)) none := law_val4 (lim := 300) (l := 20) (gr := 78) hsack right rfl ns
end GK89

set_option Elab.async false
set_option linter.all false
set_option maxRecDepth 1000000
set_option maxHeartbeats 0
namespace GK89
open PySem MI L2
abbrev R : PySem.W.OpenRow := PySem.W.OpenLaw.row PySem.Challenge.rw_leafwide_k89_errors_of_walks
noncomputable abbrev hk : PySem.W.Hook := hookM tab.fn tab.tf tab.ex
noncomputable def ob (s : PySem.W.SharedT) : AlM := obsM tab.fn tab.tf tab.ex (HandSHeadRun.getT s)
theorem ob_eq (s : PySem.W.SharedT) : ob s = hk.obs s.abs := obsM_eq (HandSHeadRun.getT_eq s)
theorem run (w : World) : HandSHeadRun.RunEq R (PySem.W.view R.prog [lawAt]) hk ob 10000 loose w := by
  intro os
  kernel_rfl
end GK89

set_option Elab.async false
set_option linter.all false
set_option maxRecDepth 1000000
set_option maxHeartbeats 1000000
namespace GK89
open PySem MI L2
theorem nm78 : tab.name 78 = ("_law_right" : Str) := by kernel_rfl
theorem nm77 : tab.name 77 = ("_law_refused" : Str) := by kernel_rfl
theorem lamd_eq : tab.lamd = [("_law_right" : Str)] := by kernel_rfl
theorem trs_eq : tab.trs = [("_law_refused" : Str)] := by kernel_rfl
theorem tryOk : TryOk tab 78 77 "call" "told" hsT := ⟨by kernel_rfl, by rw [nm78, lamd_eq]; exact List.mem_cons_self, by rw [nm77, trs_eq]; exact List.mem_cons_self, ⟨_, rfl, rfl, rfl⟩, by kernel_rfl, by kernel_rfl, by kernel_rfl, by kernel_rfl, by kernel_rfl⟩
theorem tryAll (g : Nat) : (tab.sc g).trys = [] ∨ ∃ gt a t hs, TryOk tab g gt a t hs := by
  by_cases h : lamd.contains g = true
  · have e : g = 78 := by simpa [lamd] using h
    subst e
    exact .inr ⟨_, _, _, _, tryOk⟩
  · refine .inl ?_
    show (if lamd.contains g then trs else []) = []
    rw [if_neg h]
theorem len_nm : tab.nm.length = 80 := by kernel_rfl
/-! ### the lambda that is a value -/
theorem lsc80 : lsc 80 = ⟨["one", "two"], lam_0.scope, fns, cons, exn, free, true, false, [], gdl, []⟩ := rfl
theorem lam_ok : LamOk tab 80 lam_0 := by
  refine ⟨⟨lb_0, ["one", "two"], 60, rfl, ?_, by kernel_rfl, by decide, rfl, by kernel_rfl⟩, ⟨rfl, rfl, rfl, rfl, rfl, rfl, rfl⟩⟩
  exact scB_ok (by kernel_rfl)
theorem la_of (g : Nat) (D : LamD) (h : tab.laOf g = some D) : g = 80 ∧ D = lam_0 := by
  have h' : ((lams.find? fun d => d.2 == g).map (·.1)) = some D := h
  unfold lams at h'
  rw [List.find?_cons] at h'
  split at h'
  · rename_i e
    have e' : (80 : Nat) = g := by simpa using e
    exact ⟨e'.symm, (Option.some.inj h').symm⟩
  · cases h'
theorem lams_of (g : Nat) : LamsOf tab g := by
  by_cases h : g = 78
  · subst h
    refine .inr ⟨⟨by rw [nm78, lamd_eq]; exact List.mem_cons_self, by kernel_rfl⟩, fun D n m => ?_⟩
    have e : (tab.sc 78).lams = [(lam_0, 80)] := by kernel_rfl
    rw [e, List.mem_singleton] at m
    cases m
    refine ⟨by kernel_rfl, by rw [nm78]; rfl, ?_⟩
    have z : (lam_0.scope.names.all fun y => !decide (y.2 = .free)) = true := by kernel_rfl
    intro y hy
    have := List.all_eq_true.mp z y hy
    simpa using this
  · refine .inl ?_
    show (lamsG.lookup g).getD [] = []
    unfold lamsG
    rw [List.lookup_cons]
    have : (g == 78) = false := by simpa using h
    rw [this]
    rfl
end GK89
open PySem PySem.W PySem.Calls PyProof.Rows
theorem PySem.Challenge.cw_leafwide_k89_errors_of_walks_holds : PySem.Challenge.rw_leafwide_k89_errors_of_walks.Holds := by
  w_on; o_law
  refine HandSHeadRun.head_any (r := OpenLaw.row PySem.Challenge.rw_leafwide_k89_errors_of_walks) (q := view (OpenLaw.row PySem.Challenge.rw_leafwide_k89_errors_of_walks).prog [GK89.lawAt]) (H := GK89.hk) (ob := GK89.ob) (M := 10000) (loose := GK89.loose) (d := HandSHeadRun.topDef (OpenLaw.row PySem.Challenge.rw_leafwide_k89_errors_of_walks).prog GK89.lawAt) (kwd := []) GK89.ob_eq
    (by kernel_rfl) (fun s => by kernel_rfl) GK89.run (by kernel_rfl) (by kernel_rfl) (by kernel_rfl) (by rfl) (by first | assumption | decide +kernel) (by decide +kernel) ⟨rfl, rfl, rfl, rfl, rfl, by decide +kernel⟩ ?hw ?hc
  case hw => w_witness2
  case hc =>
    exact MI.law_of (l := PySem.Challenge.rw_leafwide_k89_errors_of_walks) (m := 0) (T := GK89.tab) (n1 := 60) (n2 := 60) (lim := 300) (fuel := 40) (L := 22) (lg := 79) (x := "script") rfl (by decide) (by kernel_rfl) ⟨rfl, by decide, by decide⟩ GK89.tab_ok rfl rfl (fun g h => GK89.ok_all g (by rw [← GK89.len_nm]; exact h)) GK89.tab_sc GK89.keepOk GK89.tryAll
      (F := 39) rfl GK89.lams_of (fun g D e => by obtain ⟨rfl, rfl⟩ := GK89.la_of g D e; exact GK89.lam_ok) (sg := ⟨["script"], false, true, []⟩) (by kernel_rfl) rfl rfl GK89.dfl_ok (fun g D e => by obtain ⟨rfl, _⟩ := GK89.la_of g D e; rfl) rfl rfl (by kernel_rfl) (by rw [GK89.len_nm]; decide) fun ns _ => GK89.law_val ns

