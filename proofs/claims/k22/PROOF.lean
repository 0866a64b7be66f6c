import PyProof.Rows.All
import Wide.All
import OpenK.AllK
import Wide.FinOn
import HandS.ForMost
import HandS.Exc
import HandS.TryMany
import HandS.CallSlots
import HandS.ExcOwn
import HandS.IsInst
import HandS.Flow
import HandS.Deep
import HandS.TupAny
import HandS.TupMul
import HandS.Wide
import HandS.Conv
import HandS.Zip
import HandS.SortOrd
import HandS.SortInts
import HandS.SortRule
import HandS.Walk
import HandS.Defaults
import KE.SortCalls
import KE.DataMinMax
import KE.SortKeyed
import HandS.WideBits
import HandS.ExcValue
import KE.KTupSum
import HandS.WordsDict
import HandS.SetFor
import HandS.Strs
import HandS.Style
import KE.GoesEnum
import HandS.TryOnly
import HandS.Iter
import HandS.RaiseMore
import KE.KStateDown
import HandS.Words
import HandS.WordsExc
import HandS.Head0
import HandS.Head1
import HandS.Head2
import HandS.HeadEnd
import HandS.HeadHook1
import HandS.HeadHook2
import HandS.EndBits
import PySem.Challenge.RW_roworbits_k22_whole_rows_pulled_together
set_option Elab.async false
set_option linter.all false
set_option maxRecDepth 100000
set_option maxHeartbeats 4100000
/-! A small evaluator over plain values, and what its values are in the hand layer's heaps. -/
namespace MP
open PySem L2 PySem.Spec PyProof.Rows

/-- a value: tuples (wtup: what enumerate and zip give) and finished lists as trees; ref: a list or dict that may change, by its number; fn: a def by its number; xo: an own class of errors by its number; ty: a built-in class -/
inductive D where
  | non | bl (b : Bool) | int (i : Int) | str (x : Str) | tup (ds : List D) | wtup (ds : List D) | lst (ds : List D) | scr (ns : List Int) | ref (n : Nat) | fn (x : Nat) | ty (n : String)
instance : Inhabited D := ⟨.non⟩
/-- a thing that may change; fdic: a dict that changes no more; acc: a list that a comprehension makes, from behind -/
inductive O where
  | lst (ds : List D) | dic (kvs : List (Key × D)) | fdic (kvs : List (Key × D)) | acc (ds : List D)
abbrev Mem := List O
abbrev Env := List (Option D)
/-- how an evaluation ends -/
inductive Res (α : Type) where
  | ok (a : α) (m : Mem) | exc (c : Nat) (fs : List D) (m : Mem) | bad
def Res.bnd {α β : Type} (r : Res α) (k : α → Mem → Res β) : Res β := match r with
  | .ok a m => k a m
  | .exc c fs m => .exc c fs m
  | .bad => .bad

/-! ### operators -/
inductive BO where | add | sub | mul | fdiv | mod | pow
  deriving DecidableEq
inductive CO where | eq | ne | lt | le | gt | ge | isN | notN | inn | notIn
  deriving DecidableEq
/-- built-ins by values -/
inductive B where
  | len | abs | max2 | min2 | sum | any | all | max | min | sorted | tuple | list | int | str | lenset | dict
  deriving DecidableEq
/-- methods -/
inductive M where
  | append | extend | pop | index | count | dget | dget2 | update
  deriving DecidableEq
/-- kinds asked by isinstance -/
inductive Ty where | int | bool | str | tuple | list
  deriving DecidableEq

mutual
inductive Ex where
  | var (i : Nat)
  | lit (d : D)
  | bin (o : BO) (a b : Ex)
  | neg (a : Ex)
  | cmp (o : CO) (a b : Ex)
  | cmp2 (o o' : CO) (a b c : Ex)
  | andE (a b : Ex) | orE (a b : Ex) | notE (a : Ex)
  | ite (c a b : Ex)
  | tup (es : Exs) | lst (es : Exs) | newL (es : Exs)
  | emptyDict
  | dict1 (k v : Ex)
  | ix (a i : Ex)
  | sl (a : Ex) (lo hi : Exs)
  | rev (a : Ex)
  | callB (b : B) (es : Exs)
  | rngL (a b : Ex) | rngT (a b : Ex)
  | isi (a : Ex) (ts : List Ty)
  | callF (x : Nat) (es : Exs)
  | meth (m : M) (o : Ex) (es : Exs)
  | comp (tg : Tg) (src : Sr) (ifs : Exs) (elt : Ex) (own : List Nat)
  | comp2 (tg : Tg) (src : Sr) (ifs : Exs) (tg2 : Tg) (src2 : Sr) (ifs2 : Exs) (elt : Ex) (own own2 : List Nat)
  | thaw (a : Ex)
  | bad
inductive Exs where
  | nil | cons (e : Ex) (es : Exs)
/-- what a loop walks -/
inductive Sr where
  | of (e : Ex) | rng1 (e : Ex) | rng2 (a b : Ex) | rng3 (a b c : Ex) | enum (e : Ex) | zip (a b : Ex)
/-- where a value goes -/
inductive Tg where
  | name (i : Nat) | pair (ts : Tgs)
inductive Tgs where
  | nil | cons (t : Tg) (ts : Tgs)
end
/-! ### values by values -/
section
variable (m : Mem)
/-- the items of a tuple (true) or a list (false) -/
def seqV : D → Option (Bool × List D)
  | .tup ds => some (true, ds)
  | .lst ds => some (false, ds)
  | .scr ns => some (false, ns.map D.int)
  | .ref n => match m[n]? with
    | some (.lst ds) => some (false, ds)
    | _ => none
  | _ => none
end
mutual
/-- plain data: no ref, no def -/
def pd0 : D → Option PyData
  | .non => some .none
  | .bl b => some (.bool b)
  | .int i => some (.int i)
  | .str x => some (.str x)
  | .tup ds => (pd0s ds).map .tuple
  | .wtup _ => none
  | .lst ds => (pd0s ds).map .list
  | .scr ns => some (.list (ns.map .int))
  | .ref _ => none
  | .fn _ => none
  | .ty _ => none
def pd0s : List D → Option (List PyData)
  | [] => some []
  | d :: ds => match pd0 d with
    | some x => (pd0s ds).map (x :: ·)
    | _ => none
end
def pdV (m : Mem) : D → Option PyData
  | .ref n => match m[n]? with
    | some (.lst ds) => (pd0s ds).map .list
    | _ => none
  | d => pd0 d
def eqV2 (m : Mem) (a b : D) : Option Bool := match pdV m a, pdV m b with
  | some x, some y => if SeqAt.shaped x && SeqAt.shaped y then some (PyData.eqv x y) else none
  | _, _ => none
def truV (m : Mem) : D → Option Bool
  | .non => some false
  | .bl b => some b
  | .int i => some (i != 0)
  | .str x => if x.length ≤ sizeLine then some ((x.length : Int) != 0) else none
  | .tup ds => some (!ds.isEmpty)
  | .lst ds => some (!ds.isEmpty)
  | .scr ns => some (!ns.isEmpty)
  | .ref n => match m[n]? with
    | some (.lst ds) => some (!ds.isEmpty)
    | some (.dic kvs) => some (!kvs.isEmpty)
    | _ => none
  | _ => none
/-- the name of a value's class -/
def tyName (m : Mem) : D → Option String
  | .non => some "NoneType"
  | .bl _ => some "bool"
  | .int _ => some "int"
  | .str _ => some "str"
  | .tup _ => some "tuple"
  | .lst _ => some "list"
  | .scr _ => some "list"
  | .ref n => match m[n]? with
    | some (O.lst _) => some "list"
    | some (O.dic _) => some "dict"
    | _ => none
  | _ => none
def Ty.nm : Ty → String
  | .int => "int" | .bool => "bool" | .str => "str" | .tuple => "tuple" | .list => "list"
/-- the class of what has methods -/
def mCls (m : Mem) : D → Option String
  | .str _ => some "str"
  | .tup _ => some "tuple"
  | .lst _ => some "list"
  | .scr _ => some "list"
  | .ref n => (match m[n]? with
    | some (O.lst _) => some "list"
    | some (O.dic _) => some "dict"
    | _ => none)
  | _ => none
/-- the answer of isinstance for one class -/
def isOne (m : Mem) : D → Ty → Option Bool
  | .non, _ => some false
  | .bl _, .int => some true
  | .bl _, .bool => some true
  | .bl _, _ => some false
  | .int _, .int => some true
  | .int _, _ => some false
  | .str _, .str => some true
  | .str _, _ => some false
  | .tup _, .tuple => some true
  | .tup _, _ => some false
  | .lst _, .list => some true
  | .lst _, _ => some false
  | .scr _, .list => some true
  | .scr _, _ => some false
  | .ref n, t => match m[n]? with
    | some (.lst _) => some (decide (t = .list))
    | some (.dic _) => some false
    | _ => none
  | _, _ => none
def isAny (m : Mem) (d : D) : List Ty → Option Bool
  | [] => some false
  | t :: ts => match isOne m d t with
    | some true => some true
    | some false => isAny m d ts
    | _ => none

def keyD : Key → D
  | .inl i => .int i
  | .inr x => .str x
def key? : D → Option Key
  | .int i => some (.inl i)
  | .str x => some (.inr x)
  | _ => none
def ints? : List D → Option (List Int)
  | [] => some []
  | .int i :: ds => (ints? ds).map (i :: ·)
  | _ :: _ => none
def bls? : List D → Option (List Bool)
  | [] => some []
  | .bl b :: ds => (bls? ds).map (b :: ·)
  | _ :: _ => none
/-- * of factors of not too many bits -/
def mulOk (i j : Int) : Bool := decide (i.natAbs.log2 + j.natAbs.log2 < 100000000)
def binV (o : BO) (m : Mem) (a b : D) : Option D := match o, a, b with
  | .add, .int i, .int j => some (.int (i + j))
  | .add, .str x, .str y => if x.length + y.length ≤ sizeLine then some (.str (x ++ y)) else none
  | .add, .tup xs, .tup ys => if xs.length + ys.length ≤ sizeLine then some (.tup (xs ++ ys)) else none
  | .add, .lst xs, .lst ys => if xs.length + ys.length ≤ sizeLine then some (.lst (xs ++ ys)) else none
  | .add, .ref n, .lst ys => match m[n]? with
    | some (.lst xs) => if xs.length + ys.length ≤ sizeLine then some (.lst (xs ++ ys)) else none
    | _ => none
  | .sub, .int i, .int j => some (.int (i - j))
  | .mul, .int i, .int j => if mulOk i j then some (.int (i * j)) else none
  | .mul, .tup xs, .int k => if (decide (xs ≠ []) && decide (2 ≤ k) && decide (k ≤ 1000) && decide (xs.length ≤ 1000)) = true then some (.tup (List.replicate k.toNat xs).flatten) else none
  | .mul, .lst xs, .int k => if (decide (-(2 ^ 63) ≤ k) && decide (k < 2 ^ 63) && decide (xs.length * k.toNat ≤ sizeLine)) = true then some (.lst (List.replicate k.toNat xs).flatten) else none
  | .fdiv, .int i, .int j => if (decide (0 < j) && decide (j.natAbs.log2 < 9000)) = true then some (.int (i / j)) else none
  | .mod, .int i, .int j => if 0 < j then some (.int (i % j)) else none
  | .pow, .int i, .int j => if (decide (0 ≤ j) && decide (j ≤ 1000000) && decide (i.natAbs < 2 ^ 64)) = true then some (.int (i ^ j.toNat)) else none
  | _, _, _ => none
/-- in its place, or at the end -/
def putD (kvs : List (Key × D)) (k : Key) (v : D) : List (Key × D) :=
  if (kvs.any fun kv => decide (kv.1 = k)) = true then kvs.map (fun kv => if kv.1 = k then (kv.1, v) else kv) else kvs ++ [(k, v)]
def dropD (kvs : List (Key × D)) (k : Key) : List (Key × D) := kvs.filter fun kv => decide (kv.1 ≠ k)
def getD? (kvs : List (Key × D)) (k : Key) : Option D := (kvs.find? fun kv => decide (kv.1 = k)).map (·.2)
def inV2 (m : Mem) (a b : D) : Option Bool := match b with
  | .ref n => (match m[n]? with
    | some (.dic kvs) => (match key? a with
      | some k => some (getD? kvs k).isSome
      | _ => none)
    | some (.fdic kvs) => (match key? a with
      | some k => some (getD? kvs k).isSome
      | _ => none)
    | some (.lst ds) => (match pd0 a, pd0s ds with
      | some x, some ys => if SeqAt.shaped x && SeqAt.shaped (.list ys) then some (ys.any fun z => PyData.eqv z x) else none
      | _, _ => none)
    | _ => none)
  | .lst ds => (match pd0 a, pd0s ds with
    | some x, some ys => if SeqAt.shaped x && SeqAt.shaped (.list ys) then some (ys.any fun z => PyData.eqv z x) else none
    | _, _ => none)
  | .tup ds => (match a, ints? ds with
    | .int i, some ns => some (ns.any fun z => z == i)
    | _, _ => none)
  | _ => none
def isNonD : D → Bool
  | .non => true
  | _ => false
def cmpV (o : CO) (m : Mem) (a b : D) : Option Bool := match o with
  | .eq => eqV2 m a b
  | .ne => (eqV2 m a b).map (!·)
  | .lt => (match a, b with | .int i, .int j => some (decide (i < j)) | _, _ => none)
  | .le => (match a, b with | .int i, .int j => some (decide (i ≤ j)) | _, _ => none)
  | .gt => (match a, b with | .int i, .int j => some (decide (j < i)) | _, _ => none)
  | .ge => (match a, b with | .int i, .int j => some (decide (j ≤ i)) | _, _ => none)
  | .isN => (match b with | .non => some (isNonD a) | _ => none)
  | .notN => (match b with | .non => some (!isNonD a) | _ => none)
  | .inn => inV2 m a b
  | .notIn => (inV2 m a b).map (!·)
def ixV (m : Mem) (a b : D) : Option D := match a, b with
  | .tup ds, .int i => atI ds i
  | .lst ds, .int i => atI ds i
  | .scr ns, .int i => (atI ns i).map D.int
  | .str x, .int i => if x.length ≤ sizeLine then (atI x.cps.toList i).map fun c => .str ⟨#[c]⟩ else none
  | .ref n, b => (match m[n]? with
    | some (.lst ds) => (match b with | .int i => atI ds i | _ => none)
    | some (.dic kvs) => (match key? b with
      | some k => getD? kvs k
      | _ => none)
    | some (.fdic kvs) => (match key? b with
      | some k => getD? kvs k
      | _ => none)
    | _ => none)
  | _, _ => none
def cutD {α : Type} (xs : List α) (lo hi : Option Int) : List α := (xs.drop (HT.sIx xs.length 0 lo)).take (HT.sIx xs.length xs.length hi - HT.sIx xs.length 0 lo)
def slV (m : Mem) (a : D) (lo hi : Option Int) : Option D := match a with
  | .tup ds => some (.tup (cutD ds lo hi))
  | .lst ds => some (.lst (cutD ds lo hi))
  | .scr ns => some (.lst ((cutD ns lo hi).map D.int))
  | .ref n => (match m[n]? with
    | some (.lst ds) => some (.lst (cutD ds lo hi))
    | _ => none)
  | .str x => if x.length ≤ sizeLine then some (.str (cutS x lo hi)) else none
  | _ => none
def revV (m : Mem) (a : D) : Option D := match a with
  | .lst ds => some (.lst ds.reverse)
  | .ref n => (match m[n]? with
    | some (.lst ds) => some (.lst ds.reverse)
    | _ => none)
  | _ => none

/-! ### sorting -/
/-- x not above y -/
def leP (x y : PyData) : Bool := !PySem.W.dataLt y x
def pdd (d : D) : PyData := (pd0 d).getD .none
def insD (x : D) : List D → List D
  | [] => [x]
  | y :: ys => if leP (pdd x) (pdd y) then x :: y :: ys else y :: insD x ys
def sortD : List D → List D
  | [] => []
  | x :: xs => insD x (sortD xs)
def tupNe : PyData → Bool
  | .tuple (_ :: _) => true
  | _ => false
def noTup : PyData → Bool
  | .tuple _ => false
  | .none => false
  | _ => true
/-- the items can be sorted -/
def sortOk (ds : List D) : Bool := match pd0s ds with
  | some xs => (xs.all fun x => SeqAt.shaped x && xs.all fun y => PySem.W.alike x y) && (xs.all tupNe || xs.all noTup)
  | none => false
/-- which is the first of the least -/
def argIx (ds : List D) : Nat := argBest (fun i j => PySem.W.dataLt ((ds.map pdd).getD i .none) ((ds.map pdd).getD j .none)) (ds.length - 1)
def pairs? : List D → Option (List (Key × D))
  | [] => some []
  | .tup [k, v] :: ds => (match key? k with
    | some k => (pairs? ds).map ((k, v) :: ·)
    | _ => none)
  | _ :: _ => none
def mergeD (kvs more : List (Key × D)) : List (Key × D) := more.foldl (fun acc kv => putD acc kv.1 kv.2) kvs
def dedupI : List Int → List Int
  | [] => []
  | x :: xs => if (dedupI xs).contains x then dedupI xs else x :: dedupI xs
def maxL : List Int → Int
  | [] => 0
  | [x] => x
  | x :: xs => max x (maxL xs)
def minL : List Int → Int
  | [] => 0
  | [x] => x
  | x :: xs => min x (minL xs)
/-- a built-in called -/
def callV (b : B) (m : Mem) (ds : List D) : Option (D × Mem) := match b, ds with
  | .len, [.str x] => if x.length ≤ sizeLine then some (.int (x.length : Nat), m) else none
  | .len, [.ref n] => (match m[n]? with
    | some (.lst ds) => some (.int (ds.length : Nat), m)
    | some (.dic kvs) => some (.int (kvs.length : Nat), m)
    | some (.fdic kvs) => some (.int (kvs.length : Nat), m)
    | _ => none)
  | .len, [d] => (seqV m d).map fun p => (.int (p.2.length : Nat), m)
  | .abs, [.int i] => some (.int (if i < 0 then -i else i), m)
  | .max2, [.int i, .int j] => some (.int (if j > i then j else i), m)
  | .min2, [.int i, .int j] => some (.int (if j < i then j else i), m)
  | .sum, [d] => (match seqV m d with
    | some (_, ds) => (ints? ds).map fun ns => (.int ns.sum, m)
    | _ => none)
  | .any, [d] => (match seqV m d with
    | some (false, ds) => (bls? ds).map fun bs => (.bl (bs.any id), m)
    | _ => none)
  | .all, [d] => (match seqV m d with
    | some (false, ds) => (bls? ds).map fun bs => (.bl (bs.all id), m)
    | _ => none)
  | .max, [d] => (match seqV m d with
    | some (false, ds) => (match ints? ds with | some (x :: xs) => some (.int (maxL (x :: xs)), m) | _ => none)
    | _ => none)
  | .min, [d] => (match seqV m d with
    | some (false, ds) => (match ints? ds with
      | some (x :: xs) => some (.int (minL (x :: xs)), m)
      | _ => if sortOk ds = true then (match ds[argIx ds]? with
        | some (.tup ys) => some (.tup ys, m)
        | _ => none) else none)
    | _ => none)
  | .sorted, [d] => (match seqV m d with
    | some (false, ds) => if sortOk ds then some (.lst (sortD ds), m) else none
    | some (true, ds) => if sortOk ds then some (.lst (sortD ds), m) else none
    | none => (match d with
      | .ref n => (match m[n]? with
        | some (.dic kvs) => if sortOk (kvs.map fun q => keyD q.1) then some (.lst (sortD (kvs.map fun q => keyD q.1)), m) else none
        | _ => none)
      | _ => none))
  | .tuple, [d] => (seqV m d).map fun p => (.tup p.2, m)
  | .list, [d] => (seqV m d).map fun p => (.lst p.2, m)
  | .int, [.int i] => some (.int i, m)
  | .int, [.bl k] => some (.int (if k then 1 else 0), m)
  | .lenset, [d] => (match seqV m d with
    | some (_, ds) => (match ints? ds with | some ns => if ns.length ≤ 4000 then some (.int ((dedupI ns).length : Nat), m) else none | _ => none)
    | _ => none)
  | .dict, [d] => (match seqV m d with
    | some (false, ds) => (match pairs? ds with | some kvs => some (.ref m.length, m ++ [.dic (mergeD [] kvs)]) | _ => none)
    | _ => none)
  | _, _ => none
/-- the first place of an equal one -/
def findPD (x : PyData) : List PyData → Option Nat
  | [] => none
  | y :: ys => if PyData.eqv y x then some 0 else (findPD x ys).map (· + 1)
/-- a class that has the method -/
def methOk : M → String → Bool
  | .append, "list" => true | .extend, "list" => true | .pop, "list" => true | .index, "list" => true | .index, "tuple" => true | .count, "list" => true | .dget, "dict" => true | .dget2, "dict" => true | .update, "dict" => true
  | _, _ => false
/-- a method called -/
def methV (k : M) (m : Mem) (o : D) (ds : List D) : Option (D × Mem) := match k, o, ds with
  | .append, .ref n, [d] => (match m[n]? with
    | some (.lst xs) => if xs.length < sizeLine then some (.non, m.set n (.lst (xs ++ [d]))) else none
    | _ => none)
  | .extend, .ref n, [.lst zs] => (match m[n]? with
    | some (.lst xs) => if xs.length + zs.length ≤ sizeLine then some (.non, m.set n (.lst (xs ++ zs))) else none
    | _ => none)
  | .pop, .ref n, [] => (match m[n]? with
    | some (.lst xs) => (xs[xs.length - 1]?).map fun y => (y, m.set n (.lst xs.dropLast))
    | _ => none)
  | .pop, .ref n, [.int i] => (match m[n]? with
    | some (.lst xs) => (match ixN xs.length i with
      | some k => (xs[k]?).map fun y => (y, m.set n (.lst (xs.eraseIdx k)))
      | _ => none)
    | _ => none)
  | .index, .tup xs, [.int i] => (match ints? xs with
    | some ns => (ns.findIdx? (· == i)).map fun j => (.int (j : Nat), m)
    | _ => none)
  | .index, o, [d] => (match pdV m o, pd0 d with
    | some (.list ys), some x => if SeqAt.shaped (.list ys) && SeqAt.shaped x then (findPD x ys).map fun j => (.int (j : Nat), m) else none
    | _, _ => none)
  | .count, o, [d] => (match pdV m o, pd0 d with
    | some (.list ys), some x => if SeqAt.shaped (.list ys) && SeqAt.shaped x then some (.int (ys.countP fun y => PyData.eqv y x : Nat), m) else none
    | _, _ => none)
  | .dget, .ref n, [k] => (match m[n]?, key? k with
    | some (.dic kvs), some k => some ((getD? kvs k).getD .non, m)
    | _, _ => none)
  | .dget2, .ref n, [k, d] => (match m[n]?, key? k with
    | some (.dic kvs), some k => some ((getD? kvs k).getD d, m)
    | _, _ => none)
  | .update, .ref n, [.ref k] => (match m[n]?, m[k]? with
    | some (.dic kvs), some (.dic more) => if n ≠ k ∧ kvs.length + more.length ≤ sizeLine then some (.non, m.set n (.dic (mergeD kvs more))) else none
    | _, _ => none)
  | _, _, _ => none

/-! ### what a loop walks -/
inductive SrcV where
  | tup (ds : List D) | lst (ds : List D) | ref (n : Nat) | rng (lo : Int) (k : Nat) | rngd (lo : Int) (k : Nat)
  | en (s : SrcV) | zp (a b : SrcV)
/-- at turn i: none: it cannot go on; some none: it stops -/
def SrcV.at (m : Mem) (i : Nat) : SrcV → Option (Option D)
  | .tup ds => some ds[i]?
  | .lst ds => some ds[i]?
  | .ref n => (match m[n]? with
    | some (.lst ds) => some ds[i]?
    | _ => none)
  | .rng lo k => some (if i < k then some (.int (lo + i)) else none)
  | .rngd lo k => some (if i < k then some (.int (lo + i * (-1))) else none)
  | .en s => (s.at m i).map fun o => o.map fun d => .wtup [.int i, d]
  | .zp a b => (match a.at m i, b.at m i with
    | some (some x), some (some y) => some (some (.wtup [x, y]))
    | some none, some _ => some none
    | some _, some none => some none
    | _, _ => none)
def srcOf (m : Mem) : D → Option SrcV
  | .tup ds => some (.tup ds)
  | .lst ds => some (.lst ds)
  | .scr ns => some (.lst (ns.map D.int))
  | .ref n => (match m[n]? with
    | some (.lst _) => some (.ref n)
    | _ => none)
  | _ => none
def tupS : SrcV → Bool
  | .tup _ => true
  | _ => false
def rngOk (lo hi : Int) : Bool := decide (-(2 ^ 62) ≤ lo) && decide (lo < 2 ^ 62) && decide (-(2 ^ 62) ≤ hi) && decide (hi < 2 ^ 62)
def rngList (lo hi : Int) : List D := (List.range (hi - lo).toNat).map fun (i : Nat) => D.int (lo + (i : Int))

/-! ### the evaluator -/
def envGet (env : Env) (i : Nat) : Option D := match env[i]? with
  | some (some d) => some d
  | _ => none
mutual
def asgT : Tg → D → Env → Option Env
  | .name i, d, env => if i < env.length then some (env.set i (some d)) else none
  | .pair ts, d, env => (match d with
    | .tup ds => asgTs ts ds env
    | .wtup ds => asgTs ts ds env
    | .lst ds => asgTs ts ds env
    | _ => none)
def asgTs : Tgs → List D → Env → Option Env
  | .nil, [], env => some env
  | .cons t ts, d :: ds, env => (match asgT t d env with
    | some env' => asgTs ts ds env'
    | _ => none)
  | _, _, _ => none
end
def wipeE (env : Env) : List Nat → Env
  | [] => env
  | v :: vs => (wipeE env vs).set v none
def noLst0 : D → Bool
  | .lst _ => false
  | .scr _ => false
  | _ => true
mutual
/-- no list within -/
def noL : D → Bool
  | .lst _ => false
  | .scr _ => false
  | .tup ds => noLs ds
  | .wtup ds => noLs ds
  | _ => true
def noLs : List D → Bool
  | [] => true
  | d :: ds => noL d && noLs ds
end
def noO : O → Bool
  | .lst ds => noLs ds
  | .dic kvs => noLs (kvs.map (·.2))
  | .fdic kvs => noLs (kvs.map (·.2))
  | .acc ds => noLs ds
mutual
/-- no thing that may change but the first k -/
def bndD (k : Nat) : D → Bool
  | .ref n => decide (n < k)
  | .tup ds => bndDs k ds
  | .wtup ds => bndDs k ds
  | .lst ds => bndDs k ds
  | _ => true
def bndDs (k : Nat) : List D → Bool
  | [] => true
  | d :: ds => bndD k d && bndDs k ds
end
def bndO (k : Nat) : O → Bool
  | .lst ds => bndDs k ds
  | .dic kvs => bndDs k (kvs.map (·.2))
  | .fdic kvs => bndDs k (kvs.map (·.2))
  | .acc ds => bndDs k ds
/-- the first k things and a value, all else let go where that can be; a new list is then a finished one -/
def clean (k : Nat) (d : D) (m : Mem) : D × Mem := if (m.take k).all (bndO k) = true then (match d with
    | .ref n => if n < k then (d, m.take k) else (match m[n]? with
      | some (.lst ds) => if bndDs k ds = true then (.lst ds, m.take k) else (d, m)
      | _ => (d, m))
    | d => if bndD k d = true then (d, m.take k) else (d, m)) else (d, m)
section
-- the defs: what a call of the def x gives
variable (C : Nat → List D → Mem → Res D)
/-- turns at most -/
def turnsMax : Nat := 16777216
/-- as bnd, but nothing may be raised -/
def Res.bndN {α β : Type} (r : Res α) (k : α → Mem → Res β) : Res β := match r with
  | .ok a m => k a m
  | _ => .bad
/-- the turns of a comprehension, the new list stands at k -/
def compLoop (k : Nat) (src : SrcV) (tg : Tg) (own : List Nat) (env : Env) (tests : Env → Mem → Res Bool) (elt : Env → Mem → Res D) : Nat → Nat → Mem → Res Unit
  | 0, _, _ => .bad
  | n + 1, i, m => match src.at m i with
    | none => .bad
    | some none => .ok () m
    | some (some d) => match asgT tg d (wipeE env own) with
      | none => .bad
      | some env' => (tests env' m).bndN fun b m1 => if b = true then (elt env' m1).bndN fun y m2 => (match m2[k]? with
          | some (.acc ds) => if ds.length < sizeLine then compLoop k src tg own env tests elt n (i + 1) (m2.set k (.acc (y :: ds))) else .bad
          | _ => .bad)
        else compLoop k src tg own env tests elt n (i + 1) m1
/-- the turns of the first clause of two -/
def compLoop2 (src : SrcV) (tg : Tg) (own : List Nat) (env : Env) (tests : Env → Mem → Res Bool) (inner : Env → Mem → Res Unit) : Nat → Nat → Mem → Res Unit
  | 0, _, _ => .bad
  | n + 1, i, m => match src.at m i with
    | none => .bad
    | some none => .ok () m
    | some (some d) => match asgT tg d (wipeE env own) with
      | none => .bad
      | some env' => (tests env' m).bndN fun b m1 => if b = true then (inner env' m1).bndN fun _ m2 => compLoop2 src tg own env tests inner n (i + 1) m2
        else compLoop2 src tg own env tests inner n (i + 1) m1
/-- the new list is whole -/
def compEnd (k : Nat) (m : Mem) : Res D := match m[k]? with
  | some (.acc ds) => .ok (clean k (.ref k) (m.set k (.lst ds.reverse))).1 (clean k (.ref k) (m.set k (.lst ds.reverse))).2
  | _ => .bad
mutual
def ev : Ex → Env → Mem → Res D
  | .var i, env, m => (match envGet env i with
    | some d => .ok d m
    | none => .bad)
  | .lit d, _, m => .ok d m
  | .bin o a b, env, m => (ev a env m).bnd fun x m1 => (ev b env m1).bnd fun y m2 => (match binV o m2 x y with
    | some d => .ok d m2
    | none => .bad)
  | .neg a, env, m => (ev a env m).bnd fun x m1 => (match x with
    | .int i => .ok (.int (-i)) m1
    | _ => .bad)
  | .cmp o a b, env, m => (ev a env m).bnd fun x m1 => (ev b env m1).bnd fun y m2 => (match cmpV o m2 x y with
    | some d => .ok (.bl d) m2
    | none => .bad)
  | .cmp2 o o' a b c, env, m => (ev a env m).bnd fun x m1 => (ev b env m1).bnd fun y m2 => (match cmpV o m2 x y with
    | some true => (ev c env m2).bnd fun z m3 => (match cmpV o' m3 y z with
      | some d => .ok (.bl d) m3
      | none => .bad)
    | some false => .ok (.bl false) m2
    | none => .bad)
  | .andE a b, env, m => (ev a env m).bnd fun x m1 => (match truV m1 x with
    | some true => ev b env m1
    | some false => .ok x m1
    | none => .bad)
  | .orE a b, env, m => (ev a env m).bnd fun x m1 => (match truV m1 x with
    | some true => .ok x m1
    | some false => ev b env m1
    | none => .bad)
  | .notE a, env, m => (ev a env m).bnd fun x m1 => (match truV m1 x with
    | some b => .ok (.bl (!b)) m1
    | none => .bad)
  | .ite c a b, env, m => (ev c env m).bnd fun x m1 => (match truV m1 x with
    | some true => ev a env m1
    | some false => ev b env m1
    | none => .bad)
  | .tup es, env, m => (evs es env m).bnd fun ds m1 => if ds.length ≤ sizeLine then .ok (.tup ds) m1 else .bad
  | .lst es, env, m => (evs es env m).bnd fun ds m1 => if ds.length ≤ sizeLine then .ok (.lst ds) m1 else .bad
  | .newL es, env, m => (evs es env m).bnd fun ds m1 => if ds.length ≤ sizeLine then .ok (.ref m1.length) (m1 ++ [.lst ds]) else .bad
  | .emptyDict, _, m => .ok (.ref m.length) (m ++ [.dic []])
  | .dict1 k v, env, m => (ev k env (m ++ [.dic []])).bnd fun x m1 => (ev v env m1).bnd fun y m2 => (match key? x, m2[m.length]? with
    | some kk, some (.dic []) => .ok (.ref m.length) (m2.set m.length (.dic [(kk, y)]))
    | _, _ => .bad)
  | .ix a i, env, m => (ev a env m).bnd fun x m1 => (ev i env m1).bnd fun y m2 => (match ixV m2 x y with
    | some d => .ok d m2
    | none => .bad)
  | .sl a lo hi, env, m => (ev a env m).bnd fun x m1 => (evs lo env m1).bnd fun l m2 => (match ints? l with
    | some l => (evs hi env m2).bnd fun h m3 => (match ints? h with
      | some h => (match slV m3 x l.head? h.head? with
        | some d => .ok d m3
        | none => .bad)
      | none => .bad)
    | none => .bad)
  | .rev a, env, m => (ev a env m).bnd fun x m1 => (match revV m1 x with
    | some d => .ok d m1
    | none => .bad)
  | .callB b es, env, m => (evs es env m).bnd fun ds m1 => (match callV b m1 ds with
    | some (d, m2) => .ok d m2
    | none => .bad)
  | .rngL a b, env, m => (ev a env m).bnd fun x m1 => (ev b env m1).bnd fun y m2 => (match x, y with
    | .int i, .int j => if rngOk i j = true ∧ (j - i).toNat ≤ 1000000 then .ok (.lst (rngList i j)) m2 else .bad
    | _, _ => .bad)
  | .rngT a b, env, m => (ev a env m).bnd fun x m1 => (ev b env m1).bnd fun y m2 => (match x, y with
    | .int i, .int j => if rngOk i j = true ∧ (j - i).toNat ≤ 1000000 then .ok (.tup (rngList i j)) m2 else .bad
    | _, _ => .bad)
  | .isi a ts, env, m => (ev a env m).bnd fun x m1 => (match isAny m1 x ts with
    | some b => .ok (.bl b) m1
    | none => .bad)
  | .callF x es, env, m => (evs es env m).bnd fun ds m1 => C x ds m1
  | .meth k o es, env, m => (ev o env m).bnd fun x m1 => (match mCls m1 x with
    | some T => if methOk k T = true then (evs es env m1).bnd fun ds m2 => if mCls m2 x = some T then (match methV k m2 x ds with
      | some (d, m3) => .ok d m3
      | none => .bad) else .bad else .bad
    | none => .bad)
  | .comp tg src ifs elt own, env, m => (evSr src env m).bnd fun s m1 =>
      (compLoop m1.length s tg own env (fun env' m' => evTs ifs env' m') (fun env' m' => ev elt env' m') turnsMax 0 (m1 ++ [.acc []])).bndN fun _ m2 => compEnd m1.length m2
  | .comp2 tg src ifs tg2 src2 ifs2 elt own own2, env, m => (evSr src env m).bnd fun s m1 =>
      (compLoop2 s tg own env (fun env' m' => evTs ifs env' m') (fun env' m' => (evSr src2 env' m').bndN fun s2 m2 =>
        compLoop m1.length s2 tg2 own2 env' (fun env2 m' => evTs ifs2 env2 m') (fun env2 m' => ev elt env2 m') turnsMax 0 m2) turnsMax 0 (m1 ++ [.acc []])).bndN fun _ m2 => compEnd m1.length m2
  | .thaw a, env, m => (ev a env m).bnd fun x m1 => (match x with
    | .lst ds => if noLs ds && m1.all noO then .ok (.ref m1.length) (m1 ++ [.lst ds]) else .bad
    | _ => .ok x m1)
  | .bad, _, _ => .bad
def evs : Exs → Env → Mem → Res (List D)
  | .nil, _, m => .ok [] m
  | .cons e es, env, m => (ev e env m).bnd fun x m1 => (evs es env m1).bnd fun xs m2 => .ok (x :: xs) m2
/-- a clause's tests -/
def evTs : Exs → Env → Mem → Res Bool
  | .nil, _, m => .ok true m
  | .cons e es, env, m => (ev e env m).bnd fun x m1 => (match truV m1 x with
    | some true => evTs es env m1
    | some false => .ok false m1
    | none => .bad)
def evSr : Sr → Env → Mem → Res SrcV
  | .of e, env, m => (ev e env m).bnd fun x m1 => (match srcOf m1 x with
    | some s => .ok s m1
    | none => (match x with
      | .ref n => (match m1[n]? with
        | some (.dic kvs) => .ok (.lst (kvs.map fun q => keyD q.1)) (m1.set n (.fdic kvs))
        | some (.fdic kvs) => .ok (.lst (kvs.map fun q => keyD q.1)) m1
        | _ => .bad)
      | _ => .bad))
  | .rng1 e, env, m => (ev e env m).bnd fun x m1 => (match x with
    | .int j => if rngOk 0 j then .ok (.rng 0 j.toNat) m1 else .bad
    | _ => .bad)
  | .rng2 a b, env, m => (ev a env m).bnd fun x m1 => (ev b env m1).bnd fun y m2 => (match x, y with
    | .int i, .int j => if rngOk i j then .ok (.rng i (j - i).toNat) m2 else .bad
    | _, _ => .bad)
  | .rng3 a b c, env, m => (ev a env m).bnd fun x m1 => (ev b env m1).bnd fun y m2 => (ev c env m2).bnd fun z m3 => (match x, y, z with
    | .int i, .int j, .int k => if rngOk i j && decide (k = -1) then .ok (.rngd i (i - j).toNat) m3 else .bad
    | _, _, _ => .bad)
  | .enum e, env, m => (ev e env m).bnd fun x m1 => (match srcOf m1 x with
    | some s => .ok (.en s) m1
    | none => .bad)
  | .zip a b, env, m => (ev a env m).bnd fun x m1 => (ev b env m1).bnd fun y m2 => (match srcOf m2 x, srcOf m2 y with
    | some s, some t => if (tupS s == tupS t) = true then .ok (.zp s t) m2 else .bad
    | _, _ => .bad)
end
end

/-! ### statements -/
inductive Fl where | nx | rt (fr : Bool) (d : D)
inductive SRes where
  | ok (f : Fl) (env : Env) (m : Mem) | exc (c : Nat) (fs : List D) (env : Env) (m : Mem) | bad
mutual
inductive St where
  | expr (e : Ex)
  | asg (t : Tg) (e : Ex)
  | par (i j : Nat) (a b : Ex)
  | aug (i : Nat) (o : BO) (e : Ex)
  | setIx (a i e : Ex)
  | delIx (a i : Ex)
  | ret (fr : Bool) (e : Ex)
  | ifS (c : Ex) (a b : Sts)
  | whileS (c : Ex) (b : Sts)
  | forS (t : Tg) (s : Sr) (b : Sts)
  | raise (c : Nat) (es : Exs)
  | tryS (b : Sts) (h : Hds)
  | pass
  | bad
inductive Sts where
  | nil | cons (s : St) (ss : Sts)
/-- except clauses: the class, the name's slot, the suite -/
inductive Hds where
  | nil | cons (c : Nat) (slot : Option Nat) (e : Ex) (dst : Nat) (r : Hds)
end
def setV (m : Mem) (a i v : D) : Option Mem := match a with
  | .ref n => (match m[n]? with
    | some (.lst ds) => (match i with
      | .int k => (match ixN ds.length k with
        | some j => some (m.set n (.lst (ds.set j v)))
        | _ => none)
      | _ => none)
    | some (.dic kvs) => (match key? i with
      | some k => if kvs.length < sizeLine then some (m.set n (.dic (putD kvs k v))) else none
      | _ => none)
    | _ => none)
  | _ => none
def delV (m : Mem) (a i : D) : Option Mem := match a with
  | .ref n => (match m[n]?, key? i with
    | some (.dic kvs), some k => if (kvs.any fun kv => decide (kv.1 = k)) = true then some (m.set n (.dic (dropD kvs k))) else none
    | _, _ => none)
  | _ => none
def SRes.of (r : Res D) (env : Env) (k : D → Mem → SRes) : SRes := match r with
  | .ok a m => k a m
  | .exc c fs m => .exc c fs env m
  | .bad => .bad
def SRes.thn (r : SRes) (k : Env → Mem → SRes) : SRes := match r with
  | .ok .nx env m => k env m
  | .ok (.rt fr d) env m => .ok (.rt fr d) env m
  | .exc c fs env m => .exc c fs env m
  | .bad => .bad
def forLoop (src : SrcV) (tg : Tg) (body : Env → Mem → SRes) : Nat → Nat → Env → Mem → SRes
  | 0, _, _, _ => .bad
  | n + 1, i, env, m => match src.at m i with
    | none => .bad
    | some none => .ok .nx env m
    | some (some d) => match asgT tg d env with
      | none => .bad
      | some env' => (body env' m).thn fun env'' m' => forLoop src tg body n (i + 1) env'' m'
def whileLoop (c : Env → Mem → Res D) (body : Env → Mem → SRes) : Nat → Env → Mem → SRes
  | 0, _, _ => .bad
  | n + 1, env, m => SRes.of (c env m) env fun x m1 => match truV m1 x with
    | some true => (body env m1).thn fun env' m' => whileLoop c body n env' m'
    | some false => .ok .nx env m1
    | none => .bad
section
variable (C : Nat → List D → Mem → Res D)
mutual
def ex : St → Env → Mem → SRes
  | .expr e, env, m => SRes.of (ev C e env m) env fun _ m1 => .ok .nx env m1
  | .asg t e, env, m => SRes.of (ev C e env m) env fun x m1 => (match asgT t x env with
    | some env' => .ok .nx env' m1
    | none => .bad)
  | .par i j a b, env, m => SRes.of (ev C a env m) env fun x m1 => SRes.of (ev C b env m1) env fun y m2 =>
      if i < env.length ∧ j < env.length then .ok .nx ((env.set i (some x)).set j (some y)) m2 else .bad
  | .aug i o e, env, m => (match envGet env i with
    | some x => SRes.of (ev C e env m) env fun y m1 => (match o, x, y with
      | .add, .int a, .int b => .ok .nx (env.set i (some (.int (a + b)))) m1
      | .sub, .int a, .int b => .ok .nx (env.set i (some (.int (a - b)))) m1
      | _, _, _ => .bad)
    | none => .bad)
  | .setIx a i e, env, m => SRes.of (ev C e env m) env fun v m1 => SRes.of (ev C a env m1) env fun x m2 => SRes.of (ev C i env m2) env fun y m3 => (match setV m3 x y v with
    | some m4 => .ok .nx env m4
    | none => .bad)
  | .delIx a i, env, m => SRes.of (ev C a env m) env fun x m1 => SRes.of (ev C i env m1) env fun y m2 => (match delV m2 x y with
    | some m3 => .ok .nx env m3
    | none => .bad)
  | .ret fr e, env, m => SRes.of (ev C e env m) env fun x m1 => .ok (.rt fr x) env m1
  | .bad, _, _ => .bad
  | .ifS c a b, env, m => SRes.of (ev C c env m) env fun x m1 => (match truV m1 x with
    | some true => exs a env m1
    | some false => exs b env m1
    | none => .bad)
  | .whileS c b, env, m => whileLoop (fun env' m' => ev C c env' m') (fun env' m' => exs b env' m') turnsMax env m
  | .forS t s b, env, m => (match evSr C s env m with
    | .ok src m1 => forLoop src t (fun env' m' => exs b env' m') turnsMax 0 env m1
    | .exc c fs m1 => .exc c fs env m1
    | .bad => .bad)
  | .raise c es, env, m => (match evs C es env m with
    | .ok fs m1 => .exc c fs env m1
    | .exc c fs m1 => .exc c fs env m1
    | .bad => .bad)
  | .tryS b h, env, m => (match exs b env m with
    | .exc c fs env' m' => if fs.isEmpty = true then exh h c fs env' m' else .bad
    | r => r)
  | .pass, env, m => .ok .nx env m
def exs : Sts → Env → Mem → SRes
  | .nil, env, m => .ok .nx env m
  | .cons s ss, env, m => (ex s env m).thn fun env' m' => exs ss env' m'
def exh : Hds → Nat → List D → Env → Mem → SRes
  | .nil, c, fs, env, m => .exc c fs env m
  | .cons c' slot e dst r, c, fs, env, m => if c = c' then (match ev C e env m with
      | .ok x m1 => (match asgT (.name dst) x env with
        | some env' => .ok .nx (match slot with | some i => env'.set i none | none => env') m1
        | none => .bad)
      | _ => .bad)
    else exh r c fs env m
end
end
/-! ### defs -/
structure DefI where
  arity : Nat
  slots : Nat
  /-- a list that is given must be a new one -/
  ff : Bool
  body : Sts
def isL : D → Bool
  | .lst _ => true
  | .scr _ => true
  | _ => false
def callD (P : Nat → Option DefI) (C : Nat → List D → Mem → Res D) (x : Nat) (ds : List D) (m : Mem) : Res D := match P x with
  | none => .bad
  | some I => if ds.length = I.arity then (match exs C I.body (ds.map some ++ List.replicate (I.slots - ds.length) none) m with
    | .ok (.rt fr d) _ m' => if (I.ff && !fr && isL d) = true then .bad else .ok (clean m.length d m').1 (clean m.length d m').2
    | .ok .nx _ m' => .ok .non (clean m.length .non m').2
    | .exc c fs _ m' => .exc c fs (clean m.length .non m').2
    | .bad => .bad) else .bad
/-- calls of at most L levels -/
def run (P : Nat → Option DefI) : Nat → Nat → List D → Mem → Res D
  | 0, _, _, _ => .bad
  | L + 1, x, ds, m => callD P (run P L) x ds m
end MP

namespace MP
open PySem L2 PySem.Spec PyProof.Rows
/-! ### what the values are in a heap -/
/-- the written part, where the defs stand -/
structure Rc where
  K : PySem.W.Frag
  /-- where the defs stand -/
  fa : Nat → Option Addr
  /-- where the classes of errors stand, the names of their fields -/
  ca : Nat → Option Addr
  xf : Nat → List Str
  /-- a def whose list, if it gives one, is a new one -/
  ff : Nat → Bool
def WrT (K : PySem.W.Frag) (a : Addr) (vs : List V) : Prop :=
  ∃ (o : Obj) (its : Array Value) (n : Nat), K.lookup a = some o ∧ o.cls = .type "tuple" ∧ o.dict = none ∧ o.data = .seq its n ∧ its.size ≤ sizeLine ∧ Vals vs its.toList
def WrL (K : PySem.W.Frag) (a : Addr) (vs : List V) : Prop :=
  ∃ (o : Obj) (its : Array Value) (n : Nat), K.lookup a = some o ∧ o.cls = .type "list" ∧ o.dict = none ∧ o.data = .seq its n ∧ its.size ≤ sizeLine ∧ Vals vs its.toList
def TupAt (K : PySem.W.Frag) (ρ : List Addr) (H : Hp) (a : Addr) (vs : List V) : Prop := (a ∉ ρ ∧ ∃ o : Obj, o.dict = none ∧ H a = some (.frz o (.tup vs))) ∨ WrT K a vs
def ScrAt (K : PySem.W.Frag) (ρ : List Addr) (H : Hp) (a : Addr) (vs : List V) : Prop := (a ∉ ρ ∧ Rd H a (.lst vs)) ∨ WrL K a vs
theorem TupAt.sq {K : PySem.W.Frag} {ρ : List Addr} {H : Hp} {a : Addr} {vs : List V} (h : TupAt K ρ H a vs) : SqT K H a vs := by
  rcases h with ⟨_, o, _, h⟩ | ⟨o, its, n, h1, h2, _, h3, h4, h5⟩
  · exact .inl (.inr ⟨o, h⟩)
  · exact .inr ⟨o, its, n, h1, h2, h3, h4, h5⟩
theorem ScrAt.sq {K : PySem.W.Frag} {ρ : List Addr} {H : Hp} {a : Addr} {vs : List V} (h : ScrAt K ρ H a vs) : SqL K H a vs := by
  rcases h with ⟨_, h⟩ | h
  · exact .inl h
  · exact .inr h
section
variable (R : Rc) (ρ : List Addr) (H : Hp)
mutual
def VR : D → V → Prop
  | .non, v => v = .non
  | .bl b, v => v = .bl b
  | .int i, v => v = .int i
  | .str x, v => v = .str x
  | .tup ds, v => ∃ a vs, v = .ref a ∧ TupAt R.K ρ H a vs ∧ VRs ds vs
  | .wtup ds, v => ∃ a vs, v = .ref a ∧ a ∉ ρ ∧ H a = some (.tup vs) ∧ VRs ds vs
  | .lst ds, v => ∃ a vs, v = .ref a ∧ a ∉ ρ ∧ H a = some (.lst vs) ∧ VRs ds vs
  | .scr ns, v => ∃ a, v = .ref a ∧ ScrAt R.K ρ H a (ns.map V.int)
  | .ref n, v => ∃ a, ρ[n]? = some a ∧ v = .ref a
  | .fn x, v => ∃ f, R.fa x = some f ∧ v = .ref f
  | .ty n, v => v = .ty n
def VRs : List D → List V → Prop
  | [], [] => True
  | d :: ds, v :: vs => VR d v ∧ VRs ds vs
  | _, _ => False
end
/-- a thing that may change, at its address -/
def OR : O → Addr → Prop
  | .lst ds, a => ∃ vs, H a = some (.lst vs) ∧ VRs R ρ H ds vs
  | .dic kvs, a => ∃ ws : List (Key × V), H a = some (.dK ws) ∧ kvs.map (·.1) = ws.map (·.1) ∧ VRs R ρ H (kvs.map (·.2)) (ws.map (·.2))
  | .fdic kvs, a => ∃ (o : Obj) (ws : List (Key × V)), H a = some (.frz o (.dK ws)) ∧ kvs.map (·.1) = ws.map (·.1) ∧ VRs R ρ H (kvs.map (·.2)) (ws.map (·.2))
  | .acc ds, a => ∃ vs, H a = some (.lst vs) ∧ VRs R ρ H ds.reverse vs
structure MR (m : Mem) : Prop where
  len : ρ.length = m.length
  nd : ρ.Nodup
  ob : ∀ (n : Nat) (o : O), m[n]? = some o → ∃ a, ρ[n]? = some a ∧ OR R ρ H o a
structure SR (m : Mem) (env : Env) (σ : L2.St) : Prop where
  mem : MR R ρ H m
  len : env.length = σ.length
  ev : ∀ (i : Nat) (d : D), env[i]? = some (some d) → ∃ v, σ[i]? = some (some v) ∧ VR R ρ H d v
end
/-- what lies between two moments -/
structure Ext (ρ : List Addr) (H : Hp) (ρ' : List Addr) (H' : Hp) : Prop where
  pre : ρ <+: ρ'
  new : ∀ a ∈ ρ', a ∉ ρ → H a = none
  frm : ∀ a o, a ∉ ρ → H a = some o → H' a = some o
  frz : ∀ a o u, H a = some (.frz o u) → H' a = some (.frz o u)

section
variable {R : Rc} {ρ ρ' ρ'' : List Addr} {H H' H'' : Hp} {m m' : Mem} {env : Env} {σ : L2.St}
theorem Ext.refl : Ext ρ H ρ H := ⟨List.prefix_refl _, fun _ h n => absurd h n, fun _ _ _ h => h, fun _ _ _ h => h⟩
theorem Ext.out (e : Ext ρ H ρ' H') {a : Addr} {o : HO} (n : a ∉ ρ) (h : H a = some o) : a ∉ ρ' := fun q => by
  have := e.new a q n
  rw [h] at this
  cases this
theorem Ext.trans (e : Ext ρ H ρ' H') (f : Ext ρ' H' ρ'' H'') : Ext ρ H ρ'' H'' := by
  refine ⟨e.pre.trans f.pre, fun a h n => ?_, fun a o n h => f.frm a o (e.out n h) (e.frm a o n h), fun a o u h => f.frz a o u (e.frz a o u h)⟩
  by_cases q : a ∈ ρ'
  · exact e.new a q n
  · cases z : H a with
    | none => rfl
    | some o =>
      have := f.new a h q
      rw [e.frm a o n z] at this
      cases this
theorem TupAt.ext {K : PySem.W.Frag} {a : Addr} {vs : List V} (h : TupAt K ρ H a vs) (e : Ext ρ H ρ' H') : TupAt K ρ' H' a vs := by
  rcases h with ⟨n, o, h0, h⟩ | h
  · exact .inl ⟨e.out n h, o, h0, e.frm _ _ n h⟩
  · exact .inr h
theorem ScrAt.ext {K : PySem.W.Frag} {a : Addr} {vs : List V} (h : ScrAt K ρ H a vs) (e : Ext ρ H ρ' H') : ScrAt K ρ' H' a vs := by
  rcases h with ⟨n, h⟩ | h
  · refine .inl ?_
    rcases h with h | ⟨o, h⟩
    · exact ⟨e.out n h, .inl (e.frm _ _ n h)⟩
    · exact ⟨e.out n h, .inr ⟨o, e.frm _ _ n h⟩⟩
  · exact .inr h
mutual
theorem VR.ext (e : Ext ρ H ρ' H') : ∀ (d : D) (v : V), VR R ρ H d v → VR R ρ' H' d v
  | .non, v, h => by simpa [VR] using h
  | .bl b, v, h => by simpa [VR] using h
  | .int i, v, h => by simpa [VR] using h
  | .str x, v, h => by simpa [VR] using h
  | .tup ds, v, h => by
    simp only [VR] at h ⊢
    obtain ⟨a, vs, r, t, s⟩ := h
    exact ⟨a, vs, r, t.ext e, VRs.ext e ds vs s⟩
  | .wtup ds, v, h => by
    simp only [VR] at h ⊢
    obtain ⟨a, vs, r, n, t, s⟩ := h
    exact ⟨a, vs, r, e.out n t, e.frm _ _ n t, VRs.ext e ds vs s⟩
  | .lst ds, v, h => by
    simp only [VR] at h ⊢
    obtain ⟨a, vs, r, n, t, s⟩ := h
    exact ⟨a, vs, r, e.out n t, e.frm _ _ n t, VRs.ext e ds vs s⟩
  | .scr ns, v, h => by
    simp only [VR] at h ⊢
    obtain ⟨a, r, t⟩ := h
    exact ⟨a, r, t.ext e⟩
  | .ref n, v, h => by
    simp only [VR] at h ⊢
    obtain ⟨a, r, t⟩ := h
    refine ⟨a, ?_, t⟩
    obtain ⟨l, rfl⟩ := e.pre
    rw [List.getElem?_append_left (List.getElem?_eq_some_iff.mp r).1]
    exact r
  | .fn x, v, h => by simpa [VR] using h
  | .ty n, v, h => by simpa [VR] using h
theorem VRs.ext (e : Ext ρ H ρ' H') : ∀ (ds : List D) (vs : List V), VRs R ρ H ds vs → VRs R ρ' H' ds vs
  | [], [], _ => by simp [VRs]
  | d :: ds, v :: vs, h => by
    simp only [VRs] at h ⊢
    exact ⟨VR.ext e d v h.1, VRs.ext e ds vs h.2⟩
  | [], _ :: _, h => by simp [VRs] at h
  | _ :: _, [], h => by simp [VRs] at h
end
theorem VRs.length : ∀ {ds : List D} {vs : List V}, VRs R ρ H ds vs → ds.length = vs.length
  | [], [], _ => rfl
  | d :: ds, v :: vs, h => by
    simp only [VRs] at h
    simp [VRs.length h.2]
  | [], _ :: _, h => by simp [VRs] at h
  | _ :: _, [], h => by simp [VRs] at h
theorem VRs.get : ∀ {ds : List D} {vs : List V} {i : Nat} {d : D}, VRs R ρ H ds vs → ds[i]? = some d → ∃ v, vs[i]? = some v ∧ VR R ρ H d v
  | d :: ds, v :: vs, 0, x, h, e => by
    simp only [VRs] at h
    cases e
    exact ⟨v, rfl, h.1⟩
  | d :: ds, v :: vs, i + 1, x, h, e => by
    simp only [VRs] at h
    exact VRs.get (i := i) h.2 e
  | [], [], _, _, _, e => by simp at e
  | [], _ :: _, _, _, h, _ => by simp [VRs] at h
  | _ :: _, [], _, _, h, _ => by simp [VRs] at h
theorem VRs.get' : ∀ {ds : List D} {vs : List V} {i : Nat} {v : V}, VRs R ρ H ds vs → vs[i]? = some v → ∃ d, ds[i]? = some d ∧ VR R ρ H d v
  | d :: ds, v :: vs, 0, x, h, e => by
    simp only [VRs] at h
    cases e
    exact ⟨d, rfl, h.1⟩
  | d :: ds, v :: vs, i + 1, x, h, e => by
    simp only [VRs] at h
    exact VRs.get' (i := i) h.2 e
  | [], [], _, _, _, e => by simp at e
  | [], _ :: _, _, _, h, _ => by simp [VRs] at h
  | _ :: _, [], _, _, h, _ => by simp [VRs] at h
theorem VRs.append : ∀ {ds es : List D} {vs ws : List V}, VRs R ρ H ds vs → VRs R ρ H es ws → VRs R ρ H (ds ++ es) (vs ++ ws)
  | [], _, [], _, _, h => h
  | d :: ds, _, v :: vs, _, h, k => by
    simp only [VRs, List.cons_append] at h ⊢
    exact ⟨h.1, VRs.append h.2 k⟩
  | [], _, _ :: _, _, h, _ => by simp [VRs] at h
  | _ :: _, _, [], _, h, _ => by simp [VRs] at h
theorem VRs.one {d : D} {v : V} (h : VR R ρ H d v) : VRs R ρ H [d] [v] := by
  simp only [VRs]
  exact ⟨h, trivial⟩
theorem VRs.drop : ∀ {ds : List D} {vs : List V} (n : Nat), VRs R ρ H ds vs → VRs R ρ H (ds.drop n) (vs.drop n)
  | _, _, 0, h => h
  | [], [], _ + 1, h => h
  | d :: ds, v :: vs, n + 1, h => by
    simp only [VRs] at h
    exact VRs.drop n h.2
  | [], _ :: _, _ + 1, h => by simp [VRs] at h
  | _ :: _, [], _ + 1, h => by simp [VRs] at h
theorem VRs.take : ∀ {ds : List D} {vs : List V} (n : Nat), VRs R ρ H ds vs → VRs R ρ H (ds.take n) (vs.take n)
  | _, _, 0, h => by simp [VRs]
  | [], [], _ + 1, h => h
  | d :: ds, v :: vs, n + 1, h => by
    simp only [VRs, List.take_succ_cons] at h ⊢
    exact ⟨h.1, VRs.take n h.2⟩
  | [], _ :: _, _ + 1, h => by simp [VRs] at h
  | _ :: _, [], _ + 1, h => by simp [VRs] at h
theorem VRs.reverse : ∀ {ds : List D} {vs : List V}, VRs R ρ H ds vs → VRs R ρ H ds.reverse vs.reverse
  | [], [], h => h
  | d :: ds, v :: vs, h => by
    simp only [VRs] at h
    simp only [List.reverse_cons]
    exact VRs.append (VRs.reverse h.2) (VRs.one h.1)
  | [], _ :: _, h => by simp [VRs] at h
  | _ :: _, [], h => by simp [VRs] at h
theorem VRs.set : ∀ {ds : List D} {vs : List V} (n : Nat) {d : D} {v : V}, VRs R ρ H ds vs → VR R ρ H d v → VRs R ρ H (ds.set n d) (vs.set n v)
  | [], [], _, _, _, h, _ => h
  | x :: ds, y :: vs, 0, d, v, h, k => by
    simp only [VRs, List.set_cons_zero] at h ⊢
    exact ⟨k, h.2⟩
  | x :: ds, y :: vs, n + 1, d, v, h, k => by
    simp only [VRs, List.set_cons_succ] at h ⊢
    exact ⟨h.1, VRs.set n h.2 k⟩
  | [], _ :: _, _, _, _, h, _ => by simp [VRs] at h
  | _ :: _, [], _, _, _, h, _ => by simp [VRs] at h
theorem VRs.erase : ∀ {ds : List D} {vs : List V} (n : Nat), VRs R ρ H ds vs → VRs R ρ H (ds.eraseIdx n) (vs.eraseIdx n)
  | [], [], _, h => h
  | x :: ds, y :: vs, 0, h => by
    simp only [VRs] at h
    exact h.2
  | x :: ds, y :: vs, n + 1, h => by
    simp only [VRs, List.eraseIdx_cons_succ] at h ⊢
    exact ⟨h.1, VRs.erase n h.2⟩
  | [], _ :: _, _, h => by simp [VRs] at h
  | _ :: _, [], _, h => by simp [VRs] at h
theorem VRs.dropLast {ds : List D} {vs : List V} (h : VRs R ρ H ds vs) : VRs R ρ H ds.dropLast vs.dropLast := by
  rw [List.dropLast_eq_take, List.dropLast_eq_take, h.length]
  exact h.take _
theorem VRs.rep {ds : List D} {vs : List V} (h : VRs R ρ H ds vs) : ∀ k : Nat, VRs R ρ H (List.replicate k ds).flatten (List.replicate k vs).flatten
  | 0 => by simp [VRs]
  | k + 1 => by
    simp only [List.replicate_succ, List.flatten_cons]
    exact h.append (VRs.rep h k)
theorem VRs.nil_iff {ds : List D} {vs : List V} (h : VRs R ρ H ds vs) : ds = [] ↔ vs = [] := by
  have := h.length
  constructor
  · rintro rfl
    exact List.eq_nil_of_length_eq_zero this.symm
  · rintro rfl
    exact List.eq_nil_of_length_eq_zero this
theorem VRs.empty {ds : List D} {vs : List V} (h : VRs R ρ H ds vs) : vs.isEmpty = ds.isEmpty := by
  cases ds <;> cases vs <;> simp_all [VRs]
theorem VRs.ints : ∀ {ds : List D} {vs : List V} {ns : List Int}, VRs R ρ H ds vs → ints? ds = some ns → vs = ns.map V.int ∧ ds = ns.map D.int
  | [], [], ns, _, e => by
    cases e
    exact ⟨rfl, rfl⟩
  | d :: ds, v :: vs, ns, h, e => by
    simp only [VRs] at h
    cases d with
    | int i =>
      simp only [ints?, Option.map_eq_some_iff] at e
      obtain ⟨ms, e, rfl⟩ := e
      obtain ⟨r, s⟩ := VRs.ints h.2 e
      have : v = V.int i := by simpa [VR] using h.1
      subst this r s
      exact ⟨rfl, rfl⟩
    | _ => simp [ints?] at e
  | [], _ :: _, _, h, _ => by simp [VRs] at h
  | _ :: _, [], _, h, _ => by simp [VRs] at h
theorem VRs.bls : ∀ {ds : List D} {vs : List V} {ns : List Bool}, VRs R ρ H ds vs → bls? ds = some ns → vs = ns.map V.bl ∧ ds = ns.map D.bl
  | [], [], ns, _, e => by
    cases e
    exact ⟨rfl, rfl⟩
  | d :: ds, v :: vs, ns, h, e => by
    simp only [VRs] at h
    cases d with
    | bl i =>
      simp only [bls?, Option.map_eq_some_iff] at e
      obtain ⟨ms, e, rfl⟩ := e
      obtain ⟨r, s⟩ := VRs.bls h.2 e
      have : v = V.bl i := by simpa [VR] using h.1
      subst this r s
      exact ⟨rfl, rfl⟩
    | _ => simp [bls?] at e
  | [], _ :: _, _, h, _ => by simp [VRs] at h
  | _ :: _, [], _, h, _ => by simp [VRs] at h
theorem VRs.of_ints : ∀ ns : List Int, VRs R ρ H (ns.map D.int) (ns.map V.int)
  | [] => by simp [VRs]
  | n :: ns => by
    simp only [List.map_cons, VRs]
    exact ⟨by simp [VR], VRs.of_ints ns⟩
theorem OR.ext {o : O} {a : Addr} (h : OR R ρ H o a) (e : Ext ρ H ρ' H') (k : H' a = H a) : OR R ρ' H' o a := by
  cases o with
  | lst ds =>
    obtain ⟨vs, h1, h2⟩ := h
    exact ⟨vs, k.trans h1, VRs.ext e _ _ h2⟩
  | dic kvs =>
    obtain ⟨ws, h1, h2, h3⟩ := h
    exact ⟨ws, k.trans h1, h2, VRs.ext e _ _ h3⟩
  | fdic kvs =>
    obtain ⟨o, ws, h1, h2, h3⟩ := h
    exact ⟨o, ws, k.trans h1, h2, VRs.ext e _ _ h3⟩
  | acc ds =>
    obtain ⟨vs, h1, h2⟩ := h
    exact ⟨vs, k.trans h1, VRs.ext e _ _ h2⟩
theorem OR.there {o : O} {a : Addr} (h : OR R ρ H o a) : ∃ u, H a = some u := by
  cases o with
  | lst ds =>
    obtain ⟨vs, h1, h2⟩ := h
    exact ⟨_, h1⟩
  | dic kvs =>
    obtain ⟨ws, h1, h2, h3⟩ := h
    exact ⟨_, h1⟩
  | fdic kvs =>
    obtain ⟨o, ws, h1, h2, h3⟩ := h
    exact ⟨_, h1⟩
  | acc ds =>
    obtain ⟨vs, h1, h2⟩ := h
    exact ⟨_, h1⟩
theorem MR.there (M : MR R ρ H m) {a : Addr} (h : a ∈ ρ) : ∃ u, H a = some u := by
  obtain ⟨n, hn⟩ := List.mem_iff_getElem?.mp h
  have hl : n < m.length := by
    rw [← M.len]
    exact (List.getElem?_eq_some_iff.mp hn).1
  obtain ⟨b, hb, o⟩ := M.ob n _ (List.getElem?_eq_getElem hl)
  rw [hn] at hb
  cases hb
  exact o.there
theorem MR.fresh (M : MR R ρ H m) {a : Addr} (h : H a = none) : a ∉ ρ := fun q => by
  obtain ⟨u, e⟩ := M.there q
  rw [h] at e
  cases e
/-- a new thing that is not in the memory -/
theorem MR.ext_new (M : MR R ρ H m) {p : Addr} (o : HO) (hp : H p = none) : Ext ρ H ρ (upd H p o) := ⟨List.prefix_refl _, fun _ h n => absurd h n, fun a u _ h => by
  rw [upd_ne (ne_of_none h hp)]
  exact h, fun a o' u h => by
  rw [upd_ne (ne_of_none h hp)]
  exact h⟩
theorem MR.ext (M : MR R ρ H m) (e : Ext ρ H ρ H') (k : ∀ a ∈ ρ, H' a = H a) : MR R ρ H' m := ⟨M.len, M.nd, fun n o h => by
  obtain ⟨a, ha, r⟩ := M.ob n o h
  exact ⟨a, ha, r.ext e (k a (List.mem_of_getElem? ha))⟩⟩
theorem MR.new (M : MR R ρ H m) {p : Addr} (o : HO) (hp : H p = none) : MR R ρ (upd H p o) m := M.ext (M.ext_new o hp) fun a ha => upd_ne fun q => M.fresh hp (q ▸ ha)
theorem SR.ext {env : Env} {σ : L2.St} (S : SR R ρ H m env σ) (e : Ext ρ H ρ' H') (M : MR R ρ' H' m') : SR R ρ' H' m' env σ := ⟨M, S.len, fun i d h => by
  obtain ⟨v, h1, h2⟩ := S.ev i d h
  exact ⟨v, h1, VR.ext e d v h2⟩⟩
/-- a new thing that goes into the memory -/
theorem MR.ext_add (M : MR R ρ H m) {p : Addr} (u : HO) (hp : H p = none) : Ext ρ H (ρ ++ [p]) (upd H p u) := by
  refine ⟨List.prefix_append _ _, fun a h n => ?_, fun a w n h => ?_, fun a o' w h => by rw [upd_ne (ne_of_none h hp)]; exact h⟩
  · rcases List.mem_append.mp h with hq | hq
    · exact absurd hq n
    · rw [List.mem_singleton.mp hq]
      exact hp
  · rw [upd_ne (ne_of_none h hp)]
    exact h
theorem MR.add (M : MR R ρ H m) {p : Addr} {u : HO} {o : O} (hp : H p = none) (ho : OR R (ρ ++ [p]) (upd H p u) o p) : MR R (ρ ++ [p]) (upd H p u) (m ++ [o]) := by
  refine ⟨by simp [M.len], ?_, fun n x h => ?_⟩
  · rw [List.nodup_append]
    refine ⟨M.nd, by simp, fun a ha b hb => ?_⟩
    rw [List.mem_singleton.mp hb]
    exact fun q => M.fresh hp (q ▸ ha)
  · by_cases hn : n < m.length
    · rw [List.getElem?_append_left hn] at h
      obtain ⟨a, ha, r⟩ := M.ob n x h
      refine ⟨a, ?_, r.ext (M.ext_add u hp) (upd_ne fun q => M.fresh hp (q ▸ List.mem_of_getElem? ha))⟩
      rw [List.getElem?_append_left (by rw [M.len]; exact hn)]
      exact ha
    · have e : n = m.length := by
        have := (List.getElem?_eq_some_iff.mp h).1
        simp at this
        omega
      subst e
      rw [List.getElem?_append_right (Nat.le_refl _), Nat.sub_self] at h
      cases h
      refine ⟨p, ?_, ho⟩
      rw [List.getElem?_append_right (by rw [M.len]; exact Nat.le_refl _), M.len, Nat.sub_self]
      rfl
/-- a thing of the memory changed -/
theorem MR.ext_put (M : MR R ρ H m) {p : Addr} (u : HO) (hp : p ∈ ρ) (hx : ∀ o w, H p ≠ some (.frz o w)) : Ext ρ H ρ (upd H p u) := ⟨List.prefix_refl _, fun _ h n => absurd h n, fun a w n h => by
  rw [upd_ne (show a ≠ p from fun q => n (q ▸ hp))]
  exact h, fun a o w h => by
  rw [upd_ne (show a ≠ p from fun q => hx o w (q ▸ h))]
  exact h⟩
theorem MR.put (M : MR R ρ H m) {n : Nat} {p : Addr} {u : HO} {o : O} (hp : ρ[n]? = some p) (hx : ∀ o w, H p ≠ some (.frz o w)) (ho : OR R ρ (upd H p u) o p) : MR R ρ (upd H p u) (m.set n o) := by
  have mem := List.mem_of_getElem? hp
  refine ⟨by rw [List.length_set, M.len], M.nd, fun k x h => ?_⟩
  by_cases e : n = k
  · subst e
    have hl : n < m.length := by
      rw [← M.len]
      exact (List.getElem?_eq_some_iff.mp hp).1
    rw [List.getElem?_set_self hl] at h
    cases h
    exact ⟨p, hp, ho⟩
  · rw [List.getElem?_set_ne e] at h
    obtain ⟨a, ha, r⟩ := M.ob k x h
    refine ⟨a, ha, r.ext (M.ext_put u mem hx) (upd_ne fun q => e ?_)⟩
    subst q
    obtain ⟨h1, e1⟩ := List.getElem?_eq_some_iff.mp hp
    obtain ⟨h2, e2⟩ := List.getElem?_eq_some_iff.mp ha
    exact (List.getElem_inj M.nd).mp (e1.trans e2.symm)
end
end MP

namespace MP
open PySem L2 PySem.Spec PyProof.Rows
/-! ### results of values -/
/-- a list that is given is a new one -/
def New (H : Hp) (d : D) (v : V) : Prop := ∀ ds, d = .lst ds → ∀ a, v = .ref a → H a = none
/-- what may follow a value -/
def QV (R : Rc) (ρ : List Addr) (H : Hp) (m : Mem) (d : D) (Q : VK) : Prop :=
  ∀ ρ' H' v, Ext ρ H ρ' H' → MR R ρ' H' m → VR R ρ' H' d v → New H d v → Q v H'
section
variable {R : Rc} {ρ : List Addr} {H : Hp} {m : Mem} {Q : VK} {d : D}
theorem QV.same {v : V} (h : QV R ρ H m d Q) (M : MR R ρ H m) (r : VR R ρ H d v) (n : ∀ ds, d ≠ .lst ds) : Q v H := h ρ H v Ext.refl M r fun ds e => absurd e (n ds)
theorem QV.int {i : Int} (h : QV R ρ H m (.int i) Q) (M : MR R ρ H m) : Q (.int i) H := h.same M (by simp [VR]) (by simp)
theorem QV.bl {b : Bool} (h : QV R ρ H m (.bl b) Q) (M : MR R ρ H m) : Q (.bl b) H := h.same M (by simp [VR]) (by simp)
theorem QV.str {x : Str} (h : QV R ρ H m (.str x) Q) (M : MR R ρ H m) : Q (.str x) H := h.same M (by simp [VR]) (by simp)
theorem QV.non (h : QV R ρ H m .non Q) (M : MR R ρ H m) : Q .non H := h.same M (by simp [VR]) (by simp)
/-- a new tuple -/
theorem QV.tup {ds : List D} {vs : List V} (h : QV R ρ H m (.tup ds) Q) (M : MR R ρ H m) (r : VRs R ρ H ds vs) {p : Addr} (hp : H p = none) {o : Obj} (ho : o.dict = none) : Q (.ref p) (upd H p (.frz o (.tup vs))) := by
  have e := M.ext_new (.frz o (.tup vs)) hp
  refine h ρ _ _ e (M.new _ hp) ?_ (fun ds e => by cases e)
  simp only [VR]
  exact ⟨p, vs, rfl, .inl ⟨M.fresh hp, o, ho, upd_same⟩, VRs.ext e _ _ r⟩
/-- a new list -/
theorem QV.lst {ds : List D} {vs : List V} (h : QV R ρ H m (.lst ds) Q) (M : MR R ρ H m) (r : VRs R ρ H ds vs) {p : Addr} (hp : H p = none) : Q (.ref p) (upd H p (.lst vs)) := by
  have e := M.ext_new (.lst vs) hp
  refine h ρ _ _ e (M.new _ hp) ?_ (fun ds _ a ea => by cases ea; exact hp)
  simp only [VR]
  exact ⟨p, vs, rfl, M.fresh hp, upd_same, VRs.ext e _ _ r⟩
end
section
variable {R : Rc} {ρ : List Addr} {H : Hp} {m : Mem}
theorem vr_int {i : Int} {v : V} (h : VR R ρ H (.int i) v) : v = .int i := by simpa [VR] using h
theorem vr_bl {b : Bool} {v : V} (h : VR R ρ H (.bl b) v) : v = .bl b := by simpa [VR] using h
theorem vr_str {x : Str} {v : V} (h : VR R ρ H (.str x) v) : v = .str x := by simpa [VR] using h
theorem vr_non {v : V} (h : VR R ρ H .non v) : v = .non := by simpa [VR] using h
theorem vr_tup {ds : List D} {v : V} (h : VR R ρ H (.tup ds) v) : ∃ a vs, v = .ref a ∧ TupAt R.K ρ H a vs ∧ VRs R ρ H ds vs := by simpa only [VR] using h
theorem vr_lst {ds : List D} {v : V} (h : VR R ρ H (.lst ds) v) : ∃ a vs, v = .ref a ∧ a ∉ ρ ∧ H a = some (.lst vs) ∧ VRs R ρ H ds vs := by simpa only [VR] using h
theorem vr_scr {ns : List Int} {v : V} (h : VR R ρ H (.scr ns) v) : ∃ a, v = .ref a ∧ ScrAt R.K ρ H a (ns.map V.int) := by simpa only [VR] using h
theorem vr_ref {n : Nat} {v : V} (h : VR R ρ H (.ref n) v) : ∃ a, ρ[n]? = some a ∧ v = .ref a := by simpa only [VR] using h
theorem vr_refL (M : MR R ρ H m) {n : Nat} {v : V} {ds : List D} (h : VR R ρ H (.ref n) v) (e : m[n]? = some (.lst ds)) : ∃ a vs, ρ[n]? = some a ∧ v = .ref a ∧ H a = some (.lst vs) ∧ VRs R ρ H ds vs := by
  obtain ⟨a, h1, h2⟩ := vr_ref h
  obtain ⟨b, h3, vs, h4, h5⟩ := M.ob n _ e
  rw [h1] at h3
  cases h3
  exact ⟨a, vs, h1, h2, h4, h5⟩
theorem vr_refD (M : MR R ρ H m) {n : Nat} {v : V} {kvs : List (Key × D)} (h : VR R ρ H (.ref n) v) (e : m[n]? = some (.dic kvs)) :
    ∃ (a : Addr) (ws : List (Key × V)), ρ[n]? = some a ∧ v = .ref a ∧ H a = some (.dK ws) ∧ kvs.map (·.1) = ws.map (·.1) ∧ VRs R ρ H (kvs.map (·.2)) (ws.map (·.2)) := by
  obtain ⟨a, h1, h2⟩ := vr_ref h
  obtain ⟨b, h3, ws, h4, h5, h6⟩ := M.ob n _ e
  rw [h1] at h3
  cases h3
  exact ⟨a, ws, h1, h2, h4, h5, h6⟩
theorem vr_refF (M : MR R ρ H m) {n : Nat} {v : V} {kvs : List (Key × D)} (h : VR R ρ H (.ref n) v) (e : m[n]? = some (.fdic kvs)) :
    ∃ (a : Addr) (o : Obj) (ws : List (Key × V)), ρ[n]? = some a ∧ v = .ref a ∧ H a = some (.frz o (.dK ws)) ∧ kvs.map (·.1) = ws.map (·.1) ∧ VRs R ρ H (kvs.map (·.2)) (ws.map (·.2)) := by
  obtain ⟨a, h1, h2⟩ := vr_ref h
  obtain ⟨b, h3, o, ws, h4, h5, h6⟩ := M.ob n _ e
  rw [h1] at h3
  cases h3
  exact ⟨a, o, ws, h1, h2, h4, h5, h6⟩
/-- a look into a dict that changes no more -/
theorem dgetF {H : Hp} {a : Addr} {o : Obj} {kvs : List (Key × V)} {k : Key} (e : H a = some (.frz o (.dK kvs))) : DGet H a (kV k) (valV kvs k) := .inl ⟨kvs, k, .inr ⟨o, e⟩, rfl, rfl⟩
/-- the items of a tuple or a list -/
theorem vr_seq (M : MR R ρ H m) {d : D} {v : V} {t : Bool} {ds : List D} (h : VR R ρ H d v) (e : seqV m d = some (t, ds)) :
    ∃ a vs, v = .ref a ∧ (if t = true then SqT R.K H a vs else SqL R.K H a vs) ∧ VRs R ρ H ds vs := by
  cases d with
  | tup xs =>
    cases e
    obtain ⟨a, vs, h1, h2, h3⟩ := vr_tup h
    exact ⟨a, vs, h1, h2.sq, h3⟩
  | lst xs =>
    cases e
    obtain ⟨a, vs, h1, _, h2, h3⟩ := vr_lst h
    exact ⟨a, vs, h1, .inl (.inl h2), h3⟩
  | scr ns =>
    cases e
    obtain ⟨a, h1, h2⟩ := vr_scr h
    exact ⟨a, _, h1, h2.sq, VRs.of_ints ns⟩
  | ref n =>
    simp only [seqV] at e
    split at e
    · rename_i xs e2
      cases e
      obtain ⟨a, vs, _, h1, h2, h3⟩ := vr_refL M h e2
      exact ⟨a, vs, h1, .inl (.inl h2), h3⟩
    · cases e
  | _ => cases e
end

/-! ### new tuples, known to have no dict -/
def tobj (us : List Value) : Obj := { cls := .type "tuple", data := .seq us.toArray }
theorem tnew {X : Cx} {pn : List (Addr × Obj)} {σ : L2.St} {H : Hp} {s : Shared} {ys : List V} {its : List Value} {t' : Nat} (I : L2.Inv X pn σ H s) (hv : Vals ys its) (hz : ys.length ≤ sizeLine) :
    L2.Inv X pn σ (upd H s.heap.objs.size (.frz (tobj its) (.tup ys))) { s with heap := s.heap.push (tobj its), toks := t' } :=
  I.laid (t' := t') (fun _ _ e => Heap.get?_push_of_some _ e) (Nat.le_refl _) ⟨Heap.get?_push_size _ rfl, hz, its, hv, _, Heap.get?_push_size _ rfl, rfl, _, rfl⟩
/-- t + u -/
def rCatS (K : PySem.W.Frag) : R2 := fun x y H Q => ∃ a b xs ys, x = .ref a ∧ y = .ref b ∧ SqT K H a xs ∧ SqT K H b ys ∧ xs.length + ys.length ≤ sizeLine ∧
  (xs = [] → Q (.ref b) H) ∧ (ys = [] → Q (.ref a) H) ∧ ∀ (p : Addr) (o : Obj), o.dict = none → H p = none → Q (.ref p) (upd H p (.frz o (.tup (xs ++ ys))))
theorem op_catS {X : Cx} : OpR X (binaryOp .Add) (rCatS X.K) := by
  intro pn s σ H x y v u Q I rx ry h
  obtain ⟨a, b, xs, ys, rfl, rfl, ha, hb, hz, q0, q1, q2⟩ := h
  cases rx; cases ry
  obtain ⟨i1, r1, p1, _⟩ := I.tuple ha
  obtain ⟨i2, r2, p2, _⟩ := I.tuple hb
  by_cases hx : xs = []
  · subst hx
    cases r1
    exact cat_tup0 p1 p2 ⟨.ref b, H, I, rfl, q0 rfl⟩
  · refine HT.cat_tup p1 p2 (fun z => hx (r1.nil_iff.mp z)) (fun z => ⟨.ref a, H, I, rfl, q1 (r2.nil_iff.mp z)⟩) (fun z => ?_) (by rw [← r1.length, ← r2.length]; exact hz)
    exact ⟨.ref s.heap.objs.size, _, tnew (t' := s.toks) I (r1.append r2) (by rw [List.length_append]; exact hz), rfl, q2 _ _ rfl (I.hok.fresh (Nat.le_refl _))⟩
/-- t * k -/
def rRepS (K : PySem.W.Frag) : R2 := fun x y H Q => ∃ l k xs, x = .ref l ∧ y = .int k ∧ SqT K H l xs ∧ xs ≠ [] ∧ 2 ≤ k ∧ k ≤ 1000 ∧ xs.length ≤ 1000 ∧ ∀ (p : Addr) (o : Obj), o.dict = none → H p = none → Q (.ref p) (upd H p (.frz o (.tup (List.replicate k.toNat xs).flatten)))
theorem op_repS {X : Cx} : OpR X (binaryOp .Mult) (rRepS X.K) := by
  intro pn s σ H x y v u Q I rx ry h
  obtain ⟨l, k, xs, rfl, rfl, hT, hne, h1, h2, hz, q⟩ := h
  cases rx
  obtain ⟨t, rfl⟩ := ry
  obtain ⟨its, r, ⟨⟨cls, dd, data, sl⟩, ho, hc, n, hd⟩, hs⟩ := I.tuple hT
  simp only at hc hd
  subst hc hd
  have ln : its.length = xs.length := r.length.symm
  have hn : its ≠ [] := fun e => by
    subst e
    exact hne (List.eq_nil_of_length_eq_zero ln.symm)
  have hi : its.toArray.isEmpty = false := by cases its with | nil => exact absurd rfl hn | cons a b => rfl
  have sz : its.toArray.size = xs.length := by simp [ln]
  have hm : ((its.toArray.size : Nat) : Int) * k ≤ 1000000 := by
    rw [sz]
    have : ((xs.length : Nat) : Int) * k ≤ 1000 * k := Int.mul_le_mul_of_nonneg_right (by omega) (by omega)
    omega
  have zl : sizeLine = 16777216 := sizeLine_eq
  have fl : (List.replicate k.toNat its).flatten.length ≤ 1000000 := by
    rw [PyProof.Rows.lm_len_rep_flat, ln]
    exact Nat.mul_le_mul (show k.toNat ≤ 1000 by omega) hz
  have fx : (List.replicate k.toNat xs).flatten.length ≤ sizeLine := by
    rw [PyProof.Rows.lm_len_rep_flat, ← ln, ← PyProof.Rows.lm_len_rep_flat]
    omega
  have c0 : (decide (k < -(2 ^ 63)) || decide (k ≥ 2 ^ 63)) = false := by simp; omega
  have c1 : (its.toArray.isEmpty || k == 1) = false := by simp [hn]; omega
  have c2 : (decide (k ≤ 0) || its.toArray.isEmpty) = false := by simp [hn]; omega
  have c4 : Builtin.Tuple.tupleTooMany (((its.toArray.size : Nat) : Int) * k) = false := by
    unfold Builtin.Tuple.tupleTooMany
    exact decide_eq_false (by omega)
  refine wpAny_binaryOp_repeat_ref (T := "tuple") (U := "int") (by decide) ⟨_, ho, rfl⟩ (fun s' => typeIs_int s' k t) noFill_tuple_mul F.fills_int_mul F.slot_int_rmul repeat_tuple F.slot_int_index.lookup
    (call_meets F.slot_int_rmul (typeIs_int s k t) F.entry_int_rmul (F.args_int_rmul_2 _ _) (int_rmul_tuple k t l its.toArray n dd sl) ⟨ho, rfl, ⟨_, ho, rfl⟩, ?_⟩)
  refine call_meets F.slot_tuple_mul ⟨_, ho, rfl⟩ F.entry_tuple_mul (F.args_tuple_mul_2 _ _) (tuple_mulW l its.toArray n dd sl k t c0 c1 c2 (by omega) c4 (by rw [size_rep]; simp only [List.size_toArray]; omega)) ⟨ho, ?_⟩
  rw [size_rep]
  exact ⟨.ref s.heap.objs.size, _, tnew (t' := s.toks) I (r.rep k.toNat) fx, rfl, q _ _ rfl (I.hok.fresh (Nat.le_refl _))⟩

/-! ### operators -/
theorem mul_fit {i j : Int} (h : mulOk i j = true) : CMulX i j := by
  unfold mulOk at h
  have h2 := of_decide_eq_true h
  have b : ∀ x : Int, Builtin.Int.intBits x ≤ x.natAbs.log2 + 1 := fun x => by
    unfold Builtin.Int.intBits; split <;> omega
  have b1 := b i; have b2 := b j
  unfold CMulX
  omega
def BO.op : BO → Operator
  | .add => .Add | .sub => .Sub | .mul => .Mult | .fdiv => .FloorDiv | .mod => .Mod | .pow => .Pow
/-- a op b by our values -/
def rB (R : Rc) (o : BO) : R2 := fun x y H Q => ∃ ρ m a b d, MR R ρ H m ∧ VR R ρ H a x ∧ VR R ρ H b y ∧ binV o m a b = some d ∧ QV R ρ H m d Q
section
variable {X : Cx} {R : Rc}
theorem op_bo (hK : X.K = R.K) (o : BO) : OpR X (binaryOp o.op) (rB R o) := by
  intro pn s σ H x y v u Q I rx ry h
  obtain ⟨ρ, m, a, b, d, M, va, vb, e, q⟩ := h
  unfold binV at e
  split at e
  · cases e
    rw [vr_int va] at rx
    rw [vr_int vb] at ry
    exact op_add pn s σ H _ _ _ _ Q I rx ry ⟨_, _, rfl, rfl, q.int M⟩
  · split at e
    · rename_i hl
      cases e
      rw [vr_str va] at rx
      rw [vr_str vb] at ry
      exact op_add_str pn s σ H _ _ _ _ Q I rx ry ⟨_, _, rfl, rfl, hl, q.str M⟩
    · cases e
  · split at e
    · rename_i xs ys hl
      cases e
      obtain ⟨p, vs, rfl, t1, r1⟩ := vr_tup va
      obtain ⟨p2, ws, rfl, t2, r2⟩ := vr_tup vb
      refine op_catS pn s σ H _ _ _ _ Q I rx ry ?_
      have l1 := r1.length
      have l2 := r2.length
      refine ⟨p, p2, vs, ws, rfl, rfl, hK ▸ t1.sq, hK ▸ t2.sq, by omega, fun e => ?_, fun e => ?_, fun p' o ho hp => q.tup M (r1.append r2) hp ho⟩
      · rw [r1.nil_iff.mpr e] at q
        exact q.same M vb (by simp)
      · rw [r2.nil_iff.mpr e, List.append_nil] at q
        exact q.same M va (by simp)
    · cases e
  · split at e
    · rename_i xs ys hl
      cases e
      obtain ⟨p, vs, rfl, _, t1, r1⟩ := vr_lst va
      obtain ⟨p2, ws, rfl, _, t2, r2⟩ := vr_lst vb
      have l1 := r1.length
      have l2 := r2.length
      exact op_cat pn s σ H _ _ _ _ Q I rx ry ⟨p, p2, vs, ws, rfl, rfl, t1, t2, by omega, fun p' hp => q.lst M (r1.append r2) hp⟩
    · cases e
  · split at e
    · rename_i xs e2
      split at e
      · rename_i hl
        cases e
        obtain ⟨p, vs, _, rfl, t1, r1⟩ := vr_refL M va e2
        obtain ⟨p2, ws, rfl, _, t2, r2⟩ := vr_lst vb
        have l1 := r1.length
        have l2 := r2.length
        exact op_cat pn s σ H _ _ _ _ Q I rx ry ⟨p, p2, vs, ws, rfl, rfl, t1, t2, by omega, fun p' hp => q.lst M (r1.append r2) hp⟩
      · cases e
    · cases e
  · cases e
    rw [vr_int va] at rx
    rw [vr_int vb] at ry
    exact op_sub pn s σ H _ _ _ _ Q I rx ry ⟨_, _, rfl, rfl, q.int M⟩
  · split at e
    · rename_i hl
      cases e
      rw [vr_int va] at rx
      rw [vr_int vb] at ry
      exact op_mulX pn s σ H _ _ _ _ Q I rx ry ⟨_, _, rfl, rfl, mul_fit hl, q.int M⟩
    · cases e
  · split at e
    · rename_i xs k hl
      cases e
      simp only [Bool.and_eq_true, decide_eq_true_eq] at hl
      obtain ⟨⟨⟨h1, h2⟩, h3⟩, h4⟩ := hl
      obtain ⟨p, vs, rfl, t1, r1⟩ := vr_tup va
      rw [vr_int vb] at ry
      have l1 := r1.length
      exact op_repS pn s σ H _ _ _ _ Q I rx ry ⟨p, k, vs, rfl, rfl, hK ▸ t1.sq, fun z => h1 (r1.nil_iff.mpr z), h2, h3, by omega, fun p' o ho hp => q.tup M (r1.rep _) hp ho⟩
    · cases e
  · split at e
    · rename_i xs k hl
      cases e
      simp only [Bool.and_eq_true, decide_eq_true_eq] at hl
      obtain ⟨⟨h1, h2⟩, h3⟩ := hl
      obtain ⟨p, vs, rfl, _, t1, r1⟩ := vr_lst va
      rw [vr_int vb] at ry
      have l1 := r1.length
      exact op_rep pn s σ H _ _ _ _ Q I rx ry ⟨p, k, vs, rfl, rfl, t1, h1, h2, by rw [← l1]; exact h3, fun p' hp => q.lst M (r1.rep _) hp⟩
    · cases e
  · split at e
    · rename_i hl
      cases e
      simp only [Bool.and_eq_true, decide_eq_true_eq] at hl
      rw [vr_int va] at rx
      rw [vr_int vb] at ry
      exact op_fdivW pn s σ H _ _ _ _ Q I rx ry ⟨_, _, rfl, rfl, hl, q.int M⟩
    · cases e
  · split at e
    · rename_i hl
      cases e
      rw [vr_int va] at rx
      rw [vr_int vb] at ry
      exact op_mod pn s σ H _ _ _ _ Q I rx ry ⟨_, _, rfl, rfl, hl, q.int M⟩
    · cases e
  · split at e
    · rename_i hl
      cases e
      simp only [Bool.and_eq_true, decide_eq_true_eq] at hl
      rw [vr_int va] at rx
      rw [vr_int vb] at ry
      exact op_pow pn s σ H _ _ _ _ Q I rx ry ⟨_, _, rfl, rfl, ⟨hl.1.1, hl.1.2, hl.2⟩, q.int M⟩
    · cases e
  · cases e

/-! ### data at any depth -/
section
variable {ρ : List Addr} {H : Hp} {m : Mem}
mutual
theorem dp_of (hK : X.K = R.K) : ∀ (d : D) (v : V) (x : PyData), VR R ρ H d v → pd0 d = some x → Dp X.K H v x
  | .non, v, x, h, e => by
    cases e
    rw [vr_non h]
    exact .non
  | .bl b, v, x, h, e => by
    cases e
    rw [vr_bl h]
    exact .bl b
  | .int b, v, x, h, e => by
    cases e
    rw [vr_int h]
    exact .int b
  | .str b, v, x, h, e => by
    cases e
    rw [vr_str h]
    exact .str b
  | .tup ds, v, x, h, e => by
    simp only [pd0, Option.map_eq_some_iff] at e
    obtain ⟨xs, e, rfl⟩ := e
    obtain ⟨p, vs, rfl, t, r⟩ := vr_tup h
    exact .tup (hK ▸ t.sq) (dps_of hK ds vs xs r e)
  | .lst ds, v, x, h, e => by
    simp only [pd0, Option.map_eq_some_iff] at e
    obtain ⟨xs, e, rfl⟩ := e
    obtain ⟨p, vs, rfl, _, t, r⟩ := vr_lst h
    exact .lst (.inl (.inl t)) (dps_of hK ds vs xs r e)
  | .wtup ds, v, x, h, e => by cases e
  | .scr ns, v, x, h, e => by
    cases e
    obtain ⟨p, rfl, t⟩ := vr_scr h
    refine .lst (hK ▸ t.sq) ?_
    clear h t
    induction ns with
    | nil => exact .nil
    | cons n ns ih => exact .cons (.int n) ih
  | .ref _, _, _, _, e => by cases e
  | .fn _, _, _, _, e => by cases e
  | .ty _, _, _, _, e => by cases e
theorem dps_of (hK : X.K = R.K) : ∀ (ds : List D) (vs : List V) (xs : List PyData), VRs R ρ H ds vs → pd0s ds = some xs → DpAll X.K H vs xs
  | [], [], xs, h, e => by
    cases e
    exact .nil
  | d :: ds, v :: vs, xs, h, e => by
    simp only [VRs] at h
    simp only [pd0s] at e
    split at e
    · rename_i x hx
      simp only [Option.map_eq_some_iff] at e
      obtain ⟨ys, e, rfl⟩ := e
      exact .cons (dp_of hK d v x h.1 hx) (dps_of hK ds vs ys h.2 e)
    · cases e
  | [], _ :: _, _, h, _ => by simp [VRs] at h
  | _ :: _, [], _, h, _ => by simp [VRs] at h
end
theorem dp_ofV (hK : X.K = R.K) (M : MR R ρ H m) {d : D} {v : V} {x : PyData} (h : VR R ρ H d v) (e : pdV m d = some x) : Dp X.K H v x := by
  cases d with
  | ref n =>
    simp only [pdV] at e
    split at e
    · rename_i ds e2
      simp only [Option.map_eq_some_iff] at e
      obtain ⟨xs, e, rfl⟩ := e
      obtain ⟨p, vs, _, rfl, t, r⟩ := vr_refL M h e2
      exact .lst (.inl (.inl t)) (dps_of hK ds vs xs r e)
    · cases e
  | _ => exact dp_of hK _ v x h e
end
def CO.op : CO → CmpOp
  | .eq => .Eq | .ne => .NotEq | .lt => .Lt | .le => .LtE | .gt => .Gt | .ge => .GtE | .isN => .Is | .notN => .IsNot | .inn => .In | .notIn => .NotIn
/-- a comparison by our values -/
def rC (R : Rc) (o : CO) : R2 := fun x y H Q => ∃ ρ m a b c, MR R ρ H m ∧ VR R ρ H a x ∧ VR R ρ H b y ∧ cmpV o m a b = some c ∧ Q (.bl c) H
theorem inV_ints : ∀ (ns : List Int) (i : Int), inV (.int i) (ns.map V.int) = ns.any fun z => z == i
  | [], _ => rfl
  | n :: ns, i => by
    have ih := inV_ints ns i
    unfold inV at ih ⊢
    rw [List.map_cons, List.any_cons, List.any_cons, ih]
    rfl
theorem flat_ints : ∀ ns : List Int, (ns.map V.int).all flatV = true
  | [] => rfl
  | n :: ns => by
    rw [List.map_cons, List.all_cons, flat_ints ns]
    rfl
theorem valV_rel {ρ : List Addr} {H : Hp} (k : Key) : ∀ {kvs : List (Key × D)} {ws : List (Key × V)}, kvs.map (·.1) = ws.map (·.1) → VRs R ρ H (kvs.map (·.2)) (ws.map (·.2)) →
    (getD? kvs k = none ∧ valV ws k = none) ∨ ∃ d v, getD? kvs k = some d ∧ valV ws k = some v ∧ VR R ρ H d v
  | [], [], _, _ => .inl ⟨rfl, rfl⟩
  | p :: kvs, q :: ws, h1, h2 => by
    simp only [List.map_cons, List.cons.injEq, VRs] at h1 h2
    have ih := valV_rel k h1.2 h2.2
    unfold getD? valV at ih ⊢
    by_cases e : p.1 = k
    · refine .inr ⟨p.2, q.2, ?_, ?_, h2.1⟩
      · simp [List.find?_cons, e]
      · simp [List.find?_cons, ← h1.1, e]
    · simp only [List.find?_cons, ← h1.1, e, decide_false]
      exact ih
  | [], _ :: _, h, _ => by simp at h
  | _ :: _, [], h, _ => by simp at h
theorem key_rel {ρ : List Addr} {H : Hp} {d : D} {v : V} {k : Key} (h : VR R ρ H d v) (e : key? d = some k) : v = kV k := by
  cases d with
  | int i =>
    cases e
    exact vr_int h
  | str i =>
    cases e
    exact vr_str h
  | _ => cases e
theorem getD_val {ρ : List Addr} {H : Hp} {k : Key} {kvs : List (Key × D)} {ws : List (Key × V)} (h1 : kvs.map (·.1) = ws.map (·.1)) (h2 : VRs R ρ H (kvs.map (·.2)) (ws.map (·.2))) : (getD? kvs k).isSome = (valV ws k).isSome := by
  rcases valV_rel k h1 h2 with ⟨a, b⟩ | ⟨d, v, a, b, _⟩ <;> rw [a, b] <;> rfl
end
end MP

namespace MP
open PySem L2 PySem.Spec PyProof.Rows
section
variable {X : Cx} {R : Rc}
/-! ### comparisons -/
theorem tail_tup_in {ns : List Int} {i : Int} : (inV (.int i) (ns.map V.int)) = ns.any fun z => z == i := inV_ints ns i
theorem isNon_rel {ρ : List Addr} {H : Hp} {a : D} {x : V} (va : VR R ρ H a x) : decide (x = V.non) = isNonD a := by
  cases a with
  | non => rw [vr_non va]; rfl
  | bl _ => rw [vr_bl va]; rfl
  | int _ => rw [vr_int va]; rfl
  | str _ => rw [vr_str va]; rfl
  | tup _ => obtain ⟨p, _, rfl, _⟩ := vr_tup va; rfl
  | lst _ => obtain ⟨p, _, rfl, _⟩ := vr_lst va; rfl
  | scr _ => obtain ⟨p, rfl, _⟩ := vr_scr va; rfl
  | ref _ => obtain ⟨p, _, rfl⟩ := vr_ref va; rfl
  | fn f => simp only [VR] at va; obtain ⟨p, _, rfl⟩ := va; rfl
  | ty f => simp only [VR] at va; subst va; rfl
  | wtup f => simp only [VR] at va; obtain ⟨p, _, rfl, _⟩ := va; rfl
theorem op_co (hK : X.K = R.K) (hu : X.A.units + 66 < cLine) (o : CO) : OpR X (compareOp o.op) (rC R o) := by
  intro pn s σ H x y v u Q I rx ry h
  obtain ⟨ρ, m, a, b, c, M, va, vb, e, q⟩ := h
  have hu64 : X.A.units + 64 < cLine := by omega
  have hu65 : X.A.units + 65 < cLine := by omega
  have hu1 : X.A.units + 1 < cLine := by omega
  cases o with
  | eq =>
    simp only [cmpV, eqV2] at e
    split at e
    · rename_i d1 d2 e1 e2
      split at e
      · rename_i hs
        cases e
        simp only [Bool.and_eq_true] at hs
        exact op_eqD hu64 pn s σ H _ _ _ _ Q I rx ry ⟨d1, d2, dp_ofV hK M va e1, dp_ofV hK M vb e2, hs.1, hs.2, q⟩
      · cases e
    · cases e
  | ne =>
    simp only [cmpV, eqV2, Option.map_eq_some_iff] at e
    obtain ⟨c', e, rfl⟩ := e
    split at e
    · rename_i d1 d2 e1 e2
      split at e
      · rename_i hs
        cases e
        simp only [Bool.and_eq_true] at hs
        exact op_neD hu64 pn s σ H _ _ _ _ Q I rx ry ⟨d1, d2, dp_ofV hK M va e1, dp_ofV hK M vb e2, hs.1, hs.2, q⟩
      · cases e
    · cases e
  | lt =>
    simp only [cmpV] at e
    split at e
    · cases e
      rw [vr_int va] at rx
      rw [vr_int vb] at ry
      exact op_lt pn s σ H _ _ _ _ Q I rx ry ⟨_, _, rfl, rfl, q⟩
    · cases e
  | le =>
    simp only [cmpV] at e
    split at e
    · cases e
      rw [vr_int va] at rx
      rw [vr_int vb] at ry
      exact op_le pn s σ H _ _ _ _ Q I rx ry ⟨_, _, rfl, rfl, q⟩
    · cases e
  | gt =>
    simp only [cmpV] at e
    split at e
    · cases e
      rw [vr_int va] at rx
      rw [vr_int vb] at ry
      exact op_gt pn s σ H _ _ _ _ Q I rx ry ⟨_, _, rfl, rfl, q⟩
    · cases e
  | ge =>
    simp only [cmpV] at e
    split at e
    · cases e
      rw [vr_int va] at rx
      rw [vr_int vb] at ry
      exact op_ge pn s σ H _ _ _ _ Q I rx ry ⟨_, _, rfl, rfl, q⟩
    · cases e
  | isN =>
    simp only [cmpV] at e
    split at e
    · cases e
      rw [vr_non vb] at ry
      refine op_isN pn s σ H _ _ _ _ Q I rx ry ⟨rfl, ?_⟩
      have := isNon_rel va
      rw [this]
      exact q
    · cases e
  | notN =>
    simp only [cmpV] at e
    split at e
    · cases e
      rw [vr_non vb] at ry
      refine op_notN pn s σ H _ _ _ _ Q I rx ry ⟨rfl, ?_⟩
      have := isNon_rel va
      rw [this]
      exact q
    · cases e
  | inn =>
    simp only [cmpV, inV2] at e
    split at e
    · rename_i n
      split at e
      · rename_i kvs e2
        split at e
        · rename_i k hk
          cases e
          obtain ⟨p, ws, _, rfl, t, r1, r2⟩ := vr_refD M vb e2
          rw [key_rel va hk] at rx
          cases ry
          rw [getD_val r1 r2] at q
          exact d_in hu1 I (DGet.k t) rx fun s' I' => ⟨.bl _, H, I', rfl, q⟩
        · cases e
      · rename_i kvs e2
        split at e
        · rename_i k hk
          cases e
          obtain ⟨p, od, ws, _, rfl, t, r1, r2⟩ := vr_refF M vb e2
          rw [key_rel va hk] at rx
          cases ry
          rw [getD_val r1 r2] at q
          exact d_in hu1 I (dgetF t) rx fun s' I' => ⟨.bl _, H, I', rfl, q⟩
        · cases e
      · rename_i ds e2
        split at e
        · rename_i d1 ys e3 e4
          split at e
          · rename_i hs
            cases e
            simp only [Bool.and_eq_true] at hs
            obtain ⟨p, vs, _, rfl, t, r⟩ := vr_refL M vb e2
            exact op_inD hu65 pn s σ H _ _ _ _ Q I rx ry ⟨d1, ys, dp_of hK _ _ _ va e3, .lst (.inl (.inl t)) (dps_of hK _ _ _ r e4), hs.1, hs.2, q⟩
          · cases e
        · cases e
      · cases e
    · rename_i ds
      split at e
      · rename_i d1 ys e3 e4
        split at e
        · rename_i hs
          cases e
          simp only [Bool.and_eq_true] at hs
          obtain ⟨p, vs, rfl, _, t, r⟩ := vr_lst vb
          exact op_inD hu65 pn s σ H _ _ _ _ Q I rx ry ⟨d1, ys, dp_of hK _ _ _ va e3, .lst (.inl (.inl t)) (dps_of hK _ _ _ r e4), hs.1, hs.2, q⟩
        · cases e
      · cases e
    · rename_i ds
      split at e
      · rename_i i ns e3
        cases e
        obtain ⟨p, vs, rfl, t, r⟩ := vr_tup vb
        obtain ⟨rfl, rfl⟩ := r.ints e3
        rw [vr_int va] at rx
        refine op_in_seq pn s σ H _ _ _ _ Q I rx ry ⟨p, _, rfl, .inr (hK ▸ t.sq), rfl, flat_ints _, ?_⟩
        rw [inV_ints]
        exact q
      · cases e
    · cases e
  | notIn =>
    simp only [cmpV, inV2, Option.map_eq_some_iff] at e
    obtain ⟨c', e, rfl⟩ := e
    split at e
    · rename_i n
      split at e
      · rename_i kvs e2
        split at e
        · rename_i k hk
          cases e
          obtain ⟨p, ws, _, rfl, t, r1, r2⟩ := vr_refD M vb e2
          rw [key_rel va hk] at rx
          cases ry
          rw [getD_val r1 r2] at q
          exact d_notIn hu1 I (DGet.k t) rx fun s' I' => ⟨.bl _, H, I', rfl, q⟩
        · cases e
      · rename_i kvs e2
        split at e
        · rename_i k hk
          cases e
          obtain ⟨p, od, ws, _, rfl, t, r1, r2⟩ := vr_refF M vb e2
          rw [key_rel va hk] at rx
          cases ry
          rw [getD_val r1 r2] at q
          exact d_notIn hu1 I (dgetF t) rx fun s' I' => ⟨.bl _, H, I', rfl, q⟩
        · cases e
      · rename_i ds e2
        split at e
        · rename_i d1 ys e3 e4
          split at e
          · rename_i hs
            cases e
            simp only [Bool.and_eq_true] at hs
            obtain ⟨p, vs, _, rfl, t, r⟩ := vr_refL M vb e2
            exact op_notInD hu65 pn s σ H _ _ _ _ Q I rx ry ⟨d1, ys, dp_of hK _ _ _ va e3, .lst (.inl (.inl t)) (dps_of hK _ _ _ r e4), hs.1, hs.2, q⟩
          · cases e
        · cases e
      · cases e
    · rename_i ds
      split at e
      · rename_i d1 ys e3 e4
        split at e
        · rename_i hs
          cases e
          simp only [Bool.and_eq_true] at hs
          obtain ⟨p, vs, rfl, _, t, r⟩ := vr_lst vb
          exact op_notInD hu65 pn s σ H _ _ _ _ Q I rx ry ⟨d1, ys, dp_of hK _ _ _ va e3, .lst (.inl (.inl t)) (dps_of hK _ _ _ r e4), hs.1, hs.2, q⟩
        · cases e
      · cases e
    · rename_i ds
      split at e
      · rename_i i ns e3
        cases e
        obtain ⟨p, vs, rfl, t, r⟩ := vr_tup vb
        obtain ⟨rfl, rfl⟩ := r.ints e3
        rw [vr_int va] at rx
        refine op_notIn_seq pn s σ H _ _ _ _ Q I rx ry ⟨p, _, rfl, .inr (hK ▸ t.sq), rfl, flat_ints _, ?_⟩
        rw [inV_ints]
        exact q
      · cases e
    · cases e

/-! ### truth -/
theorem tru_rel (hK : X.K = R.K) {ρ : List Addr} {H : Hp} {m : Mem} {d : D} {v : V} {b : Bool} (M : MR R ρ H m) (h : VR R ρ H d v) (e : truV m d = some b) : TruV X.K v H b := by
  cases d with
  | non => cases e; rw [vr_non h]; rfl
  | bl _ => cases e; rw [vr_bl h]; rfl
  | int _ => cases e; rw [vr_int h]; rfl
  | str x =>
    simp only [truV] at e
    split at e
    · rename_i hl
      cases e
      rw [vr_str h]
      exact ⟨hl, rfl⟩
    · cases e
  | tup ds =>
    cases e
    obtain ⟨p, vs, rfl, t, r⟩ := vr_tup h
    exact .inr (.inl ⟨vs, hK ▸ t.sq, by rw [r.empty]⟩)
  | lst ds =>
    cases e
    obtain ⟨p, vs, rfl, _, t, r⟩ := vr_lst h
    exact .inl ⟨vs, .inl (.inl t), by rw [r.empty]⟩
  | scr ns =>
    cases e
    obtain ⟨p, rfl, t⟩ := vr_scr h
    exact .inl ⟨_, hK ▸ t.sq, by cases ns <;> rfl⟩
  | ref n =>
    simp only [truV] at e
    split at e
    · rename_i ds e2
      cases e
      obtain ⟨p, vs, _, rfl, t, r⟩ := vr_refL M h e2
      exact .inl ⟨vs, .inl (.inl t), by rw [r.empty]⟩
    · rename_i kvs e2
      cases e
      obtain ⟨p, ws, _, rfl, t, r1, r2⟩ := vr_refD M h e2
      refine .inr (.inr ⟨ws, t, ?_⟩)
      have := congrArg List.length r1
      simp only [List.length_map] at this
      cases kvs <;> cases ws <;> simp_all
    · cases e
  | _ => cases e

/-! ### subscripts -/
/-- o[i] by our values -/
def rX (R : Rc) : R2 := fun x y H Q => ∃ ρ m a b d, MR R ρ H m ∧ VR R ρ H a x ∧ VR R ρ H b y ∧ ixV m a b = some d ∧ ∀ v, VR R ρ H d v → Q v H
theorem atI_rel {ρ : List Addr} {H : Hp} {ds : List D} {vs : List V} {i : Int} {d : D} (r : VRs R ρ H ds vs) (e : atI ds i = some d) : ∃ v, atI vs i = some v ∧ VR R ρ H d v := by
  unfold atI at e ⊢
  rw [← r.length]
  cases h : ixN ds.length i with
  | none => rw [h] at e; cases e
  | some j =>
    rw [h] at e
    exact r.get e
theorem ix_ok (hK : X.K = R.K) (hu : X.A.units + 1 < cLine) : IxR X (rX R) := by
  intro value slice pn s σ H x y v u Q I rx ry h hs
  obtain ⟨ρ, m, a, b, d, M, va, vb, e, q⟩ := h
  unfold ixV at e
  split at e
  · obtain ⟨p, vs, rfl, t, r⟩ := vr_tup va
    obtain ⟨w, ew, rw'⟩ := atI_rel r e
    rw [vr_int vb] at ry
    exact ix_tup value slice pn s σ H _ _ _ _ Q I rx ry ⟨p, vs, _, w, rfl, rfl, hK ▸ t.sq, ew, q _ rw'⟩ hs
  · obtain ⟨p, vs, rfl, _, t, r⟩ := vr_lst va
    obtain ⟨w, ew, rw'⟩ := atI_rel r e
    rw [vr_int vb] at ry
    exact ix_list value slice pn s σ H _ _ _ _ Q I rx ry ⟨p, vs, _, w, rfl, rfl, .inl (.inl t), ew, q _ rw'⟩ hs
  · rename_i ns i
    simp only [Option.map_eq_some_iff] at e
    obtain ⟨k, e, rfl⟩ := e
    obtain ⟨p, rfl, t⟩ := vr_scr va
    have e2 : atI (ns.map D.int) i = some (.int k) := by
      unfold atI at e ⊢
      rw [List.length_map]
      cases h : ixN ns.length i with
      | none => rw [h] at e; cases e
      | some j =>
        rw [h] at e
        show (ns.map D.int)[j]? = _
        rw [List.getElem?_map, show ns[j]? = some k from e]
        rfl
    obtain ⟨w, ew, rw'⟩ := atI_rel (VRs.of_ints (R := R) (ρ := ρ) (H := H) ns) e2
    rw [vr_int vb] at ry
    exact ix_list value slice pn s σ H _ _ _ _ Q I rx ry ⟨p, _, _, w, rfl, rfl, hK ▸ t.sq, ew, q _ rw'⟩ hs
  · split at e
    · rename_i hl
      simp only [Option.map_eq_some_iff] at e
      obtain ⟨c, e, rfl⟩ := e
      rw [vr_str va] at rx
      rw [vr_int vb] at ry
      exact ix_str value slice pn s σ H _ _ _ _ Q I rx ry ⟨_, _, c, rfl, rfl, hl, e, q _ (by simp [VR])⟩ hs
    · cases e
  · split at e
    · rename_i ds e2
      split at e
      · obtain ⟨p, vs, _, rfl, t, r⟩ := vr_refL M va e2
        obtain ⟨w, ew, rw'⟩ := atI_rel r e
        rw [vr_int vb] at ry
        exact ix_list value slice pn s σ H _ _ _ _ Q I rx ry ⟨p, vs, _, w, rfl, rfl, .inl (.inl t), ew, q _ rw'⟩ hs
      · cases e
    · rename_i kvs e2
      split at e
      · rename_i k hk
        obtain ⟨p, ws, _, rfl, t, r1, r2⟩ := vr_refD M va e2
        rw [key_rel vb hk] at ry
        cases rx
        rcases valV_rel k r1 r2 with ⟨e3, _⟩ | ⟨d', w, e3, e4, rw'⟩
        · rw [e3] at e
          cases e
        · rw [e3] at e
          cases e
          have g : DGet H p (kV k) (some w) := by
            rw [← e4]
            exact DGet.k t
          exact tail_any (dict_typeIs I g) PySem.F.slot_dict_getitem.lookup (d_getItem hu I g ry fun w' s' I' rw2 => ⟨w, H, I', rw2, q _ rw'⟩) hs
      · cases e
    · rename_i kvs e2
      split at e
      · rename_i k hk
        obtain ⟨p, od, ws, _, rfl, t, r1, r2⟩ := vr_refF M va e2
        rw [key_rel vb hk] at ry
        cases rx
        rcases valV_rel k r1 r2 with ⟨e3, _⟩ | ⟨d', w, e3, e4, rw'⟩
        · rw [e3] at e
          cases e
        · rw [e3] at e
          cases e
          have g : DGet H p (kV k) (some w) := by
            rw [← e4]
            exact dgetF t
          exact tail_any (dict_typeIs I g) PySem.F.slot_dict_getitem.lookup (d_getItem hu I g ry fun w' s' I' rw2 => ⟨w, H, I', rw2, q _ rw'⟩) hs
      · cases e
    · cases e
  · cases e
/-- o[lo:hi] by our values -/
def rS (R : Rc) : V → Option Int → Option Int → Hp → VK → Prop := fun x lo hi H Q => ∃ ρ m a d, MR R ρ H m ∧ VR R ρ H a x ∧ slV m a lo hi = some d ∧ QV R ρ H m d Q
theorem cut_rel {ρ : List Addr} {H : Hp} {ds : List D} {vs : List V} (lo hi : Option Int) (r : VRs R ρ H ds vs) : VRs R ρ H (cutD ds lo hi) (cutV vs lo hi) := by
  unfold cutD cutV
  rw [r.length]
  exact (r.drop _).take _
theorem cut_map {α β : Type} (f : α → β) (xs : List α) (lo hi : Option Int) : cutD (xs.map f) lo hi = (cutD xs lo hi).map f := by
  unfold cutD
  rw [List.length_map, List.drop_eq_drop_iff.mpr rfl]
  simp [List.map_drop, List.map_take]
/-- t[lo:hi]: the whole of it is t itself -/
def rSlS (K : PySem.W.Frag) : V → Option Int → Option Int → Hp → VK → Prop := fun x lo hi H Q => ∃ a xs, x = .ref a ∧ SqT K H a xs ∧
  (HT.sIx xs.length 0 lo = 0 ∧ HT.sIx xs.length xs.length hi = xs.length → Q (.ref a) H) ∧ ∀ (p : Addr) (o : Obj), o.dict = none → H p = none → Q (.ref p) (upd H p (.frz o (.tup (cutV xs lo hi))))
theorem sl_tupS : SlR X (rSlS X.K) := by
  intro pn s σ H x v vl vu lo hi sl Q I rx hs pl pu h
  obtain ⟨a, xs, rfl, hx, q1, q2⟩ := h
  cases rx
  obtain ⟨its, r, ht, hz⟩ := I.tuple hx
  have ln : its.toArray.size = xs.length := by rw [List.size_toArray, ← r.length]
  refine ⟨"tuple", _, PyProof.Rows.slot_tuple_getitem.lookup, ht.typeIs, ?_⟩
  by_cases hw : HT.sIx xs.length 0 lo = 0 ∧ HT.sIx xs.length xs.length hi = xs.length
  · exact getItem_tuple_whole ht hs pl pu (by rw [ln]; exact hw) ⟨.ref a, H, I, rfl, q1 hw⟩
  · refine HT.getItem_tuple_cut ht hs pl pu (by rw [ln]; exact hw) ?_ (by rw [ln]; exact hz)
    rw [ln]
    exact ⟨.ref s.heap.objs.size, _, tnew (t' := s.toks) (ys := cutV xs lo hi) I ((r.drop _).take _) (Nat.le_trans (cutV_length xs lo hi) hz), rfl, q2 _ _ rfl (I.hok.fresh (Nat.le_refl _))⟩
theorem sl_ok (hK : X.K = R.K) : SlR X (rS R) := by
  intro pn s σ H x v vl vu lo hi sl Q I rx hs pl pu h
  obtain ⟨ρ, m, a, d, M, va, e, q⟩ := h
  unfold slV at e
  split at e
  · rename_i ds
    cases e
    obtain ⟨p, vs, rfl, t, r⟩ := vr_tup va
    refine sl_tupS pn s σ H _ _ vl vu lo hi sl Q I rx hs pl pu ⟨p, vs, rfl, hK ▸ t.sq, fun hw => ?_, fun p' o ho hp => q.tup M (cut_rel lo hi r) hp ho⟩
    have : cutD ds lo hi = ds := by
      unfold cutD
      rw [r.length, hw.1, hw.2, ← r.length]
      simp
    rw [this] at q
    exact q.same M va (by simp)
  · cases e
    obtain ⟨p, vs, rfl, _, t, r⟩ := vr_lst va
    exact sl_list pn s σ H _ _ vl vu lo hi sl Q I rx hs pl pu ⟨p, vs, rfl, .inl (.inl t), fun p' hp => q.lst M (cut_rel lo hi r) hp⟩
  · rename_i ns
    cases e
    obtain ⟨p, rfl, t⟩ := vr_scr va
    refine sl_list pn s σ H _ _ vl vu lo hi sl Q I rx hs pl pu ⟨p, _, rfl, hK ▸ t.sq, fun p' hp => q.lst M ?_ hp⟩
    rw [← cut_map]
    exact cut_rel lo hi (VRs.of_ints ns)
  · split at e
    · rename_i ds e2
      cases e
      obtain ⟨p, vs, _, rfl, t, r⟩ := vr_refL M va e2
      exact sl_list pn s σ H _ _ vl vu lo hi sl Q I rx hs pl pu ⟨p, vs, rfl, .inl (.inl t), fun p' hp => q.lst M (cut_rel lo hi r) hp⟩
    · cases e
  · split at e
    · rename_i hl
      cases e
      rw [vr_str va] at rx
      exact sl_str pn s σ H _ _ vl vu lo hi sl Q I rx hs pl pu ⟨_, rfl, hl, q.str M⟩
    · cases e
  · cases e
end
end MP

namespace MP
open PySem L2 PySem.Spec PyProof.Rows
/-! ### sorting -/
def leD (x y : D) : Bool := leP (pdd x) (pdd y)
theorem leD_eq : leD = PySem.W.dataLe false pdd := rfl
theorem leD_tot : PySem.W.TotalLe leD := by
  rw [leD_eq]
  exact PySem.W.sortLe_total (listOrd itemOrd) false fun b => PySem.W.keyToks (pdd b)
theorem insD_merge (x : D) : ∀ (l1 l2 : List D), (∀ b ∈ l1, leD x b = false) → (∀ b ∈ l2, leD x b = true) → insD x (l1 ++ l2) = l1 ++ x :: l2
  | [], [], _, _ => rfl
  | [], y :: ys, _, h => by
    have : leP (pdd x) (pdd y) = true := h y List.mem_cons_self
    simp [insD, this]
  | y :: ys, l2, h1, h2 => by
    have : leP (pdd x) (pdd y) = false := h1 y List.mem_cons_self
    simp [insD, this, insD_merge x ys l2 (fun b hb => h1 b (List.mem_cons_of_mem _ hb)) h2]
theorem sortD_merge : ∀ ds : List D, sortD ds = ds.mergeSort leD
  | [] => by simp [sortD]
  | x :: xs => by
    obtain ⟨l1, l2, e1, e2, h⟩ := List.mergeSort_cons (le := leD) (fun a b c => leD_tot.trans a b c) (fun a b => by
      rcases leD_tot.total a b with h | h <;> simp [h]) x xs
    have hs := List.pairwise_mergeSort (le := leD) (fun a b c => leD_tot.trans a b c) (fun a b => by
      rcases leD_tot.total a b with h | h <;> simp [h]) (x :: xs)
    rw [e1] at hs ⊢
    rw [sortD, sortD_merge xs, e2]
    refine insD_merge x l1 l2 (fun b hb => by simpa using h b hb) fun b hb => ?_
    exact (List.pairwise_cons.mp (List.pairwise_append.mp hs).2.1).1 b hb
theorem pd0s_get : ∀ {ds : List D} {xs : List PyData} {d : D}, pd0s ds = some xs → d ∈ ds → ∃ x, pd0 d = some x ∧ x ∈ xs
  | e :: ds, xs, d, h, hd => by
    simp only [pd0s] at h
    split at h
    · rename_i x hx
      simp only [Option.map_eq_some_iff] at h
      obtain ⟨ys, h, rfl⟩ := h
      rcases List.mem_cons.mp hd with rfl | hd
      · exact ⟨x, hx, List.mem_cons_self⟩
      · obtain ⟨y, h1, h2⟩ := pd0s_get h hd
        exact ⟨y, h1, List.mem_cons_of_mem _ h2⟩
    · cases h
  | [], _, _, _, hd => by cases hd
section
variable {X : Cx} {R : Rc} {ρ : List Addr} {H : Hp} {m : Mem}
theorem each_reads (hK : X.K = R.K) {pn : List (Addr × Obj)} {σ : L2.St} {s : Shared} (I : L2.Inv X pn σ H s) : ∀ {ds : List D} {vs : List V} {us : List Value} {xs : List PyData}, VRs R ρ H ds vs → Vals vs us → pd0s ds = some xs → PySem.W.EachIs (fun v d => ∃ as, Reads s.heap v d as) us xs
  | [], [], us, xs, h, r, e => by
    cases e
    cases r
    exact .nil
  | d :: ds, v :: vs, us, xs, h, r, e => by
    simp only [VRs] at h
    simp only [pd0s] at e
    split at e
    · rename_i x hx
      simp only [Option.map_eq_some_iff] at e
      obtain ⟨ys, e, rfl⟩ := e
      cases r with
      | cons r1 r2 =>
        exact .cons (Dp.reads I x v _ (dp_of hK d v x h.1 hx) r1) (each_reads hK I h.2 r2 e)
    · cases e
  | [], _ :: _, _, _, h, _, _ => by simp [VRs] at h
  | _ :: _, [], _, _, h, _, _ => by simp [VRs] at h
theorem each_zip : ∀ {ds : List D} {vs : List V} {us : List Value}, VRs R ρ H ds vs → Vals vs us → PySem.W.EachIs (fun (u : Value) (p : D × V) => RelV p.2 u ∧ VR R ρ H p.1 p.2) us (ds.zip vs)
  | [], [], us, h, r => by
    cases r
    exact .nil
  | d :: ds, v :: vs, us, h, r => by
    simp only [VRs] at h
    cases r with
    | cons r1 r2 => exact .cons ⟨r1, h.1⟩ (each_zip h.2 r2)
  | [], _ :: _, _, h, _ => by simp [VRs] at h
  | _ :: _, [], _, h, _ => by simp [VRs] at h
theorem of_each : ∀ {ps : List (D × V)} {us : List Value}, PySem.W.EachIs (fun (u : Value) (p : D × V) => RelV p.2 u ∧ VR R ρ H p.1 p.2) us ps → Vals (ps.map (·.2)) us ∧ VRs R ρ H (ps.map (·.1)) (ps.map (·.2))
  | [], _, .nil => ⟨.nil, by simp [VRs]⟩
  | p :: ps, _, .cons h t => by
    obtain ⟨h1, h2⟩ := of_each t
    exact ⟨.cons h.1 h1, by simp only [List.map_cons, VRs]; exact ⟨h.2, h2⟩⟩
theorem each_key (hK : X.K = R.K) {hp : Heap} {zs : List PyData} (hal : PySem.W.AllAlike zs) : ∀ {ds : List D} {vs : List V} {us : List Value} {xs : List PyData}, (∀ x ∈ xs, x ∈ zs) → ds.length = vs.length → PySem.W.EachIs (fun v d => ∃ as, Reads hp v d as) us xs → pd0s ds = some xs →
    PySem.W.EachIs (fun (u : Value) (p : D × V) => (PySem.W.dataKind hp zs).keyOf u = some (PySem.W.keyToks (pdd p.1))) us (ds.zip vs)
  | [], [], us, xs, hz, hl, h, e => by
    cases e
    cases h
    exact .nil
  | d :: ds, v :: vs, us, xs, hz, hl, h, e => by
    simp only [pd0s] at e
    split at e
    · rename_i x hx
      simp only [Option.map_eq_some_iff] at e
      obtain ⟨ys, e, rfl⟩ := e
      cases h with
      | cons h1 h2 =>
        obtain ⟨as, h1⟩ := h1
        refine .cons ?_ (each_key hK hal (fun x hx => hz x (List.mem_cons_of_mem _ hx)) (by simpa using hl) h2 e)
        have : pdd d = x := by simp [pdd, hx]
        rw [this]
        exact PySem.W.dataKind_some hal (hz x List.mem_cons_self) h1
    · cases e
  | [], _ :: _, _, _, _, h, _, _ => by simp at h
  | _ :: _, [], _, _, _, h, _, _ => by simp at h
theorem sort_call (hK : X.K = R.K) (hu : X.A.units + 70 < cLine) {pn : List (Addr × Obj)} {s : Shared} {σ : L2.St} {ds : List D} {vs : List V} {a : Addr} {u : Value} {Q : VK} (I : L2.Inv X pn σ H s) (M : MR R ρ H m)
    (ha : SqL X.K H a vs) (r : VRs R ρ H ds vs) (ru : RelV (.ref a) u) (ok : sortOk ds = true) (q : QV R ρ H m (.lst (sortD ds)) Q) : wpAny (model X.prog X.w) X.A (call (.builtin "sorted") [u]) (EP X pn σ Q) X.xe s := by
  cases ru
  unfold sortOk at ok
  split at ok
  · rename_i xs e
    simp only [Bool.and_eq_true, List.all_eq_true, Bool.or_eq_true] at ok
    obtain ⟨ok1, ok2⟩ := ok
    obtain ⟨its, rv, hl, hz⟩ := I.list ha
    have hal : PySem.W.AllAlike xs := fun x hx y hy => (ok1 x hx).2 y hy
    have hz' : its.length ≤ sizeLine := by
      rw [← rv.length]
      exact hz
    have er := each_reads hK I r rv e
    have keepE : PySem.W.EachIs (fun v d => ∃ as, Reads (PySem.W.sortingHeap (PySem.W.copyHeap s.heap its) (s.heap.objs.size + 1) its) v d as) its xs :=
      er.mono fun v d ⟨as, h⟩ => ⟨as, PyProof.Rows.Reads.keeps (fun b o hb => PySem.W.sorting_copy_old hb) h⟩
    have S : PySem.W.SortsAt X.prog X.w X.A.in1.in1 { s with heap := PySem.W.sortingHeap (PySem.W.copyHeap s.heap its) (s.heap.objs.size + 1) its } (PySem.W.dataKind (PySem.W.sortingHeap (PySem.W.copyHeap s.heap its) (s.heap.objs.size + 1) its) xs) its := by
      refine PySem.W.SortsAt.data (s := { s with heap := PySem.W.sortingHeap (PySem.W.copyHeap s.heap its) (s.heap.objs.size + 1) its }) keepE hal ?_ fun d hd => ?_
      · rcases ok2 with h | h
        · refine .inl fun d hd => ?_
          have := h d hd
          match d, this with
          | .tuple (x :: r), _ => exact ⟨x, r, rfl⟩
        · refine .inr fun d hd => ?_
          have := h d hd
          constructor
          · rintro rfl
            cases this
          · rintro xs rfl
            cases this
      · have h1 := (ok1 d hd).1
        have h2 : d.depth ≤ 64 := by
          unfold SeqAt.shaped at h1
          simp only [Bool.and_eq_true, decide_eq_true_eq] at h1
          exact h1.2
        show X.A.units + 1 + 1 + d.depth < cLine
        omega
    refine PySem.W.sorted_vals (κ := PySem.W.dataKind _ xs) hl.isList S hz' ?_
    have hk := each_key (R := R) hK (vs := vs) hal (fun _ h => h) r.length keepE e
    have out := PySem.W.sortVals_each (rev := false) (κ := PySem.W.dataKind (PySem.W.sortingHeap (PySem.W.copyHeap s.heap its) (s.heap.objs.size + 1) its) xs) (fun p : D × V => PySem.W.keyToks (pdd p.1)) (each_zip r rv) hk
    generalize PySem.W.sortVals (PySem.W.dataKind (PySem.W.sortingHeap (PySem.W.copyHeap s.heap its) (s.heap.objs.size + 1) its) xs) false its its = res at out ⊢
    obtain ⟨o1, o2⟩ := of_each out
    have e3 : ((ds.zip vs).mergeSort (PySem.W.sortLe (PySem.W.dataKind (PySem.W.sortingHeap (PySem.W.copyHeap s.heap its) (s.heap.objs.size + 1) its) xs).toKeyOrd false fun p : D × V => PySem.W.keyToks (pdd p.1))).map (·.1) = sortD ds := by
      rw [sortD_merge]
      refine (PySem.W.sort_maps (s := leD) (fun p : D × V => p.1) (fun _ _ _ _ => rfl)).trans ?_
      rw [List.map_fst_zip (by rw [r.length]; exact Nat.le_refl _)]
    rw [e3] at o2
    obtain ⟨ep, he'⟩ := PyProof.Rows.sortedAll_at s.heap its res.toArray
    have hlen : (((ds.zip vs).mergeSort (PySem.W.sortLe (PySem.W.dataKind (PySem.W.sortingHeap (PySem.W.copyHeap s.heap its) (s.heap.objs.size + 1) its) xs).toKeyOrd false fun p : D × V => PySem.W.keyToks (pdd p.1))).map (·.2)).length ≤ sizeLine := by
      rw [List.length_map, (List.mergeSort_perm _ _).length_eq, List.length_zip]
      have := r.length
      omega
    exact ⟨.ref _, upd H (s.heap.objs.size + 1) (.lst _), I.laid (t' := s.toks) (fun _ _ => PyProof.Rows.sortedAll_old) (Nat.le_succ _) ⟨hlen, res, ep, o1, he'⟩, rfl, q.lst M o2 (I.hok.fresh (Nat.le_succ _))⟩
  · cases ok
/-! ### the first of the least -/
section
variable {prog : Program} {w : World} {A : Around} {E : Value → Shared → Prop} {s : Shared}
theorem min_at {a : Addr} {us : Array Value} {d : PyData} {ds : List PyData} {bs : List Addr} {Q : Value → Shared → Prop} (quiet : A.handled = none) (there : s.heap.IsList a us) (rd : ReadsAll s.heap us.toList (d :: ds) bs) (al : PySem.W.AlikeAll (d :: ds)) (room : A.units + 1 + PyData.depthAll (d :: ds) < cLine)
    (fin : ∀ v h' tk, us[argBest (fun i j => PySem.W.dataLt ((d :: ds).getD i .none) ((d :: ds).getD j .none)) ds.length]? = some v → (∀ b o, s.heap.get? b = some o → h'.get? b = some o) → Q v { s with heap := h', toks := tk }) : wpAny (model prog w) A (call (.builtin "min") [.ref a]) Q E s := by
  have many : us.size = ds.length + 1 := PySem.W.readsAll_len rd
  refine call_min_walkH (PySem.W.iter_listW (A := A.in1) quiet there fun s2 es W st0 hfp hwr kp => ⟨_, _, _, _, _, _, _, s.heap, _, rfl, W, st0, hfp, by omega, hwr, kp, PySem.W.cmpIn_lt (A := A.in1) rd al room, fun v s' got mv => ?_⟩)
  obtain ⟨h', tk, rfl, kp'⟩ := PySem.W.moved_old es rfl mv
  rw [show us.size - 1 = ds.length by omega] at got
  exact fin v h' tk got kp'
end
theorem pdd_map : ∀ {ds : List D} {xs : List PyData}, pd0s ds = some xs → ds.map pdd = xs
  | [], xs, h => by
    cases h
    rfl
  | d :: ds, xs, h => by
    simp only [pd0s] at h
    split at h
    · rename_i x hx
      simp only [Option.map_eq_some_iff] at h
      obtain ⟨ys, h, rfl⟩ := h
      rw [List.map_cons, pdd_map h]
      simp [pdd, hx]
    · cases h
theorem each_all {h : Heap} : ∀ {us : List Value} {xs : List PyData}, PySem.W.EachIs (fun v d => ∃ as, Reads h v d as) us xs → ∃ bs, ReadsAll h us xs bs
  | [], _, .nil => ⟨[], .nil⟩
  | u :: us, _, .cons ⟨as, r⟩ t => by
    obtain ⟨bs, k⟩ := each_all t
    exact ⟨as ++ bs, .cons r k⟩
theorem depth_all {xs : List PyData} (h : ∀ x ∈ xs, x.depth ≤ 64) : PyData.depthAll xs ≤ 64 := by
  induction xs with
  | nil => simp [PyData.depthAll]
  | cons x xs ih =>
    simp only [PyData.depthAll]
    exact Nat.max_le.mpr ⟨h x List.mem_cons_self, ih fun y hy => h y (List.mem_cons_of_mem _ hy)⟩
theorem min_call (hK : X.K = R.K) (hc : X.calm = true) (hu : X.A.units + 70 < cLine) {pn : List (Addr × Obj)} {s : Shared} {σ : L2.St} {ds : List D} {vs : List V} {a : Addr} {ys : List D} {Q : VK} (I : L2.Inv X pn σ H s) (M : MR R ρ H m)
    (ha : SqL X.K H a vs) (r : VRs R ρ H ds vs) (ok : sortOk ds = true) (hy : ds[argIx ds]? = some (.tup ys)) (q : QV R ρ H m (.tup ys) Q) : wpAny (model X.prog X.w) X.A (call (.builtin "min") [.ref a]) (EP X pn σ Q) X.xe s := by
  unfold sortOk at ok
  split at ok
  · rename_i xs e
    simp only [Bool.and_eq_true, List.all_eq_true, Bool.or_eq_true] at ok
    obtain ⟨ok1, ok2⟩ := ok
    obtain ⟨its, rv, hl, hz⟩ := I.list ha
    obtain ⟨bs, rd⟩ := each_all (each_reads hK I r rv e)
    have hm := pdd_map e
    have hal : PySem.W.AlikeAll xs := ⟨fun x hx y hy => (ok1 x hx).2 y hy, fun x hx hn => by
      rcases ok2 with z | z
      · have := z x hx
        rw [hn] at this
        cases this
      · have := z x hx
        rw [hn] at this
        cases this⟩
    have hd : PyData.depthAll xs ≤ 64 := depth_all fun x hx => by
      have := (ok1 x hx).1
      unfold SeqAt.shaped at this
      simp only [Bool.and_eq_true, decide_eq_true_eq] at this
      exact this.2
    unfold argIx at hy
    rw [hm] at hy
    have hlen : ds.length = xs.length := by rw [← hm, List.length_map]
    cases xs with
    | nil =>
      have : ds = [] := List.length_eq_zero_iff.mp hlen
      subst this
      simp at hy
    | cons x xs =>
      rw [hlen, show (x :: xs).length - 1 = xs.length by simp] at hy
      refine min_at (I.ok.hd hc) hl.isList rd hal (by omega) fun v h' tk hv hk => ?_
      obtain ⟨v0, k1, k2⟩ := r.get hy
      obtain ⟨u, k3, k4⟩ := Vals.get rv k1
      have : u = v := by
        have hv : its[argBest (fun i j => PySem.W.dataLt ((x :: xs).getD i .none) ((x :: xs).getD j .none)) xs.length]? = some v := by simpa using hv
        rw [k3] at hv
        exact Option.some.inj hv
      subst this
      exact ⟨v0, H, I.kept hk, k4, q.same M k2 (by simp)⟩
  · cases ok
/-! ### a dict's keys sorted -/
theorem sorted_coll {prog : Program} {w : World} {A : Around} {E : Value → Shared → Prop} {s : Shared} {r : Addr} {Pv : List Value → Prop} {Q : Value → Shared → Prop}
    (coll : ∀ Rr : List Value → Shared → Prop, (∀ (h' : Heap) (tk : Nat) (its : List Value), (∀ b o, s.heap.get? b = some o → h'.get? b = some o) → Pv its → its.length ≤ sizeLine → Rr its { s with heap := h', toks := tk }) → wpAny (model prog w) A.in1 (collect (.ref r)) Rr E s)
    (body : ∀ (h' : Heap) (tk : Nat) (vs : List Value), (∀ b o, s.heap.get? b = some o → h'.get? b = some o) → Pv vs → vs.length ≤ sizeLine → ∀ E' : Value → Shared → Prop,
      wpAny (model prog w) A.in1.in1 (Builtin.«list.sort» ⟨[.ref h'.objs.size], []⟩) (fun f s' => f = .done (.ret .none) ∧ Q (.ref h'.objs.size) s') E' { s with heap := h'.push (seqObj "list" vs.toArray 0), toks := tk }) :
    wpAny (model prog w) A (call (.builtin "sorted") [.ref r]) Q E s := by
  refine PySem.Calls.call_function_entry PyProof.Rows.kind_sorted PyProof.Rows.plain_sorted PyProof.Rows.entry_sorted (PyProof.Rows.args_sorted1 _) ?_
  unfold Builtin.«sorted»
  refine wpAny_bind (m := checkCount "sorted" 1 1 _) (wpAny_pure ?_)
  refine wpAny_bind (coll _ fun h' tk its hk hp hl => ?_)
  refine wpAny_bind (wpAny_newList ?_ hl)
  have hb := body h' tk its hk hp hl
  refine wpAny_bind (wpAny_holding (wpAny_call_entry_kw PyProof.Rows.slot_list_sort ⟨_, Heap.get?_push_size _ rfl, rfl⟩ PyProof.Rows.entry_list_sort ?bd (PyProof.Rows.args_list_sort _)))
  case bd =>
    show wpAny (model prog w) A.in1.in1 (Builtin.«list.sort» ⟨[.ref h'.objs.size], []⟩) _ _ _
    refine wpAny_mono (hb _) (fun f s' hf => ?_) fun _ _ e => e
    obtain ⟨rfl, hq⟩ := hf
    exact ⟨_, rfl, wpAny_pure ⟨_, rfl, hq⟩⟩
theorem vr_keys {R : Rc} {ρ : List Addr} {H : Hp} : ∀ ks : List Key, VRs R ρ H (ks.map keyD) (ks.map kV)
  | [] => by simp [VRs]
  | .inl i :: ks => by simp only [List.map_cons, VRs]; exact ⟨by simp [keyD, VR, kV], vr_keys ks⟩
  | .inr x :: ks => by simp only [List.map_cons, VRs]; exact ⟨by simp [keyD, VR, kV], vr_keys ks⟩
theorem sort_coll (hK : X.K = R.K) (hu : X.A.units + 70 < cLine) {pn : List (Addr × Obj)} {s : Shared} {σ : L2.St} {ds : List D} {vs : List V} {a : Addr} {Q : VK} (I : L2.Inv X pn σ H s) (M : MR R ρ H m) (r : VRs R ρ H ds vs)
    (coll : ∀ Rr : List Value → Shared → Prop, (∀ (h' : Heap) (tk : Nat) (its : List Value), (∀ b o, s.heap.get? b = some o → h'.get? b = some o) → Vals vs its → its.length ≤ sizeLine → Rr its { s with heap := h', toks := tk }) → wpAny (model X.prog X.w) X.A.in1 (collect (.ref a)) Rr X.xe s)
    (ok : sortOk ds = true) (q : QV R ρ H m (.lst (sortD ds)) Q) : wpAny (model X.prog X.w) X.A (call (.builtin "sorted") [.ref a]) (EP X pn σ Q) X.xe s := by
  unfold sortOk at ok
  split at ok
  · rename_i xs e
    simp only [Bool.and_eq_true, List.all_eq_true, Bool.or_eq_true] at ok
    obtain ⟨ok1, ok2⟩ := ok
    refine sorted_coll coll fun h' tk its hkeep rv hz' E' => ?_
    obtain ⟨hD, hhD⟩ : ∃ hD, h'.push (seqObj "list" its.toArray 0) = hD := ⟨_, rfl⟩
    have hDat : hD.get? h'.objs.size = some (seqObj "list" its.toArray 0) := by rw [← hhD]; exact Heap.get?_push_size _ rfl
    have hDold : ∀ b o, s.heap.get? b = some o → hD.get? b = some o := fun b o hb => by rw [← hhD]; exact Heap.get?_push_of_some _ (hkeep b o hb)
    have hne : ∀ b o, s.heap.get? b = some o → b ≠ h'.objs.size := fun b o hb => Nat.ne_of_lt (Heap.lt_size (hkeep b o hb))
    rw [hhD]
    have hal : PySem.W.AllAlike xs := fun x hx y hy => (ok1 x hx).2 y hy
    have er := each_reads hK I r rv e
    have keepE : PySem.W.EachIs (fun v d => ∃ as, Reads (PySem.W.sortingHeap hD h'.objs.size its) v d as) its xs :=
      er.mono fun v d ⟨as, h⟩ => ⟨as, PyProof.Rows.Reads.keeps (fun b o hb => PySem.W.sortingHeap_old (hne b o hb) (hDold b o hb)) h⟩
    have S : PySem.W.SortsAt X.prog X.w X.A.in1.in1 { s with heap := PySem.W.sortingHeap hD h'.objs.size its, toks := tk } (PySem.W.dataKind (PySem.W.sortingHeap hD h'.objs.size its) xs) its := by
      refine PySem.W.SortsAt.data (s := { s with heap := PySem.W.sortingHeap hD h'.objs.size its, toks := tk }) keepE hal ?_ fun d hd => ?_
      · rcases ok2 with h | h
        · refine .inl fun d hd => ?_
          have := h d hd
          match d, this with
          | .tuple (x :: r), _ => exact ⟨x, r, rfl⟩
        · refine .inr fun d hd => ?_
          have := h d hd
          constructor
          · rintro rfl
            cases this
          · rintro xs rfl
            cases this
      · have h1 := (ok1 d hd).1
        have h2 : d.depth ≤ 64 := by
          unfold SeqAt.shaped at h1
          simp only [Bool.and_eq_true, decide_eq_true_eq] at h1
          exact h1.2
        show X.A.units + 1 + 1 + d.depth < cLine
        omega
    refine PySem.W.list_sort_vals (s := { s with heap := hD, toks := tk }) (κ := PySem.W.dataKind _ xs) hDat S hz' ⟨rfl, ?_⟩
    have hk := each_key (R := R) hK (vs := vs) hal (fun _ h => h) r.length keepE e
    have out := PySem.W.sortVals_each (rev := false) (κ := PySem.W.dataKind (PySem.W.sortingHeap hD h'.objs.size its) xs) (fun p : D × V => PySem.W.keyToks (pdd p.1)) (each_zip r rv) hk
    generalize PySem.W.sortVals (PySem.W.dataKind (PySem.W.sortingHeap hD h'.objs.size its) xs) false its its = res at out ⊢
    obtain ⟨o1, o2⟩ := of_each out
    have e3 : ((ds.zip vs).mergeSort (PySem.W.sortLe (PySem.W.dataKind (PySem.W.sortingHeap hD h'.objs.size its) xs).toKeyOrd false fun p : D × V => PySem.W.keyToks (pdd p.1))).map (·.1) = sortD ds := by
      rw [sortD_merge]
      refine (PySem.W.sort_maps (s := leD) (fun p : D × V => p.1) (fun _ _ _ _ => rfl)).trans ?_
      rw [List.map_fst_zip (by rw [r.length]; exact Nat.le_refl _)]
    rw [e3] at o2
    obtain ⟨ep', he'⟩ := PyProof.Rows.sortedHeap_at (out := res.toArray) hDat
    have hlen2 : (((ds.zip vs).mergeSort (PySem.W.sortLe (PySem.W.dataKind (PySem.W.sortingHeap hD h'.objs.size its) xs).toKeyOrd false fun p : D × V => PySem.W.keyToks (pdd p.1))).map (·.2)).length ≤ sizeLine := by
      rw [List.length_map, (List.mergeSort_perm _ _).length_eq, List.length_zip]
      have := r.length
      have := rv.length
      omega
    have hnone : s.heap.get? h'.objs.size = none := by
      cases hg : s.heap.get? h'.objs.size with
      | none => rfl
      | some o => exact absurd (Heap.lt_size (hkeep _ _ hg)) (Nat.lt_irrefl _)
    have hH : H h'.objs.size = none := I.hok.gone hnone
    exact ⟨.ref _, upd H h'.objs.size (.lst _), I.laidN (t' := tk) (fun b o hb => by
      rw [PyProof.Rows.sortedHeap_old (hne b o hb) (Heap.lt_size (hDold b o hb))]
      exact hDold b o hb) hnone hH ⟨hlen2, res, ep', o1, he'⟩, rfl, q.lst M o2 hH⟩
  · cases ok
theorem sort_callD (hK : X.K = R.K) (hc : X.calm = true) (hu : X.A.units + 70 < cLine) {pn : List (Addr × Obj)} {s : Shared} {σ : L2.St} {kvs : List (Key × V)} {a : Addr} {u : Value} {Q : VK} (I : L2.Inv X pn σ H s) (M : MR R ρ H m)
    (ha : H a = some (.dK kvs)) (ru : RelV (.ref a) u) (ok : sortOk ((kvs.map (·.1)).map keyD) = true) (q : QV R ρ H m (.lst (sortD ((kvs.map (·.1)).map keyD))) Q) : wpAny (model X.prog X.w) X.A (call (.builtin "sorted") [u]) (EP X pn σ Q) X.xe s := by
  cases ru
  obtain ⟨z, lo, ws, rk, hd⟩ := (show ObjOk X.prog X.w H s.heap a (.dK kvs) from I.hok a _ ha)
  obtain ⟨ep, hat⟩ := hd.dictAt
  have hl : kvs.length = ws.length := Paired.length rk
  refine sort_coll hK hu I M (vr_keys (R := R) (ρ := ρ) (H := H) (kvs.map (·.1))) (fun Rr hR => ?_) ok q
  refine PySem.W.kdu_collect (A := X.A.in1) (PySem.W.kdl_dict (knd := mixKind X.prog X.w) (kvs := ws) (ep := ep) lo) (I.ok.hd hc) hat (by rw [← hl]; exact z) fun h' tk acc hk hacc => ?_
  have hlen : acc.toList.length = ws.length := by rw [Array.length_toList]; exact hacc.1
  refine hR h' tk acc.toList hk ?_ (by rw [hlen, ← hl]; exact z)
  refine vals_of_at (by rw [List.length_map, List.length_map, hlen, hl]) fun j x w h1 h2 => ?_
  obtain ⟨k, y, hky, hi⟩ := hacc.2 j w (by rw [← Array.getElem?_toList]; exact h2)
  have e1 : (kvs.map (·.1))[j]? = some k := by
    rw [KV.keys rk, List.getElem?_map, hky] <;> rfl
  rw [List.getElem?_map, e1] at h1
  cases h1
  exact keyIs_rel hi
/-- a tuple sorted -/
theorem sort_callT (hK : X.K = R.K) (hu : X.A.units + 70 < cLine) {pn : List (Addr × Obj)} {s : Shared} {σ : L2.St} {ds : List D} {vs : List V} {a : Addr} {u : Value} {Q : VK} (I : L2.Inv X pn σ H s) (M : MR R ρ H m)
    (ha : SqT X.K H a vs) (r : VRs R ρ H ds vs) (ru : RelV (.ref a) u) (ok : sortOk ds = true) (q : QV R ρ H m (.lst (sortD ds)) Q) : wpAny (model X.prog X.w) X.A (call (.builtin "sorted") [u]) (EP X pn σ Q) X.xe s := by
  cases ru
  obtain ⟨its, rv, ⟨o, ho, hcl, n, hd⟩, hz⟩ := I.tuple ha
  have hl : its.length ≤ sizeLine := by rw [← rv.length]; exact hz
  refine sort_coll hK hu I M r (fun Rr hR => ?_) ok q
  refine wpAny_collect_seq a (T := "tuple") (.inr rfl) ho hcl hd (fun h' hk => ?_) (by simpa using hl)
  have := hR h' s.toks its hk rv hl
  simpa using this
end
end MP

namespace MP
open PySem L2 PySem.Spec PyProof.Rows
/-! ### built-ins called -/
def B.val : B → Value
  | .len => .builtin "len" | .abs => .builtin "abs" | .max2 => .builtin "max" | .min2 => .builtin "min" | .sum => .builtin "sum" | .any => .builtin "any" | .all => .builtin "all"
  | .max => .builtin "max" | .min => .builtin "min" | .sorted => .builtin "sorted" | .tuple => .type "tuple" | .list => .type "list" | .int => .type "int" | .str => .type "str" | .lenset => .builtin "len" | .dict => .type "dict"
def rCall (R : Rc) (b : B) : List V → Hp → VK → Prop := fun xs H Q => ∃ ρ m ds d m', MR R ρ H m ∧ VRs R ρ H ds xs ∧ callV b m ds = some (d, m') ∧ QV R ρ H m' d Q
section
variable {X : Cx} {R : Rc} {ρ : List Addr} {H : Hp} {m : Mem}
theorem vrs1 {d : D} {xs : List V} (h : VRs R ρ H [d] xs) : ∃ v, xs = [v] ∧ VR R ρ H d v := by
  match xs, h with
  | [v], h => exact ⟨v, rfl, h.1⟩
theorem vrs2 {d e : D} {xs : List V} (h : VRs R ρ H [d, e] xs) : ∃ v u, xs = [v, u] ∧ VR R ρ H d v ∧ VR R ρ H e u := by
  match xs, h with
  | [v, u], h => exact ⟨v, u, rfl, h.1, h.2.1⟩
theorem maxL_le : ∀ {xs : List Int} {y : Int}, y ∈ xs → y ≤ maxL xs
  | [x], y, h => by
    rw [List.mem_singleton.mp h]
    exact Int.le_refl _
  | x :: z :: xs, y, h => by
    unfold maxL
    rcases List.mem_cons.mp h with rfl | h
    · omega
    · have := maxL_le h
      omega
theorem maxL_mem : ∀ {xs : List Int}, xs ≠ [] → maxL xs ∈ xs
  | [x], _ => by simp [maxL]
  | x :: z :: xs, _ => by
    have ih := maxL_mem (xs := z :: xs) (by simp)
    unfold maxL
    by_cases h : x ≤ maxL (z :: xs)
    · rw [Int.max_eq_right h]
      exact List.mem_cons_of_mem _ ih
    · rw [Int.max_eq_left (by omega)]
      exact List.mem_cons_self
theorem minL_le : ∀ {xs : List Int} {y : Int}, y ∈ xs → minL xs ≤ y
  | [x], y, h => by
    rw [List.mem_singleton.mp h]
    exact Int.le_refl _
  | x :: z :: xs, y, h => by
    unfold minL
    rcases List.mem_cons.mp h with rfl | h
    · omega
    · have := minL_le h
      omega
theorem minL_mem : ∀ {xs : List Int}, xs ≠ [] → minL xs ∈ xs
  | [x], _ => by simp [minL]
  | x :: z :: xs, _ => by
    have ih := minL_mem (xs := z :: xs) (by simp)
    unfold minL
    by_cases h : x ≤ minL (z :: xs)
    · rw [Int.min_eq_left h]
      exact List.mem_cons_self
    · rw [Int.min_eq_right (by omega)]
      exact List.mem_cons_of_mem _ ih
theorem len_seq {d : D} {v : V} {t : Bool} {ds : List D} (hK : X.K = R.K) (M : MR R ρ H m) (h : VR R ρ H d v) (e : seqV m d = some (t, ds)) : LenV X.K v H ds.length := by
  obtain ⟨a, vs, rfl, s, r⟩ := vr_seq M h e
  unfold LenV
  split at s
  · exact .inr ⟨vs, hK ▸ s, r.length⟩
  · exact .inl ⟨vs, hK ▸ s, r.length⟩
theorem c_len (hK : X.K = R.K) : CallR X (.builtin "len") (rCall R .len) := by
  intro pn s σ H xs us Q I rx h
  obtain ⟨ρ, m, ds, d, m', M, vs, e, q⟩ := h
  have go : ∀ n : Nat, ∀ x, xs = [x] → LenV X.K x H n → callV .len m ds = some (.int n, m) → wpAny (model X.prog X.w) X.A (call (.builtin "len") us) (EP X pn σ Q) X.xe s := fun n x ex hl e2 => by
    rw [e] at e2
    cases e2
    exact call_len pn s σ H xs us Q I rx ⟨x, n, ex, hl, q.int M⟩
  match ds, vs, e with
  | [d0], vs, e =>
    obtain ⟨v, rfl, r⟩ := vrs1 vs
    have seq : (∀ n, d0 ≠ .ref n) → (∀ z, d0 ≠ .str z) → wpAny (model X.prog X.w) X.A (call (.builtin "len") us) (EP X pn σ Q) X.xe s := fun h1 h2 => by
      have e2 : (seqV m d0).map (fun p => ((.int (p.2.length : Nat) : D), m)) = some (d, m') := by
        rw [← e]
        cases d0 <;> first | rfl | exact absurd rfl (h1 _) | exact absurd rfl (h2 _)
      rw [Option.map_eq_some_iff] at e2
      obtain ⟨p, e3, e4⟩ := e2
      refine go p.2.length v rfl (len_seq hK M r e3) ?_
      rw [e, ← e4]
    cases d0 with
    | str z =>
      simp only [callV] at e
      split at e
      · rename_i hz
        cases vr_str r
        exact go z.length _ rfl ⟨hz, rfl⟩ (by simp [callV, hz])
      · cases e
    | ref n =>
      simp only [callV] at e
      split at e
      · rename_i ds e2
        exact go ds.length v rfl (len_seq hK M r (t := false) (ds := ds) (by simp [seqV, e2])) (by simp [callV, e2])
      · rename_i kvs e2
        cases e
        obtain ⟨a, ws, _, rfl, h1, h2, h3⟩ := vr_refD M r e2
        refine call_lenD pn s σ H _ us Q I rx ⟨a, ws, rfl, h1, ?_⟩
        have : kvs.length = ws.length := by
          have := congrArg List.length h2
          simpa using this
        rw [← this]
        exact q.int M
      · rename_i kvs e2
        cases e
        obtain ⟨a, od, ws, _, rfl, h1, h2, h3⟩ := vr_refF M r e2
        obtain ⟨x, rfl, rx1⟩ := vals1 rx
        cases rx1
        have : kvs.length = ws.length := by
          have := congrArg List.length h2
          simpa using this
        refine d_len I (.inr ⟨od, h1⟩) fun t s' I' => ⟨.int ws.length, H, I', ⟨t, rfl⟩, ?_⟩
        rw [← this]
        exact q.int M
      · cases e
    | _ => exact seq (by simp) (by simp)
  | [], vs, e => simp [callV] at e
  | _ :: _ :: _, vs, e => simp [callV] at e
theorem c_abs : CallR X (.builtin "abs") (rCall R .abs) := by
  intro pn s σ H xs us Q I rx h
  obtain ⟨ρ, m, ds, d, m', M, vs, e, q⟩ := h
  match ds, vs, e with
  | [.int i], vs, e =>
    cases e
    obtain ⟨v, rfl, r⟩ := vrs1 vs
    rw [vr_int r] at rx
    exact call_abs pn s σ H _ us Q I rx ⟨i, rfl, q.int M⟩
theorem c_max2 (hc : X.calm = true) : CallR X (.builtin "max") (rCall R .max2) := by
  intro pn s σ H xs us Q I rx h
  obtain ⟨ρ, m, ds, d, m', M, vs, e, q⟩ := h
  match ds, vs, e with
  | [.int i, .int j], vs, e =>
    cases e
    obtain ⟨v, u, rfl, r, r2⟩ := vrs2 vs
    rw [vr_int r, vr_int r2] at rx
    exact call_max2 hc pn s σ H _ us Q I rx ⟨i, j, rfl, q.int M⟩
theorem c_min2 (hc : X.calm = true) : CallR X (.builtin "min") (rCall R .min2) := by
  intro pn s σ H xs us Q I rx h
  obtain ⟨ρ, m, ds, d, m', M, vs, e, q⟩ := h
  match ds, vs, e with
  | [.int i, .int j], vs, e =>
    cases e
    obtain ⟨v, u, rfl, r, r2⟩ := vrs2 vs
    rw [vr_int r, vr_int r2] at rx
    exact call_min2 hc pn s σ H _ us Q I rx ⟨i, j, rfl, q.int M⟩
theorem c_int : CallR X (.type "int") (rCall R .int) := by
  intro pn s σ H xs us Q I rx h
  obtain ⟨ρ, m, ds, d, m', M, vs, e, q⟩ := h
  match ds, vs, e with
  | [.int i], vs, e =>
    cases e
    obtain ⟨v, rfl, r⟩ := vrs1 vs
    cases vr_int r
    exact call_int1 pn s σ H _ us Q I rx (.inl ⟨i, rfl, q.int M⟩)
  | [.bl i], vs, e =>
    cases e
    obtain ⟨v, rfl, r⟩ := vrs1 vs
    cases vr_bl r
    exact call_int1 pn s σ H _ us Q I rx (.inr ⟨i, rfl, q.int M⟩)
/-- the ints of a seq -/
theorem seq_ints (hK : X.K = R.K) (M : MR R ρ H m) {d : D} {v : V} {t : Bool} {ds : List D} {ns : List Int} (h : VR R ρ H d v) (e : seqV m d = some (t, ds)) (e2 : ints? ds = some ns) :
    ∃ a, v = .ref a ∧ if t = true then SqT X.K H a (ns.map V.int) else SqL X.K H a (ns.map V.int) := by
  obtain ⟨a, vs, rfl, s, r⟩ := vr_seq M h e
  obtain ⟨rfl, _⟩ := r.ints e2
  exact ⟨a, rfl, hK ▸ s⟩
theorem c_sum (hK : X.K = R.K) (hc : X.calm = true) : CallR X (.builtin "sum") (rCall R .sum) := by
  intro pn s σ H xs us Q I rx h
  obtain ⟨ρ, m, ds, d, m', M, vs, e, q⟩ := h
  match ds, vs, e with
  | [d0], vs, e =>
    obtain ⟨v, rfl, r⟩ := vrs1 vs
    simp only [callV] at e
    split at e
    · rename_i t ds e1
      rw [Option.map_eq_some_iff] at e
      obtain ⟨ns, e2, e3⟩ := e
      cases e3
      obtain ⟨a, rfl, hq⟩ := seq_ints hK M r e1 e2
      cases t with
      | false => exact cr_sum hc pn s σ H _ us Q I rx ⟨a, ns, rfl, hq, q.int M⟩
      | true =>
        have hq : SqT X.K H a (ns.map V.int) := hq
        obtain ⟨its, rv, hl, _⟩ := I.tuple hq
        rw [Vals.ref1 rx]
        have hi := rv.ints
        obtain ⟨zs, ez⟩ := hi.allInts.items
        have hn : numsOf (intItems zs).toList = ns := by rw [← ez]; exact hi.numsOf
        rw [nums_intItems] at hn
        rw [ez] at hl
        refine PySem.W.ktm_sumG (I.ok.hd hc) hl fun h' tk t' hk => ⟨.int ns.sum, H, I.kept hk, ⟨t', ?_⟩, q.int M⟩
        rw [preSum_eq, List.take_of_length_le (by simp), hn]
    · cases e
theorem c_any (hK : X.K = R.K) (hc : X.calm = true) : CallR X (.builtin "any") (rCall R .any) := by
  intro pn s σ H xs us Q I rx h
  obtain ⟨ρ, m, ds, d, m', M, vs, e, q⟩ := h
  match ds, vs, e with
  | [d0], vs, e =>
    obtain ⟨v, rfl, r⟩ := vrs1 vs
    simp only [callV] at e
    split at e
    · rename_i ds e1
      rw [Option.map_eq_some_iff] at e
      obtain ⟨ns, e2, e3⟩ := e
      cases e3
      obtain ⟨a, vs', rfl, s', r'⟩ := vr_seq M r e1
      obtain ⟨rfl, _⟩ := r'.bls e2
      exact cr_any hc pn s σ H _ us Q I rx ⟨a, ns, rfl, hK ▸ s', q.bl M⟩
    · cases e
theorem c_all (hK : X.K = R.K) (hc : X.calm = true) : CallR X (.builtin "all") (rCall R .all) := by
  intro pn s σ H xs us Q I rx h
  obtain ⟨ρ, m, ds, d, m', M, vs, e, q⟩ := h
  match ds, vs, e with
  | [d0], vs, e =>
    obtain ⟨v, rfl, r⟩ := vrs1 vs
    simp only [callV] at e
    split at e
    · rename_i ds e1
      rw [Option.map_eq_some_iff] at e
      obtain ⟨ns, e2, e3⟩ := e
      cases e3
      obtain ⟨a, vs', rfl, s', r'⟩ := vr_seq M r e1
      obtain ⟨rfl, _⟩ := r'.bls e2
      exact cr_all hc pn s σ H _ us Q I rx ⟨a, ns, rfl, hK ▸ s', q.bl M⟩
    · cases e
theorem c_max (hK : X.K = R.K) (hc : X.calm = true) : CallR X (.builtin "max") (rCall R .max) := by
  intro pn s σ H xs us Q I rx h
  obtain ⟨ρ, m, ds, d, m', M, vs, e, q⟩ := h
  match ds, vs, e with
  | [d0], vs, e =>
    obtain ⟨v, rfl, r⟩ := vrs1 vs
    simp only [callV] at e
    split at e
    · rename_i ds e1
      split at e
      · rename_i x ns e2
        cases e
        obtain ⟨a, rfl, hq⟩ := seq_ints hK M r e1 e2
        refine cr_max hc pn s σ H _ us Q I rx ⟨a, x :: ns, rfl, hq, by simp, fun k hk hle => ?_⟩
        have h1 := maxL_le hk
        have h2 := hle _ (maxL_mem (xs := x :: ns) (by simp))
        have : k = maxL (x :: ns) := by omega
        rw [this]
        exact q.int M
      · cases e
    · cases e
theorem c_min (hK : X.K = R.K) (hc : X.calm = true) (hu : X.A.units + 70 < cLine) : CallR X (.builtin "min") (rCall R .min) := by
  intro pn s σ H xs us Q I rx h
  obtain ⟨ρ, m, ds, d, m', M, vs, e, q⟩ := h
  match ds, vs, e with
  | [d0], vs, e =>
    obtain ⟨v, rfl, r⟩ := vrs1 vs
    simp only [callV] at e
    split at e
    · rename_i ds e1
      split at e
      · rename_i x ns e2
        cases e
        obtain ⟨a, rfl, hq⟩ := seq_ints hK M r e1 e2
        refine cr_min hc pn s σ H _ us Q I rx ⟨a, x :: ns, rfl, hq, by simp, fun k hk hle => ?_⟩
        have h1 := minL_le hk
        have h2 := hle _ (minL_mem (xs := x :: ns) (by simp))
        have : k = minL (x :: ns) := by omega
        rw [this]
        exact q.int M
      · split at e
        · rename_i ok
          split at e
          · rename_i ys hy
            cases e
            obtain ⟨a, vs', rfl, s', r'⟩ := vr_seq M r e1
            rw [Vals.ref1 rx]
            exact min_call hK hc hu I M (hK ▸ s') r' ok hy q
          · cases e
        · cases e
    · cases e
theorem c_sorted (hK : X.K = R.K) (hc : X.calm = true) (hu : X.A.units + 70 < cLine) : CallR X (.builtin "sorted") (rCall R .sorted) := by
  intro pn s σ H xs us Q I rx h
  obtain ⟨ρ, m, ds, d, m', M, vs, e, q⟩ := h
  match ds, vs, e with
  | [d0], vs, e =>
    obtain ⟨v, rfl, r⟩ := vrs1 vs
    simp only [callV] at e
    split at e
    · rename_i ds e1
      split at e
      · rename_i ok
        cases e
        obtain ⟨a, vs', rfl, s', r'⟩ := vr_seq M r e1
        rw [Vals.ref1 rx]
        exact sort_call hK hu I M (hK ▸ s') r' rfl ok q
      · cases e
    · rename_i ds e1
      split at e
      · rename_i ok
        cases e
        obtain ⟨a, vs', rfl, s', r'⟩ := vr_seq M r e1
        rw [Vals.ref1 rx]
        exact sort_callT hK hu I M (hK ▸ s') r' rfl ok q
      · cases e
    · split at e
      · rename_i k _
        split at e
        · rename_i kvs hk
          split at e
          · rename_i ok
            cases e
            simp only [VR] at r
            obtain ⟨a, ea, rfl⟩ := r
            obtain ⟨a', ea', ws, hH, k1, k2⟩ := M.ob k _ hk
            rw [ea] at ea'
            cases ea'
            rw [Vals.ref1 rx]
            have hm : (kvs.map fun q => keyD q.1) = (ws.map (·.1)).map keyD := by rw [← k1, List.map_map]; rfl
            rw [hm] at ok q
            exact sort_callD hK hc hu I M hH rfl ok q
          · cases e
        · cases e
      · cases e
theorem c_tuple (hK : X.K = R.K) : CallR X (.type "tuple") (rCall R .tuple) := by
  intro pn s σ H xs us Q I rx h
  obtain ⟨ρ, m, ds, d, m', M, vs, e, q⟩ := h
  match ds, vs, e with
  | [d0], vs, e =>
    obtain ⟨v, rfl, r⟩ := vrs1 vs
    simp only [callV] at e
    rw [Option.map_eq_some_iff] at e
    obtain ⟨⟨t, ds⟩, e1, e2⟩ := e
    cases e2
    cases t with
    | false =>
      obtain ⟨a, vs', rfl, s', r'⟩ := vr_seq M r e1
      cases Vals.ref1 rx
      have hq : SqL X.K H a vs' := hK ▸ s'
      obtain ⟨its, rv, pl, hz⟩ := I.list hq
      have ln := rv.length
      refine call_tuple_list pl.isList (fun h' kp => ?_) (by simp only [List.size_toArray] <;> omega)
      have I1 : L2.Inv X pn σ H { s with heap := h' } := I.kept (t' := s.toks) kp
      exact ⟨.ref h'.objs.size, _, tnew (t' := s.toks) I1 rv hz, rfl, q.tup M r' (I1.hok.fresh (Nat.le_refl _)) rfl⟩
    | true =>
      cases d0 with
      | tup xs =>
        cases e1
        obtain ⟨a, vs', rfl, s', r'⟩ := vr_tup r
        exact call_tuple_of pn s σ H _ us Q I rx ⟨a, vs', rfl, .inr ⟨hK ▸ s'.sq, q.same M r (by simp)⟩⟩
      | ref n =>
        simp only [seqV] at e1
        split at e1 <;> cases e1
      | _ => cases e1
theorem c_list (hK : X.K = R.K) : CallR X (.type "list") (rCall R .list) := by
  intro pn s σ H xs us Q I rx h
  obtain ⟨ρ, m, ds, d, m', M, vs, e, q⟩ := h
  match ds, vs, e with
  | [d0], vs, e =>
    obtain ⟨v, rfl, r⟩ := vrs1 vs
    simp only [callV] at e
    rw [Option.map_eq_some_iff] at e
    obtain ⟨⟨t, ds⟩, e1, e2⟩ := e
    cases e2
    obtain ⟨a, vs', rfl, s', r'⟩ := vr_seq M r e1
    refine call_list_of pn s σ H _ us Q I rx ⟨a, vs', rfl, ?_, fun l hl => q.lst M r' hl⟩
    cases t with
    | false => exact .inl (hK ▸ s')
    | true => exact .inr (hK ▸ s')
/-! dict of pairs -/
theorem QV.dic {kvs : List (Key × D)} {ws : List (Key × V)} {Q : VK} (h : QV R ρ H (m ++ [.dic kvs]) (.ref m.length) Q) (M : MR R ρ H m) (h1 : kvs.map (·.1) = ws.map (·.1)) (h2 : VRs R ρ H (kvs.map (·.2)) (ws.map (·.2)))
    {p : Addr} (hp : H p = none) : Q (.ref p) (upd H p (.dK ws)) := by
  have e := M.ext_add (.dK ws) hp
  refine h (ρ ++ [p]) _ _ e (M.add hp ⟨ws, upd_same, h1, VRs.ext e _ _ h2⟩) ?_ (fun ds e => by cases e)
  simp only [VR]
  exact ⟨p, by rw [← M.len]; simp, rfl⟩
theorem QV.newL {ds : List D} {vs : List V} {Q : VK} (h : QV R ρ H (m ++ [.lst ds]) (.ref m.length) Q) (M : MR R ρ H m) (r : VRs R ρ H ds vs) {p : Addr} (hp : H p = none) : Q (.ref p) (upd H p (.lst vs)) := by
  have e := M.ext_add (.lst vs) hp
  refine h (ρ ++ [p]) _ _ e (M.add hp ⟨vs, upd_same, VRs.ext e _ _ r⟩) ?_ (fun ds e => by cases e)
  simp only [VR]
  exact ⟨p, by rw [← M.len]; simp, rfl⟩
theorem any_keys {kvs : List (Key × D)} {ws : List (Key × V)} (h : kvs.map (·.1) = ws.map (·.1)) (k : Key) : (kvs.any fun kv => decide (kv.1 = k)) = ws.any fun kv => decide (kv.1 = k) := by
  have e1 : (kvs.any fun kv => decide (kv.1 = k)) = (kvs.map (·.1)).any fun x => decide (x = k) := by rw [List.any_map]; rfl
  have e2 : (ws.any fun kv => decide (kv.1 = k)) = (ws.map (·.1)).any fun x => decide (x = k) := by rw [List.any_map]; rfl
  rw [e1, e2, h]
theorem put_map {k : Key} {d : D} {v : V} : ∀ {kvs : List (Key × D)} {ws : List (Key × V)}, kvs.map (·.1) = ws.map (·.1) → VRs R ρ H (kvs.map (·.2)) (ws.map (·.2)) → VR R ρ H d v →
    (kvs.map (fun kv => if kv.1 = k then (kv.1, d) else kv)).map (·.1) = (ws.map (fun kv => if kv.1 = k then (kv.1, v) else kv)).map (·.1) ∧
    VRs R ρ H ((kvs.map (fun kv => if kv.1 = k then (kv.1, d) else kv)).map (·.2)) ((ws.map (fun kv => if kv.1 = k then (kv.1, v) else kv)).map (·.2))
  | [], [], _, _, _ => ⟨rfl, by simp [VRs]⟩
  | p :: kvs, q :: ws, h1, h2, h3 => by
    simp only [List.map_cons, List.cons.injEq, VRs] at h1 h2 ⊢
    obtain ⟨i1, i2⟩ := put_map h1.2 h2.2 h3
    by_cases e : p.1 = k
    · have e2 : q.1 = k := h1.1 ▸ e
      simp only [e, e2, if_true]
      exact ⟨⟨trivial, i1⟩, h3, i2⟩
    · have e2 : ¬ q.1 = k := h1.1 ▸ e
      simp only [e, e2, if_false]
      exact ⟨⟨h1.1, i1⟩, h2.1, i2⟩
  | [], _ :: _, h, _, _ => by simp at h
  | _ :: _, [], h, _, _ => by simp at h
theorem put_rel {k : Key} {d : D} {v : V} {kvs : List (Key × D)} {ws : List (Key × V)} (h1 : kvs.map (·.1) = ws.map (·.1)) (h2 : VRs R ρ H (kvs.map (·.2)) (ws.map (·.2))) (h3 : VR R ρ H d v) :
    (putD kvs k d).map (·.1) = (putK ws k v).map (·.1) ∧ VRs R ρ H ((putD kvs k d).map (·.2)) ((putK ws k v).map (·.2)) := by
  unfold putD putK
  rw [any_keys h1 k]
  split
  · exact put_map h1 h2 h3
  · rw [List.map_append, List.map_append, List.map_append, List.map_append, h1]
    exact ⟨rfl, h2.append (VRs.one h3)⟩
theorem merge_rel : ∀ {more : List (Key × D)} {mws : List (Key × V)} {kvs : List (Key × D)} {ws : List (Key × V)}, more.map (·.1) = mws.map (·.1) → VRs R ρ H (more.map (·.2)) (mws.map (·.2)) → kvs.map (·.1) = ws.map (·.1) → VRs R ρ H (kvs.map (·.2)) (ws.map (·.2)) →
    (mergeD kvs more).map (·.1) = (mergeK ws mws).map (·.1) ∧ VRs R ρ H ((mergeD kvs more).map (·.2)) ((mergeK ws mws).map (·.2))
  | [], [], _, _, _, _, h1, h2 => ⟨h1, h2⟩
  | p :: more, q :: mws, kvs, ws, h3, h4, h1, h2 => by
    simp only [List.map_cons, List.cons.injEq, VRs] at h3 h4
    obtain ⟨i1, i2⟩ := put_rel (k := p.1) h1 h2 h4.1
    have e : putK ws q.1 q.2 = putK ws p.1 q.2 := by rw [h3.1]
    show (mergeD (putD kvs p.1 p.2) more).map (·.1) = (mergeK (putK ws q.1 q.2) mws).map (·.1) ∧ VRs R ρ H ((mergeD (putD kvs p.1 p.2) more).map (·.2)) ((mergeK (putK ws q.1 q.2) mws).map (·.2))
    rw [e]
    exact merge_rel h3.2 h4.2 i1 i2
  | [], _ :: _, _, _, h, _, _, _ => by simp at h
  | _ :: _, [], _, _, h, _, _, _ => by simp at h
theorem pairs_rel (hK : X.K = R.K) : ∀ {ds : List D} {vs : List V} {kvs : List (Key × D)}, VRs R ρ H ds vs → pairs? ds = some kvs → ∃ (ps : List Addr) (ws : List (Key × V)), vs = ps.map V.ref ∧ Paired (fun p kv => SqT X.K H p [kV kv.1, kv.2]) ps ws ∧
    kvs.map (·.1) = ws.map (·.1) ∧ VRs R ρ H (kvs.map (·.2)) (ws.map (·.2))
  | [], [], kvs, _, e => by
    cases e
    exact ⟨[], [], rfl, .nil, rfl, by simp [VRs]⟩
  | d :: ds, v :: vs, kvs, h, e => by
    simp only [VRs] at h
    unfold pairs? at e
    split at e
    · cases ‹d :: ds = []›
    · rename_i k0 v0 ds' he
      cases he
      split at e
      · rename_i k hk
        rw [Option.map_eq_some_iff] at e
        obtain ⟨kvs', e2, rfl⟩ := e
        obtain ⟨a, us, rfl, t, r⟩ := vr_tup h.1
        obtain ⟨x, y, rfl, r1, r2⟩ := vrs2 r
        have := key_rel r1 hk
        subst this
        obtain ⟨ps, ws, rfl, hp, i1, i2⟩ := pairs_rel hK h.2 e2
        refine ⟨a :: ps, (k, y) :: ws, rfl, .cons (hK ▸ t.sq) hp, by simp [i1], ?_⟩
        simp only [List.map_cons, VRs]
        exact ⟨r2, i2⟩
      · cases e
    · cases e
  | [], _ :: _, _, h, _ => by simp [VRs] at h
  | _ :: _, [], _, h, _ => by simp [VRs] at h
theorem c_dict (hK : X.K = R.K) (hc : X.calm = true) : CallR X (.type "dict") (rCall R .dict) := by
  intro pn s σ H xs us Q I rx h
  obtain ⟨ρ, m, ds, d, m', M, vs, e, q⟩ := h
  match ds, vs, e with
  | [d0], vs, e =>
    obtain ⟨v, rfl, r⟩ := vrs1 vs
    simp only [callV] at e
    split at e
    · rename_i ds e1
      split at e
      · rename_i kvs e2
        cases e
        obtain ⟨a, vs', rfl, s', r'⟩ := vr_seq M r e1
        obtain ⟨ps, ws, rfl, hp, i1, i2⟩ := pairs_rel hK r' e2
        refine call_dictP hc pn s σ H _ us Q I rx ⟨a, ps, ws, rfl, hK ▸ s', hp, fun p hp => ?_⟩
        obtain ⟨j1, j2⟩ := merge_rel (kvs := []) (ws := []) i1 i2 rfl (by simp [VRs])
        exact q.dic M j1 j2 hp
      · cases e
    · cases e
theorem c_str : CallR X (.type "str") (rCall R .str) := by
  intro pn s σ H xs us Q I rx h
  obtain ⟨ρ, m, ds, d, m', M, vs, e, q⟩ := h
  match ds, vs, e with
  | ds, vs, e => simp [callV] at e
theorem op_callB (hK : X.K = R.K) (hc : X.calm = true) (hu : X.A.units + 70 < cLine) (b : B) (hb : b ≠ .lenset) : CallR X b.val (rCall R b) := by
  cases b with
  | len => exact c_len hK
  | abs => exact c_abs
  | max2 => exact c_max2 hc
  | min2 => exact c_min2 hc
  | sum => exact c_sum hK hc
  | any => exact c_any hK hc
  | all => exact c_all hK hc
  | max => exact c_max hK hc
  | min => exact c_min hK hc hu
  | sorted => exact c_sorted hK hc hu
  | tuple => exact c_tuple hK
  | list => exact c_list hK
  | int => exact c_int
  | str => exact c_str
  | lenset => exact absurd rfl hb
  | dict => exact c_dict hK hc
/-! ### len(set(x)) -/
theorem mem_step {xs : List Int} {y x : Int} : x ∈ step_dedup xs y ↔ x ∈ xs ∨ x = y := by
  unfold step_dedup
  split
  · rename_i h
    obtain ⟨z, hz, e⟩ := List.any_eq_true.mp h
    have : z = y := eq_of_beq e
    subst this
    constructor
    · exact .inl
    · rintro (h | rfl)
      · exact h
      · exact hz
  · simp
theorem nodup_step {xs : List Int} {y : Int} (h : xs.Nodup) : (step_dedup xs y).Nodup := by
  unfold step_dedup
  split
  · exact h
  · rename_i hn
    refine List.nodup_append.mpr ⟨h, by simp, fun a ha b hb => ?_⟩
    rw [List.mem_singleton.mp hb]
    rintro rfl
    exact hn (List.any_eq_true.mpr ⟨a, ha, by simp⟩)
theorem fold_step : ∀ (ys xs : List Int), xs.Nodup → (ys.foldl step_dedup xs).Nodup ∧ ∀ x, x ∈ ys.foldl step_dedup xs ↔ x ∈ xs ∨ x ∈ ys
  | [], xs, h => ⟨h, by simp⟩
  | y :: ys, xs, h => by
    obtain ⟨h1, h2⟩ := fold_step ys (step_dedup xs y) (nodup_step h)
    refine ⟨h1, fun x => ?_⟩
    rw [List.foldl_cons, h2 x, mem_step, List.mem_cons, or_assoc]
theorem dedup_ok : ∀ xs : List Int, (dedupI xs).Nodup ∧ ∀ x, x ∈ dedupI xs ↔ x ∈ xs
  | [] => ⟨by simp [dedupI], by simp [dedupI]⟩
  | y :: ys => by
    obtain ⟨h1, h2⟩ := dedup_ok ys
    unfold dedupI
    split
    · rename_i h
      have hy := (h2 y).mp (by simpa using h)
      refine ⟨h1, fun x => ?_⟩
      rw [h2, List.mem_cons]
      constructor
      · exact .inr
      · rintro (rfl | h)
        · exact hy
        · exact h
    · rename_i h
      refine ⟨List.nodup_cons.mpr ⟨by simpa using h, h1⟩, fun x => ?_⟩
      rw [List.mem_cons, List.mem_cons, h2]
theorem same_len {xs ys : List Int} (h1 : xs.Nodup) (h2 : ys.Nodup) (h : ∀ x, x ∈ xs ↔ x ∈ ys) : xs.length = ys.length := ((List.perm_ext_iff_of_nodup h1 h2).mpr h).length_eq
theorem first_len (ns : List Int) : (firstMet (fun i => ns.getD i 0) ns.length).length = (dedupI ns).length := by
  have e : (List.range ns.length).map (fun i => ns.getD i 0) = ns := by
    refine List.ext_getElem (by simp) fun i h1 h2 => ?_
    simp [List.getD_eq_getElem?_getD, h2]
  unfold firstMet
  rw [e]
  obtain ⟨h1, h2⟩ := fold_step ns [] List.nodup_nil
  obtain ⟨h3, h4⟩ := dedup_ok ns
  exact same_len h1 h3 fun x => by rw [h2, h4]; simp
end
end MP

namespace MP
open PySem L2 PySem.Spec PyProof.Rows
/-! ### len(set(x)) -/
def tLS (R : Rc) (ta : TE) : TE := fun σ H Q => ta σ H fun x H1 => ∃ ρ m d n m', MR R ρ H1 m ∧ VR R ρ H1 d x ∧ callV .lenset m [d] = some (n, m') ∧ QV R ρ H1 m' n Q
section
variable {X : Cx} {R : Rc} {ρ : List Addr} {H : Hp} {m : Mem}
theorem pe_ls {a : Expr} {ta : TE} {p p2 q pos : Pos} (hK : X.K = R.K) (hc : X.calm = true) (hg : Gl X "len") (hm : X.mg "len" = none) (hg2 : Gl X "set") (hm2 : X.mg "set" = none) (ha : PE X a ta)
    (na : starEach [a] X.env = (false, eval a X.env) :: starEach [] X.env) (n2 : starEach [.Call (.Name "set" p2) [a] [] q] X.env = (false, eval (.Call (.Name "set" p2) [a] [] q) X.env) :: starEach [] X.env) :
    PE X (.Call (.Name "len" p) [.Call (.Name "set" p2) [a] [] q] [] pos) (tLS R ta) := by
  refine ⟨fun pn s σ H Q I h => Call_ (ld_blt I hg hm boot_len (PyProof.Rows.callWith_builtin1 (PyProof.Rows.args_cons ?_ n2) n2 rfl))⟩
  refine Call_ (ld_blt I hg2 hm2 boot_set (PyProof.Rows.callWith_type1 (PyProof.Rows.args_cons (thn (ha.run pn s σ H _ I h) fun v s1 ⟨x, H1, I1, r1, q1⟩ => PyProof.Rows.args_nil ?_) na) na rfl))
  obtain ⟨ρ, m, d, n, m', M, rd, e, q⟩ := q1
  simp only [callV] at e
  split at e
  · rename_i t ds e1
    split at e
    · rename_i ns e2
      split at e
      · rename_i hl
        cases e
        obtain ⟨l, rfl, hq⟩ := seq_ints hK M rd e1 e2
        cases r1
        have fin : ∀ (h' : Heap) (tk c : Nat) (es : Array (Int × Value)) (ep : Nat) (tb : SetTable) (o : Obj), h'.get? s1.heap.objs.size = some o → o.ExactSet → o.data = .set es ep tb → tb.fits es.size = true → es.size = (dedupI ns).length →
            (∀ b o, s1.heap.get? b = some o → h'.get? b = some o) →
            wpAny (model X.prog X.w) X.A (spliced (backTo pos (starEach [] X.env))) (fun vs s₂ => wpAny (model X.prog X.w) X.A (call (.builtin "len") (Value.ref s1.heap.objs.size :: vs)) (EP X pn σ Q) X.xe s₂) X.xe { s1 with heap := h', toks := tk } := fun h' tk c es ep tb o ho hex hd hf hn hk => by
          refine PyProof.Rows.args_nil ?_
          have I2 : L2.Inv X pn σ H1 { s1 with heap := h', toks := tk } := I1.kept hk
          have hle : (dedupI ns).length ≤ 16777216 := by
            have : (dedupI ns).length ≤ ns.length := by
              rw [← first_len]
              exact firstMet_length_le _ _
            omega
          exact call_len_set ho hex hd hf (by omega) ⟨.int (dedupI ns).length, H1, I2.tok _, ⟨_, by rw [hn]⟩, q.int M⟩
        cases t with
        | false =>
          have hq : SqL X.K H1 l (ns.map V.int) := hq
          obtain ⟨its, r, pl, hz⟩ := I1.list hq
          have hlen : its.toArray.size = ns.length := by rw [List.size_toArray, ← r.length, List.length_map]
          refine call_set_list (I1.ok.hd hc) pl.isList (by simpa using r.ints) (by rw [hlen]; unfold scanBound; omega) fun h' tk hS hk => ?_
          rw [hlen] at hS
          obtain ⟨o, es, ep, tb, ho, hex, hd, _, _, _, hf, hn⟩ := hS
          exact fin h' tk 0 es ep tb o ho hex hd hf (by rw [hn, first_len]) fun b o e => hk b o (Heap.lt_size e) e
        | true =>
          have hq : SqT X.K H1 l (ns.map V.int) := hq
          obtain ⟨its, r, pl, hz⟩ := I1.tuple hq
          refine call_set_tupI ns (I1.ok.hd hc) (items := its.toArray) pl (by simpa using r.ints) (by unfold scanBound; omega) fun h' tk c R1 hcn k => ?_
          obtain ⟨o, es, ep, tb, ho, hex, hd, g, nd, hm2, hb, hf, hn, hr, hl2⟩ := R1
          refine fin h' tk c es ep tb o ho hex hd hf ?_ k
          obtain ⟨h3, h4⟩ := dedup_ok ns
          have := same_len nd h3 fun x => by rw [← hm2 x, h4]; exact decide_eq_true_iff
          simpa using this
      · cases e
    · cases e
  · cases e

/-! ### methods -/
def M.name : M → Str
  | .append => "append" | .extend => "extend" | .pop => "pop" | .index => "index" | .count => "count" | .dget => "get" | .dget2 => "get" | .update => "update"
def M.id (k : M) (T : String) : String := match k with
  | .append => "list.append" | .extend => "list.extend" | .pop => "list.pop" | .index => if T = "tuple" then "tuple.index" else "list.index" | .count => "list.count" | .dget => "dict.get" | .dget2 => "dict.get" | .update => "dict.update"
/-- what may follow a value, new or not -/
def QW (R : Rc) (ρ : List Addr) (H : Hp) (m : Mem) (d : D) (Q : VK) : Prop := ∀ ρ' H' v, Ext ρ H ρ' H' → MR R ρ' H' m → VR R ρ' H' d v → Q v H'
theorem QW.same {d : D} {v : V} {Q : VK} (h : QW R ρ H m d Q) (M : MR R ρ H m) (r : VR R ρ H d v) : Q v H := h ρ H v Ext.refl M r
theorem QW.int {i : Int} {Q : VK} (h : QW R ρ H m (.int i) Q) (M : MR R ρ H m) : Q (.int i) H := h.same M (by simp [VR])
/-- the call of a method by our values -/
def rMt (R : Rc) (k : M) (T : String) : V → List V → Hp → VK → Prop := fun x xs H Q => ∃ ρ m o ds d m', MR R ρ H m ∧ VR R ρ H o x ∧ VRs R ρ H ds xs ∧ mCls m o = some T ∧ methV k m o ds = some (d, m') ∧ QW R ρ H m' d Q
theorem QW.put {p : Addr} {u : HO} {o : O} {n : Nat} {d : D} {v : V} {Q : VK} (h : QW R ρ H (m.set n o) d Q) (M : MR R ρ H m) (hp : ρ[n]? = some p) (hx : ∀ o w, H p ≠ some (.frz o w)) (ho : ∀ H', Ext ρ H ρ H' → H' p = some u → OR R ρ H' o p) (r : VR R ρ H d v) : Q v (upd H p u) := by
  have e := M.ext_put u (List.mem_of_getElem? hp) hx
  exact h ρ _ v e (M.put hp hx (ho _ e upd_same)) (VR.ext e d v r)
theorem QW.putL {p : Addr} {n : Nat} {d : D} {v : V} {Q : VK} {ds : List D} {vs ws : List V} (h : QW R ρ H (m.set n (.lst ds)) d Q) (M : MR R ρ H m) (hp : ρ[n]? = some p) (hl : H p = some (.lst ws)) (rs : VRs R ρ H ds vs) (r : VR R ρ H d v) : Q v (upd H p (.lst vs)) :=
  h.put M hp (fun o w => by rw [hl]; exact fun z => nomatch z) (fun H' e ea => ⟨vs, ea, VRs.ext e _ _ rs⟩) r
theorem findPD_ok {x : PyData} : ∀ {ys : List PyData} {j : Nat}, findPD x ys = some j → ∃ z, ys[j]? = some z ∧ PyData.eqv z x = true ∧ ∀ (i : Nat) (z' : PyData), i < j → ys[i]? = some z' → PyData.eqv z' x = false
  | y :: ys, j, h => by
    unfold findPD at h
    split at h
    · rename_i e
      cases h
      exact ⟨y, rfl, e, fun i z' hi => absurd hi (Nat.not_lt_zero _)⟩
    · rename_i e
      rw [Option.map_eq_some_iff] at h
      obtain ⟨k, h, rfl⟩ := h
      obtain ⟨z, h1, h2, h3⟩ := findPD_ok h
      refine ⟨z, h1, h2, fun i z' hi hz => ?_⟩
      cases i with
      | zero =>
        cases hz
        simpa using e
      | succ i => exact h3 i z' (by omega) hz
theorem VRs.last {ds : List D} {vs : List V} {d : D} (r : VRs R ρ H ds vs) (h : ds[ds.length - 1]? = some d) : ∃ v, vs[vs.length - 1]? = some v ∧ VR R ρ H d v := by
  rw [r.length] at h
  exact r.get h
theorem ix63 {pn : List (Addr × Obj)} {σ : L2.St} {s : Shared} {a : Addr} {vs : List V} {i : Int} {k : Nat} (I : L2.Inv X pn σ H s) (ha : H a = some (.lst vs)) (h : ixN vs.length i = some k) : -(2 ^ 63) ≤ i ∧ i < 2 ^ 63 ∧ seqIndex? i vs.length = some k := by
  obtain ⟨h1, _, h2, h3⟩ := ixN_seq h
  obtain ⟨hz, _⟩ := I.lstM ha
  rw [sizeLine_eq] at hz
  exact ⟨by omega, by omega, h1⟩
/-- tuple.index of ints -/
theorem mt_tix (hK : X.K = R.K) {ns : List Int} {i : Int} {j : Nat} {t : Nat} {pn : List (Addr × Obj)} {s : Shared} {σ : L2.St} {a : Addr} {Q : VK} (I : L2.Inv X pn σ H s) (ha : SqT X.K H a (ns.map V.int))
    (e : ns.findIdx? (· == i) = some j) (q : Q (.int (j : Nat)) H) : wpAny (model X.prog X.w) X.A (call (.builtin "tuple.index") [.ref a, .int i t]) (EP X pn σ Q) X.xe s := by
  obtain ⟨its, r, pl, hz⟩ := I.tuple ha
  obtain ⟨⟨cls, dd, dt, sl⟩, ho, hc, n, hd⟩ := pl
  simp only at hc hd
  subst hc hd
  obtain ⟨hj, h1, h2⟩ := List.findIdx?_eq_some_iff_getElem.mp e
  have hl : its.length = ns.length := by rw [← r.length, List.length_map]
  have at' : ∀ (k : Nat) (hk : k < ns.length), ∃ t', its[k]? = some (Value.int ns[k] t') := fun k hk => by
    obtain ⟨w, hw, t', rfl⟩ := r.get (i := k) (x := .int ns[k]) (by simp [hk])
    exact ⟨t', hw⟩
  have at2 : ∀ (k : Nat) (hk : k < its.toArray.size), ∃ (hk' : k < ns.length) (t' : Nat), its.toArray[k] = Value.int ns[k] t' := fun k hk => by
    have hk' : k < ns.length := by rw [← hl]; simpa using hk
    obtain ⟨t', e'⟩ := at' k hk'
    refine ⟨hk', t', ?_⟩
    have := (List.getElem?_eq_some_iff.mp e').2
    simpa using this
  have hj' : j < its.toArray.size := by simp [hl]; exact hj
  refine call_meets PySem.F.slot_tuple_index ⟨_, ho, rfl⟩ PySem.F.entry_tuple_index (PySem.F.args_tuple_index_2 _ _) (TI.tuple_indexAt a its.toArray n dd sl (.int i t) (eqU (.int i)) j hj' ?_ ?_)
    ⟨ho, fun w hw => mem_eqAt (x := .int i) ⟨t, rfl⟩ rfl r (flat_ints ns) w (by simpa using hw), ⟨.int (j : Nat), H, I.tok _, ⟨_, rfl⟩, q⟩⟩
  · obtain ⟨hk, t', e1⟩ := at2 j hj'
    rw [e1]
    show (ns[j] == i) = true
    exact h1
  · intro k hk hkj
    obtain ⟨hk', t', e1⟩ := at2 k hk
    rw [e1]
    show (ns[k] == i) = false
    simpa using h2 k hkj
/-- list.count of data -/
theorem mt_cntD (hu : X.A.units + 65 < cLine) {pn : List (Addr × Obj)} {s : Shared} {σ : L2.St} {a : Addr} {vs : List V} {ds : List PyData} {y : V} {d : PyData} {v : Value} {us : List Value} {Q : VK} (I : L2.Inv X pn σ H s) (rx : RelV (.ref a) v) (rs : Vals [y] us) (hs : SqL X.K H a vs) (ha : DpAll X.K H vs ds) (hy : Dp X.K H y d)
    (sl : SeqAt.shaped (.list ds) = true) (sd : SeqAt.shaped d = true) (q : Q (.int (ds.countP fun z => PyData.eqv z d : Nat)) H) : wpAny (model X.prog X.w) X.A (call (.builtin "list.count") (v :: us)) (EP X pn σ Q) X.xe s := by
  cases rx
  obtain ⟨uy, rfl, ry⟩ := rs.one
  obtain ⟨bs, r1⟩ := Dp.reads I d y uy hy ry
  have lay : PyData.canLayAll0 ds = true := SeqAt.canLay_of_shaped sl
  have room : X.A.units + 1 + min (PyData.depthAll ds) d.depth < cLine := room_in_shaped sd hu
  obtain ⟨its, rv, ⟨⟨cls, dd, data, sls⟩, n, ho, hc, hdn, hdt⟩, hlen⟩ := I.list hs
  simp only at hc hdt
  subst hc hdt
  obtain ⟨as, h4⟩ := Dp.readsAll I ds _ its ha rv
  have hmap : its.map (SeqAt.readOf s.heap) = ds := SeqAt.readsAll_map ds its as lay h4
  have e : its.toArray.toList.countP (fun u => PyData.eqv (SeqAt.readOf s.heap u) d) = ds.countP fun z => PyData.eqv z d := by
    rw [← hmap, List.countP_map]
    rfl
  rw [← e] at q
  exact call_meets PySem.F.slot_list_count ⟨_, ho, rfl⟩ PySem.F.entry_list_count (PySem.F.args_list_count_2 _ _) (SeqAt.list_countAt a its.toArray n dd sls uy (fun u => PyData.eqv (SeqAt.readOf s.heap u) d))
    ⟨ho, SeqAt.items_eqAt (vs := its.toArray) (show ReadsAll s.heap its.toArray.toList ds as from h4) r1 lay (SeqAt.canLay_of_shaped sd) room, ⟨.int _, H, I.tok _, ⟨_, rfl⟩, q⟩⟩
theorem d_updD {pn : List (Addr × Obj)} {s : Shared} {σ : L2.St} {a b : Addr} {kvs more : List (Key × V)} {A : Around} {E : Value → Shared → Prop} {Q : Value → Shared → Prop} (I : L2.Inv X pn σ H s) (e : H a = some (.dK kvs)) (eb : H b = some (.dK more)) (hne : a ≠ b) (hsz : kvs.length + more.length ≤ sizeLine)
    (h : ∀ s', L2.Inv X pn σ (upd H a (.dK (mergeK kvs more))) s' → Q .none s') : wpAny (model X.prog X.w) A (call (.builtin "dict.update") [.ref a, .ref b]) Q E s := by
  obtain ⟨z, hd, vs, rel, dd⟩ := dk_of I.hok e
  obtain ⟨z2, hd2, vs2, rel2, dd2⟩ := dk_of I.hok eb
  refine call_meetsIn PySem.F.slot_dict_update dd.typeIs PySem.F.entry_dict_update (PySem.F.args_dict_update_2 _ _) (meets_dict_update (mixKind X.prog X.w) a b hne hd2) ⟨vs, vs2, dd, dd2, by rw [← rel.length, ← rel2.length]; exact hsz, fun h' dd' _ hs => h _ ?_⟩
  have there : ∃ q, h'.get? a = some q := let ⟨q, _, _, hq, _⟩ := dd'; ⟨q, hq⟩
  have hl : (mergeK kvs more).length ≤ sizeLine := Nat.le_trans (length_mergeK more kvs) hsz
  exact d_write I (by rw [e]; exact True.intro) hs there (dk_new hl hd (KV.merge rel2 rel) dd')
theorem op_mt (hK : X.K = R.K) (hu : X.A.units + 66 < cLine) (k : M) (T : String) : MtR X (k.id T) (rMt R k T) := by
  intro pn s σ H x xs v us Q I rx rs h
  obtain ⟨ρ, m, o, ds, d, m', M, ro, rd, hT, e, q⟩ := h
  unfold methV at e
  split at e
  · rename_i n d0
    split at e
    · rename_i ys e1
      split at e
      · rename_i hl
        cases e
        obtain ⟨a, vs, h1, rfl, h2, h3⟩ := vr_refL M ro e1
        obtain ⟨y, rfl, ry⟩ := vrs1 rd
        exact mt_append pn s σ H _ _ v us Q I rx rs ⟨a, vs, y, rfl, rfl, h2, by rw [← h3.length]; exact hl, q.putL M h1 h2 (h3.append (VRs.one ry)) (by simp [VR])⟩
      · cases e
    · cases e
  · rename_i n zs
    split at e
    · rename_i ys e1
      split at e
      · rename_i hl
        cases e
        obtain ⟨a, vs, h1, rfl, h2, h3⟩ := vr_refL M ro e1
        obtain ⟨y, rfl, ry⟩ := vrs1 rd
        obtain ⟨b, ws, rfl, hb, h4, h5⟩ := vr_lst ry
        exact mt_extend pn s σ H _ _ v us Q I rx rs ⟨a, b, vs, ws, rfl, rfl, h2, h4, by rw [← h3.length, ← h5.length]; exact hl, q.putL M h1 h2 (h3.append h5) (by simp [VR])⟩
      · cases e
    · cases e
  · rename_i n
    split at e
    · rename_i ys e1
      rw [Option.map_eq_some_iff] at e
      obtain ⟨y, e2, e3⟩ := e
      cases e3
      obtain ⟨a, vs, h1, rfl, h2, h3⟩ := vr_refL M ro e1
      obtain ⟨w, h4, h5⟩ := h3.last e2
      match xs, rd with
      | [], rd => exact mt_pop pn s σ H _ _ v us Q I rx rs ⟨a, vs, w, rfl, rfl, h2, h4, q.putL M h1 h2 h3.dropLast h5⟩
    · cases e
  · rename_i n i
    split at e
    · rename_i ys e1
      split at e
      · rename_i j hj
        rw [Option.map_eq_some_iff] at e
        obtain ⟨y, e2, e3⟩ := e
        cases e3
        obtain ⟨a, vs, h1, rfl, h2, h3⟩ := vr_refL M ro e1
        obtain ⟨u, rfl, ru⟩ := vrs1 rd
        rw [vr_int ru] at rs
        obtain ⟨w, h4, h5⟩ := h3.get e2
        rw [h3.length] at hj
        obtain ⟨g1, g2, g3⟩ := ix63 I h2 hj
        exact mt_popAt pn s σ H _ _ v us Q I rx rs ⟨a, vs, i, j, w, rfl, rfl, h2, g1, g2, g3, h4, q.putL M h1 h2 (h3.erase _) h5⟩
      · cases e
    · cases e
  · rename_i ys i
    split at e
    · rename_i ns e1
      rw [Option.map_eq_some_iff] at e
      obtain ⟨j, e2, e3⟩ := e
      cases e3
      cases hT
      obtain ⟨a, vs, rfl, t, r⟩ := vr_tup ro
      obtain ⟨rfl, _⟩ := r.ints e1
      obtain ⟨u, rfl, ru⟩ := vrs1 rd
      rw [vr_int ru] at rs
      cases rx
      obtain ⟨w, rfl, tk, rfl⟩ := rs.one
      exact mt_tix hK I (hK ▸ t.sq) e2 (q.int M)
    · cases e
  · rename_i d0 _
    split at e
    · rename_i ys x0 e1 e2
      split at e
      · rename_i hs
        rw [Bool.and_eq_true] at hs
        rw [Option.map_eq_some_iff] at e
        obtain ⟨j, e3, e4⟩ := e
        cases e4
        have dp := dp_ofV hK M ro e1
        obtain ⟨y, rfl, ry⟩ := vrs1 rd
        have dy := dp_of hK _ _ _ ry e2
        obtain ⟨z, g1, g2, g3⟩ := findPD_ok e3
        have hid : MP.M.id .index T = "list.index" := by
          have : T = "list" := by
            cases o with
            | lst _ => cases hT; rfl
            | scr _ => cases hT; rfl
            | ref n =>
              simp only [mCls] at hT
              simp only [pdV] at e1
              split at e1
              · rename_i zs e5
                rw [e5] at hT
                cases hT
                rfl
              · cases e1
            | str _ => cases e1
            | tup zs =>
              simp only [pdV, pd0, Option.map_eq_some_iff] at e1
              obtain ⟨_, _, e1⟩ := e1
              cases e1
            | _ => cases hT
          subst this
          rfl
        rw [hid]
        cases dp with
        | lst hs0 ha =>
          exact mt_indexD (by omega) pn s σ H _ _ v us Q I rx rs ⟨_, y, x0, ys, j, z, rfl, rfl, .lst hs0 ha, dy, hs.1, hs.2, g1, g2, g3, q.int M⟩
      · cases e
    · cases e
  · rename_i d0
    split at e
    · rename_i ys x0 e1 e2
      split at e
      · rename_i hs
        rw [Bool.and_eq_true] at hs
        cases e
        have dp := dp_ofV hK M ro e1
        obtain ⟨y, rfl, ry⟩ := vrs1 rd
        have dy := dp_of hK _ _ _ ry e2
        cases dp with
        | lst hs0 ha =>
          exact mt_cntD (by omega) I rx rs hs0 ha dy hs.1 hs.2 (q.int M)
      · cases e
    · cases e
  · rename_i n k0
    split at e
    · rename_i kvs k1 e1 e2
      cases e
      obtain ⟨a, ws, h1, rfl, h2, h3, h4⟩ := vr_refD M ro e1
      obtain ⟨y, rfl, ry⟩ := vrs1 rd
      have := key_rel ry e2
      subst this
      cases rx
      obtain ⟨w, rfl, rw'⟩ := rs.one
      refine d_get1 (by omega) I (DGet.k h2) rw' fun w' s' I' r' => ⟨_, H, I', r', q.same M ?_⟩
      rcases valV_rel k1 h3 h4 with ⟨g1, g2⟩ | ⟨d1, v1, g1, g2, g3⟩
      · rw [g1, g2]
        simp [VR]
      · rw [g1, g2]
        exact g3
    · cases e
  · rename_i n k0 df
    split at e
    · rename_i kvs k1 e1 e2
      cases e
      obtain ⟨a, ws, h1, rfl, h2, h3, h4⟩ := vr_refD M ro e1
      obtain ⟨y, z, rfl, ry, rz⟩ := vrs2 rd
      have := key_rel ry e2
      subst this
      cases rx
      obtain ⟨w, w2, rfl, rw', rw2⟩ := rs.two
      refine d_get2 (by omega) I (DGet.k h2) rw' rw2 fun w' s' I' r' => ⟨_, H, I', r', q.same M ?_⟩
      rcases valV_rel k1 h3 h4 with ⟨g1, g2⟩ | ⟨d1, v1, g1, g2, g3⟩
      · rw [g1, g2]
        exact rz
      · rw [g1, g2]
        exact g3
    · cases e
  · rename_i n k
    split at e
    · rename_i kvs more e1 e2
      split at e
      · rename_i hc
        cases e
        obtain ⟨a, ws, h1, rfl, h2, h3, h4⟩ := vr_refD M ro e1
        obtain ⟨y, rfl, ry⟩ := vrs1 rd
        obtain ⟨b, ws2, g1, rfl, g2, g3, g4⟩ := vr_refD M ry e2
        cases rx
        obtain ⟨w, rfl, rw'⟩ := rs.one
        cases rw'
        have hab : a ≠ b := fun z => by
          subst z
          obtain ⟨i1, i2⟩ := List.getElem?_eq_some_iff.mp h1
          obtain ⟨j1, j2⟩ := List.getElem?_eq_some_iff.mp g1
          exact hc.1 ((List.getElem_inj M.nd).mp (i2.trans j2.symm))
        have l1 : kvs.length = ws.length := by have := congrArg List.length h3; simpa using this
        have l2 : more.length = ws2.length := by have := congrArg List.length g3; simpa using this
        obtain ⟨m1, m2⟩ := merge_rel (R := R) (ρ := ρ) (H := H) g3 g4 h3 h4
        exact d_updD I h2 g2 hab (by rw [← l1, ← l2]; exact hc.2) fun s' I' => ⟨.non, _, I', rfl, q.put M h1 (fun o w => by rw [h2]; exact fun z => nomatch z) (fun H' e ea => ⟨_, ea, m1, VRs.ext e _ _ m2⟩) (by simp [VR])⟩
      · cases e
    · cases e
  · cases e
end
end MP

namespace MP
open PySem L2 PySem.Spec PyProof.Rows
/-! ### ends of evaluations -/
section
variable (R : Rc) (W : WX) (σ : L2.St) (ρ : List Addr) (H : Hp)
def Post {α : Type} (r : Res α) (K : α → Mem → Prop) : Prop := match r with
  | .ok a m => K a m
  | .exc c fs m => fs = [] ∧ ∃ a, R.ca c = some a ∧ ∀ ρ' H', Ext ρ H ρ' H' → MR R ρ' H' m → W (.ref a) none σ H'
  | .bad => False
/-- a value has come -/
def VE (fr : Bool) (Q : VK) : D → Mem → Prop := fun d m' => ∀ ρ' H' v, Ext ρ H ρ' H' → MR R ρ' H' m' → VR R ρ' H' d v → (fr = true → New H d v) → Q v H'
end
section
variable {R : Rc} {W : WX} {σ : L2.St} {ρ ρ' : List Addr} {H H' : Hp} {m m' : Mem} {X : Cx}
theorem Post.bnd {α β : Type} {r : Res α} {k : α → Mem → Res β} {K : β → Mem → Prop} {K1 : α → Mem → Prop} (h : Post R W σ ρ H (r.bnd k) K) (hk : ∀ a m', r = .ok a m' → Post R W σ ρ H (k a m') K → K1 a m') : Post R W σ ρ H r K1 := by
  cases r with
  | ok a m => exact hk a m rfl h
  | exc c fs m => exact h
  | bad => exact h
theorem Post.ext {α : Type} {r : Res α} {K : α → Mem → Prop} (h : Post R W σ ρ H r K) (e : Ext ρ H ρ' H') : Post R W σ ρ' H' r K := by
  cases r with
  | ok a m => exact h
  | exc c fs m =>
    obtain ⟨h1, a, h2, h3⟩ := h
    exact ⟨h1, a, h2, fun ρ2 H2 e2 M => h3 ρ2 H2 (e.trans e2) M⟩
  | bad => exact h
theorem New.back {d : D} {v : V} (M : MR R ρ' H' m') (e : Ext ρ H ρ' H') (h : New H' d v) : New H d v := fun ds h1 a h2 => by
  have h3 := h ds h1 a h2
  cases q : H a with
  | none => rfl
  | some o =>
    by_cases ha : a ∈ ρ
    · obtain ⟨l, rfl⟩ := e.pre
      obtain ⟨u, hu⟩ := M.there (List.mem_append_left l ha)
      rw [h3] at hu
      cases hu
    · rw [e.frm a o ha q] at h3
      cases h3
theorem QV.of {d : D} {Q : VK} {fr : Bool} {m2 : Mem} (M : MR R ρ' H' m2) (h : VE R ρ H fr Q d m') (e : Ext ρ H ρ' H') : QV R ρ' H' m' d Q := fun ρ2 H2 v e2 M2 r n => h ρ2 H2 v (e.trans e2) M2 r fun _ => n.back M e
theorem pe_imp {e : Expr} {t t' : TE} (h : PE X e t) (k : ∀ σ H Q, t' σ H Q → t σ H Q) : PE X e t' := ⟨fun pn s σ H Q I q => h.run pn s σ H Q I (k σ H Q q)⟩
theorem pt_imp {e : Expr} {t t' : TT} (h : PT X e t) (k : ∀ σ H Q, t' σ H Q → t σ H Q) : PT X e t' := ⟨fun pn s σ H Q I q => h.run pn s σ H Q I (k σ H Q q)⟩
theorem pa_imp {es : List Expr} {t t' : TA} (h : PA X es t) (k : ∀ σ H Q, t' σ H Q → t σ H Q) : PA X es t' := ⟨fun p pn s σ H Q I q => h.run p pn s σ H Q I (k σ H Q q)⟩
theorem pi_imp {tg e : Expr} {t t' : TI} (h : PI X tg e t) (k : ∀ σ H Q, t' σ H Q → t σ H Q) : PI X tg e t' := ⟨fun pn s σ H Q I q => h.run pn s σ H Q I (k σ H Q q)⟩
end
/-! ### what is read -/
/-- an expression whose list, if it gives one, is a new one -/
def fre (ff : Nat → Bool) : Ex → Bool
  | .lst _ => true | .newL _ => true | .rev _ => true | .rngL _ _ => true | .comp _ _ _ _ _ => true | .comp2 _ _ _ _ _ _ _ _ _ => true | .emptyDict => true | .dict1 _ _ => true
  | .bin _ _ _ => true
  | .sl _ _ _ => true
  | .callB _ _ => true
  | .callF x _ => ff x
  | .ite _ a b => fre ff a && fre ff b
  | .orE a b => fre ff a && fre ff b
  | .andE a b => fre ff a && fre ff b
  | .thaw a => true
  | .bad => true
  | _ => false
section
variable (R : Rc) (C : Nat → List D → Mem → Res D) (W : WX)
def tE (e : Ex) : TE := fun σ H Q => ∃ ρ m env, SR R ρ H m env σ ∧ Post R W σ ρ H (ev C e env m) (VE R ρ H (fre R.ff e) Q)
def tT (e : Ex) : TT := fun σ H Q => ∃ ρ m env, SR R ρ H m env σ ∧ Post R W σ ρ H (ev C e env m) fun d m' => ∃ b, truV m' d = some b ∧ ∀ ρ' H', Ext ρ H ρ' H' → MR R ρ' H' m' → Q b H'
def tA (es : Exs) : TA := fun σ H Q => ∃ ρ m env, SR R ρ H m env σ ∧ Post R W σ ρ H (evs C es env m) fun ds m' => ∀ ρ' H' vs, Ext ρ H ρ' H' → MR R ρ' H' m' → VRs R ρ' H' ds vs → Q vs H'
/-- what a thing that is walked gives -/
def SrcOk (ρ : List Addr) (H : Hp) (src : SrcV) (J : It) : Prop := ∀ ρ' H' m', Ext ρ H ρ' H' → MR R ρ' H' m' → ∀ i, match src.at m' i with
  | none => True
  | some none => J.stop i H'
  | some (some d) => J.go i H' ∧ ∀ x H'', J.yld i H' x H'' → Ext ρ' H' ρ' H'' ∧ MR R ρ' H'' m' ∧ VR R ρ' H'' d x
def tS (s : Sr) : TI := fun σ H Q => ∃ ρ m env, SR R ρ H m env σ ∧ Post R W σ ρ H (evSr C s env m) fun src m' => ∀ ρ' H' J, Ext ρ H ρ' H' → MR R ρ' H' m' → SrcOk R ρ' H' src J → Q J H'
def tG (tg : Tg) : TG := fun v σ H Q => ∃ ρ m env d env', SR R ρ H m env σ ∧ VR R ρ H d v ∧ asgT tg d env = some env' ∧ ∀ σ', SR R ρ H m env' σ' → Q σ' H
end
/-- the defs and the names of a program -/
structure Gt where
  defs : List (Str × Nat)
  /-- the defs whose lists are new ones -/
  ff : Nat → Bool
  consts : List (Str × D)
  /-- the classes of errors -/
  excs : List (Str × Nat)
  free : List Str
  /-- the name of the parameter, where there is just one -/
  one : Nat → Option Str
structure Sc where
  N : List Str
  sc : Scope
  /-- the names that may be stored -/
  st : List (Str × NameKind)
/-- the def f can be called -/
def CallOk (R : Rc) (C : Nat → List D → Mem → Res D) (n : Nat) : Sp := fun vs H Q E => ∃ ρ m ds, MR R ρ H m ∧ VRs R ρ H ds vs ∧ match C n ds m with
  | .ok d m' => VE R ρ H (R.ff n) Q d m'
  | .exc c fs m' => fs = [] ∧ ∃ a, R.ca c = some a ∧ ∀ ρ' H', Ext ρ H ρ' H' → MR R ρ' H' m' → E (.ref a) none H'
  | .bad => False
structure ExcOk (G : Gt) (R : Rc) (K : PySem.W.Frag) (mg : Str → Option Value) : Prop where
  ex : ∀ x n, G.excs.lookup x = some n → ∃ c, R.ca n = some c ∧ mg x = some (.ref c) ∧ PySem.W.excIn K c [.type "ValueError", .type "Exception", .type "BaseException", .type "object"] "ValueError.__new__" = true ∧ PySem.W.keepIn K (.ref c) = true ∧
    PySem.W.subIn K (.ref c) (.type "BaseException") = some true ∧ PySem.W.typeIn K (.ref c) = some (.type "type")
  exm : ∀ n n' c c', R.ca n = some c → R.ca n' = some c' → PySem.W.exmOne K (.ref c) (.ref c') = some (decide (n = n'))
structure Ag (G : Gt) (S : Sc) (R : Rc) (C : Nat → List D → Mem → Res D) (W : WX) (X : Cx) : Prop where
  hK : X.K = R.K
  calm : X.calm = true
  N : X.N = S.N
  nd : S.N.Nodup
  sc : X.env.scope = S.sc
  kd : S.sc.kind = .function
  hff : R.ff = G.ff
  hu : X.A.units + 70 < cLine
  tk : Takes X W
  bl : ∀ x ∈ G.free, X.mg x = none
  co : ∀ x d, G.consts.lookup x = some d → ∃ u v, X.mg x = some u ∧ RelV v u ∧ ∀ ρ H, VR R ρ H d v
  fn : ∀ x n, G.defs.lookup x = some n → ∃ f fd ps k, R.fa n = some f ∧ X.mg x = some (.ref f) ∧ PySem.W.keepIn X.K (.ref f) = true ∧ Binds X.K fd ps [] ∧ Room k X.A ∧ FnOk X.prog X.w X.K X.mg X.base (L2.CX X.prog X.w) k f fd ps (CallOk R C n) ∧ (∀ q, G.one n = some q → ps = [q] ∧ ∀ (s : Shared) (u : Value), BindsTo s fd ⟨[], [(q, u)]⟩ [(q, u)])
  er : ExcOk G R X.K X.mg
  loc : ∀ x, S.st.lookup x = some .local ∨ S.st.lookup x = some .cell → Loc S.sc x ∧ (X.fn x = true ∨ S.sc.names.lookup x = some .local)
/-! ### the translator -/
def isStar : Expr → Bool
  | .Starred _ _ => true
  | _ => false
def isSet : Expr → Bool
  | .Set _ _ _ => true
  | _ => false
def isSlice : Expr → Bool
  | .Slice _ _ _ _ => true
  | _ => false
def Sc.slot (S : Sc) (x : Str) : Option Nat := (S.N.findIdx? (· == x))
def nmOk (x : Str) : Bool := !(x == ("__debug__" : Str)) && !(x == ("__classdict__" : Str)) && !(x == ("__name__" : Str))
def cName (G : Gt) (S : Sc) (x : Str) : Ex := if nmOk x = true then (match S.sc.names.lookup x with
    | some .globalImplicit => (match G.consts.lookup x with
      | some d => .lit d
      | none => (match G.defs.lookup x with
        | some n => .lit (.fn n)
        | none => .bad))
    | some .globalExplicit => .bad
    | some _ => (match S.slot x with
      | some i => .var i
      | none => .bad)
    | none => .bad) else .bad
def cConst : Const → Ex
  | .none => .lit .non
  | .bool b => .lit (.bl b)
  | .int i => .lit (.int i)
  | .str x => .lit (.str x)
  | _ => .bad
def boOf : Operator → Option BO
  | .Add => some .add | .Sub => some .sub | .Mult => some .mul | .FloorDiv => some .fdiv | .Mod => some .mod | .Pow => some .pow | _ => none
def coOf : CmpOp → Option CO
  | .Eq => some .eq | .NotEq => some .ne | .Lt => some .lt | .LtE => some .le | .Gt => some .gt | .GtE => some .ge | .Is => some .isN | .IsNot => some .notN | .In => some .inn | .NotIn => some .notIn
theorem boOf_op {o : Operator} {b : BO} (h : boOf o = some b) : b.op = o := by cases o <;> cases h <;> rfl
theorem coOf_op {o : CmpOp} {b : CO} (h : coOf o = some b) : b.op = o := by cases o <;> cases h <;> rfl
section
variable {G : Gt} {S : Sc} {R : Rc} {C : Nat → List D → Mem → Res D} {W : WX} {X : Cx}
theorem pe_bad {e : Expr} : PE X e (tE R C W .bad) := ⟨fun _ _ _ _ _ _ h => by
  obtain ⟨ρ, m, env, _, p⟩ := h
  exact p.elim⟩
theorem SR.new {ρ ρ' : List Addr} {H H' : Hp} {m m' : Mem} {env : Env} {σ : L2.St} (S : SR R ρ H m env σ) (e : Ext ρ H ρ' H') (M : MR R ρ' H' m') : SR R ρ' H' m' env σ := S.ext e M
theorem pe_lit {e : Expr} {d : D} {v : V} (h : PE X e (tC v)) (r : ∀ ρ H, VR R ρ H d v) : PE X e (tE R C W (.lit d)) := pe_imp h fun σ H Q q => by
  obtain ⟨ρ, m, env, S, p⟩ := q
  have p : VE R ρ H false Q d m := p
  exact p ρ H v Ext.refl S.mem (r ρ H) (fun z => by cases z)
theorem Ag.gl (A : Ag G S R C W X) {x : Str} (h : S.sc.names.lookup x = some .globalImplicit) : Gl X x := by
  show X.env.scope.names.lookup x = _
  rw [A.sc]
  exact h
theorem slot_ok {x : Str} {i : Nat} (h : S.slot x = some i) : S.N[i]? = some x := by
  unfold Sc.slot at h
  obtain ⟨h1, h2, _⟩ := List.findIdx?_eq_some_iff_getElem.mp h
  rw [List.getElem?_eq_getElem h1, eq_of_beq h2]
theorem nm_ok {x : Str} (h : nmOk x = true) : (x == ("__debug__" : Str)) = false ∧ (x == ("__classdict__" : Str)) = false ∧ x ≠ "__name__" := by
  unfold nmOk at h
  simp only [Bool.and_eq_true, Bool.not_eq_true'] at h
  exact ⟨h.1.1, h.1.2, fun e => by rw [e] at h; exact absurd h.2 (by decide)⟩
theorem pe_name (A : Ag G S R C W X) {x : Str} {p : Pos} : PE X (.Name x p) (tE R C W (cName G S x)) := by
  unfold cName
  split
  · rename_i hn
    obtain ⟨n1, n2, n3⟩ := nm_ok hn
    split
    · rename_i hk
      split
      · rename_i d hd
        obtain ⟨u, v, h1, h2, h3⟩ := A.co x d hd
        exact pe_lit (pe_glob (A.gl hk) h1 h2 n1) h3
      · split
        · rename_i n hd
          obtain ⟨f, fd, ps, k, h1, h2, _⟩ := A.fn x n hd
          exact pe_lit (pe_glob (v := .ref f) (A.gl hk) h2 rfl n1) fun ρ H => by
            simp only [VR]
            exact ⟨f, h1, rfl⟩
        · exact pe_bad
    · exact pe_bad
    · rename_i k hg1 hg2 hk
      split
      · rename_i i hi
        have hv : Vis X.env.scope x := by
          rw [A.sc]
          unfold Vis
          rw [hk]
          cases k with
          | «local» => exact .inl rfl
          | cell => exact .inr (.inl rfl)
          | free => exact .inr (.inr rfl)
          | globalImplicit => exact (hg1 rfl).elim
          | globalExplicit => exact (hg2 rfl).elim
        refine pe_imp (pe_var (i := i) (by rw [A.N]; exact slot_ok hi) hv n1 n2) fun σ H Q q => ?_
        obtain ⟨ρ, m, env, S, p⟩ := q
        simp only [ev] at p
        split at p
        · rename_i d hd
          have hd' : env[i]? = some (some d) := by
            unfold envGet at hd
            split at hd
            · rename_i e
              cases hd
              exact e
            · cases hd
          obtain ⟨v, h1, h2⟩ := S.ev i d hd'
          exact ⟨v, h1, p ρ H v Ext.refl S.mem h2 (fun z => by cases z)⟩
        · exact p.elim
      · exact pe_bad
    · exact pe_bad
  · exact pe_bad
theorem pe_const {c : Const} {k : Nat} {p : Pos} : PE X (.Constant c k p) (tE R C W (cConst c)) := by
  cases c with
  | none => exact pe_lit pe_non fun ρ H => by simp [VR]
  | bool b => exact pe_lit pe_bl fun ρ H => by simp [VR]
  | int b => exact pe_lit pe_int fun ρ H => by simp [VR]
  | str b => exact pe_lit pe_str fun ρ H => by simp [VR]
  | _ => exact pe_bad
/-- the next expression from where the last one ended -/
theorem nextE {ρ ρ1 : List Addr} {H H1 : Hp} {m1 : Mem} {env : Env} {σ : L2.St} {m : Mem} {β : Type} {b : Ex} {k : D → Mem → Res β} {K : β → Mem → Prop} {Q : VK} (S : SR R ρ H m env σ) (e1 : Ext ρ H ρ1 H1) (M1 : MR R ρ1 H1 m1) (p : Post R W σ ρ H ((ev C b env m1).bnd k) K)
    (h : ∀ y m2, Post R W σ ρ H (k y m2) K → ∀ ρ2 H2 v, Ext ρ1 H1 ρ2 H2 → MR R ρ2 H2 m2 → VR R ρ2 H2 y v → (fre R.ff b = true → New H1 y v) → Q v H2) : tE R C W b σ H1 Q :=
  ⟨ρ1, m1, env, S.ext e1 M1, (p.ext e1).bnd fun y m2 er _ => by
    rw [er] at p
    exact fun ρ2 H2 v e2 M2 r n => h y m2 p ρ2 H2 v e2 M2 r n⟩
theorem pe_bin (A : Ag G S R C W X) {a b : Expr} {x y : Ex} {op : Operator} {o : BO} {p : Pos} (h : boOf op = some o) (ha : PE X a (tE R C W x)) (hb : PE X b (tE R C W y)) : PE X (.BinOp a op b p) (tE R C W (.bin o x y)) := by
  have h1 := op_bo A.hK o
  rw [boOf_op h] at h1
  refine pe_imp (pe_op h1 ha hb) fun σ H Q q => ?_
  obtain ⟨ρ, m, env, S, p⟩ := q
  simp only [ev] at p
  refine ⟨ρ, m, env, S, p.bnd fun u m1 _ p1 ρ1 H1 vu e1 M1 r1 _ => ?_⟩
  refine nextE S e1 M1 p1 fun w m2 p2 ρ2 H2 vw e2 M2 r2 _ => ?_
  split at p2
  · rename_i d hd
    exact ⟨ρ2, m2, u, w, d, M2, VR.ext e2 u vu r1, r2, hd, QV.of M2 p2 (e1.trans e2)⟩
  · exact p2.elim
theorem pe_neg {a : Expr} {x : Ex} {p : Pos} (ha : PE X a (tE R C W x)) : PE X (.UnaryOp .USub a p) (tE R C W (.neg x)) := by
  refine pe_imp (pe_un un_neg ha) fun σ H Q q => ?_
  obtain ⟨ρ, m, env, S, p⟩ := q
  simp only [ev] at p
  refine ⟨ρ, m, env, S, p.bnd fun u m1 _ p1 ρ1 H1 vu e1 M1 r1 n1 => ?_⟩
  split at p1
  · rename_i i _
    exact ⟨i, vr_int r1, p1 ρ1 H1 _ e1 M1 (by simp [VR]) (fun z => by cases z)⟩
  · exact p1.elim
theorem beh_of {op : CmpOp} {b : Expr} (h : isSet b = false) : behindInMarks op b = false := by cases b <;> first | rfl | cases h
theorem pe_cmp1 (A : Ag G S R C W X) {a b : Expr} {x y : Ex} {op : CmpOp} {o : CO} {p : Pos} (h : coOf op = some o) (hs : isSet b = false) (ha : PE X a (tE R C W x)) (hb : PE X b (tE R C W y)) : PE X (.Compare a [op] [b] p) (tE R C W (.cmp o x y)) := by
  have h1 := op_co A.hK (by have := A.hu; omega) o
  rw [coOf_op h] at h1
  refine pe_imp (pe_cmpR h1 ha hb (beh_of hs)) fun σ H Q q => ?_
  obtain ⟨ρ, m, env, S, p⟩ := q
  simp only [ev] at p
  refine ⟨ρ, m, env, S, p.bnd fun u m1 _ p1 ρ1 H1 vu e1 M1 r1 _ => ?_⟩
  refine nextE S e1 M1 p1 fun w m2 p2 ρ2 H2 vw e2 M2 r2 _ => ?_
  split at p2
  · rename_i d hd
    exact ⟨ρ2, m2, u, w, d, M2, VR.ext e2 u vu r1, r2, hd, p2 ρ2 H2 _ (e1.trans e2) M2 (by simp [VR]) (fun z => by cases z)⟩
  · exact p2.elim
theorem pt_cmp1 (A : Ag G S R C W X) {a b : Expr} {x y : Ex} {op : CmpOp} {o : CO} {p : Pos} (h : coOf op = some o) (hs : isSet b = false) (ha : PE X a (tE R C W x)) (hb : PE X b (tE R C W y)) : PT X (.Compare a [op] [b] p) (tT R C W (.cmp o x y)) := by
  have h1 := op_co A.hK (by have := A.hu; omega) o
  rw [coOf_op h] at h1
  refine pt_imp (pt_cmpR h1 ha hb (beh_of hs)) fun σ H Q q => ?_
  obtain ⟨ρ, m, env, S, p⟩ := q
  simp only [ev] at p
  refine ⟨ρ, m, env, S, p.bnd fun u m1 _ p1 ρ1 H1 vu e1 M1 r1 _ => ?_⟩
  refine nextE S e1 M1 p1 fun w m2 p2 ρ2 H2 vw e2 M2 r2 _ => ?_
  split at p2
  · rename_i d hd
    obtain ⟨k, hk, p2⟩ := p2
    cases hk
    exact ⟨ρ2, m2, u, w, d, M2, VR.ext e2 u vu r1, r2, hd, d, rfl, p2 ρ2 H2 (e1.trans e2) M2⟩
  · exact p2.elim
theorem marks2 {op op' : CmpOp} {b c : Expr} (h : isSet c = false) : lastMarks [op, op'] [b, c] = false := by
  show behindInMarks op' c = false
  exact beh_of h
theorem pe_cmp2 (A : Ag G S R C W X) {a b c : Expr} {x y z : Ex} {op op' : CmpOp} {o o' : CO} {p : Pos} (h : coOf op = some o) (h' : coOf op' = some o') (hs : isSet c = false) (ha : PE X a (tE R C W x)) (hb : PE X b (tE R C W y)) (hc : PE X c (tE R C W z)) :
    PE X (.Compare a [op, op'] [b, c] p) (tE R C W (.cmp2 o o' x y z)) := by
  have h1 := op_co A.hK (by have := A.hu; omega) o
  have h2 := op_co A.hK (by have := A.hu; omega) o'
  rw [coOf_op h] at h1
  rw [coOf_op h'] at h2
  refine pe_imp (pe_chain h1 h2 ha hb hc (marks2 hs)) fun σ H Q q => ?_
  obtain ⟨ρ, m, env, S, p⟩ := q
  simp only [ev] at p
  refine ⟨ρ, m, env, S, p.bnd fun u m1 _ p1 ρ1 H1 vu e1 M1 r1 _ => ?_⟩
  refine nextE S e1 M1 p1 fun w m2 p2 ρ2 H2 vw e2 M2 r2 _ => ?_
  split at p2
  · rename_i hd
    refine ⟨ρ2, m2, u, w, true, M2, VR.ext e2 u vu r1, r2, hd, true, rfl, ?_⟩
    rw [if_pos rfl]
    refine nextE S (e1.trans e2) M2 p2 fun t m3 p3 ρ3 H3 vt e3 M3 r3 _ => ?_
    split at p3
    · rename_i d hd3
      exact ⟨ρ3, m3, w, t, d, M3, VR.ext e3 w vw r2, r3, hd3, p3 ρ3 H3 _ ((e1.trans e2).trans e3) M3 (by simp [VR]) (fun z => by cases z)⟩
    · exact p3.elim
  · rename_i hd
    refine ⟨ρ2, m2, u, w, false, M2, VR.ext e2 u vu r1, r2, hd, false, rfl, ?_⟩
    rw [if_neg Bool.false_ne_true]
    exact p2 ρ2 H2 _ (e1.trans e2) M2 (by simp [VR]) (fun z => by cases z)
  · exact p2.elim
theorem pt_cmp2 (A : Ag G S R C W X) {a b c : Expr} {x y z : Ex} {op op' : CmpOp} {o o' : CO} {p : Pos} (h : coOf op = some o) (h' : coOf op' = some o') (hs : isSet c = false) (ha : PE X a (tE R C W x)) (hb : PE X b (tE R C W y)) (hc : PE X c (tE R C W z)) :
    PT X (.Compare a [op, op'] [b, c] p) (tT R C W (.cmp2 o o' x y z)) := by
  have h1 := op_co A.hK (by have := A.hu; omega) o
  have h2 := op_co A.hK (by have := A.hu; omega) o'
  rw [coOf_op h] at h1
  rw [coOf_op h'] at h2
  refine pt_imp (pt_chain h1 h2 ha hb hc (marks2 hs)) fun σ H Q q => ?_
  obtain ⟨ρ, m, env, S, p⟩ := q
  simp only [ev] at p
  refine ⟨ρ, m, env, S, p.bnd fun u m1 _ p1 ρ1 H1 vu e1 M1 r1 _ => ?_⟩
  refine nextE S e1 M1 p1 fun w m2 p2 ρ2 H2 vw e2 M2 r2 _ => ?_
  split at p2
  · rename_i hd
    refine ⟨ρ2, m2, u, w, true, M2, VR.ext e2 u vu r1, r2, hd, true, rfl, ?_⟩
    rw [if_pos rfl]
    refine nextE S (e1.trans e2) M2 p2 fun t m3 p3 ρ3 H3 vt e3 M3 r3 _ => ?_
    split at p3
    · rename_i d hd3
      obtain ⟨k, hk, p3⟩ := p3
      cases hk
      exact ⟨ρ3, m3, w, t, d, M3, VR.ext e3 w vw r2, r3, hd3, d, rfl, p3 ρ3 H3 ((e1.trans e2).trans e3) M3⟩
    · exact p3.elim
  · rename_i hd
    obtain ⟨k, hk, p2⟩ := p2
    cases hk
    refine ⟨ρ2, m2, u, w, false, M2, VR.ext e2 u vu r1, r2, hd, false, rfl, ?_⟩
    rw [if_neg Bool.false_ne_true]
    exact ⟨false, rfl, p2 ρ2 H2 (e1.trans e2) M2⟩
  · exact p2.elim
/-! and, or, not, a if c else b -/
theorem pe_and2 (A : Ag G S R C W X) {a b : Expr} {rest : List Expr} {x y : Ex} {p : Pos} (ha : PE X a (tE R C W x)) (hb : PE X (.BoolOp .And (b :: rest) p) (tE R C W y)) : PE X (.BoolOp .And (a :: b :: rest) p) (tE R C W (.andE x y)) := by
  refine pe_imp (pe_andT ha hb) fun σ H Q q => ?_
  obtain ⟨ρ, m, env, S, p⟩ := q
  simp only [ev] at p
  refine ⟨ρ, m, env, S, p.bnd fun u m1 _ p1 ρ1 H1 vu e1 M1 r1 n1 => ?_⟩
  split at p1
  · rename_i hd
    refine ⟨true, tru_rel A.hK M1 r1 hd, ?_⟩
    rw [if_pos rfl]
    refine ⟨ρ1, m1, env, S.ext e1 M1, ?_⟩
    have p2 := p1.ext e1
    cases hr : ev C y env m1 with
    | ok d m2 =>
      rw [hr] at p2
      exact fun ρ2 H2 v e2 M2 r2 n2 => p2 ρ2 H2 v (e1.trans e2) M2 r2 fun hf => (n2 (by simp only [fre, Bool.and_eq_true] at hf; exact hf.2)).back M1 e1
    | exc c fs m2 =>
      rw [hr] at p2
      exact p2
    | bad =>
      rw [hr] at p2
      exact p2
  · rename_i hd
    refine ⟨false, tru_rel A.hK M1 r1 hd, ?_⟩
    rw [if_neg Bool.false_ne_true]
    exact p1 ρ1 H1 vu e1 M1 r1 fun hf => n1 (by simp only [fre, Bool.and_eq_true] at hf; exact hf.1)
  · exact p1.elim
theorem pe_or2 (A : Ag G S R C W X) {a b : Expr} {rest : List Expr} {x y : Ex} {p : Pos} (ha : PE X a (tE R C W x)) (hb : PE X (.BoolOp .Or (b :: rest) p) (tE R C W y)) : PE X (.BoolOp .Or (a :: b :: rest) p) (tE R C W (.orE x y)) := by
  refine pe_imp (pe_orT ha hb) fun σ H Q q => ?_
  obtain ⟨ρ, m, env, S, p⟩ := q
  simp only [ev] at p
  refine ⟨ρ, m, env, S, p.bnd fun u m1 _ p1 ρ1 H1 vu e1 M1 r1 n1 => ?_⟩
  split at p1
  · rename_i hd
    refine ⟨true, tru_rel A.hK M1 r1 hd, ?_⟩
    rw [if_pos rfl]
    exact p1 ρ1 H1 vu e1 M1 r1 fun hf => n1 (by simp only [fre, Bool.and_eq_true] at hf; exact hf.1)
  · rename_i hd
    refine ⟨false, tru_rel A.hK M1 r1 hd, ?_⟩
    rw [if_neg Bool.false_ne_true]
    refine ⟨ρ1, m1, env, S.ext e1 M1, ?_⟩
    have p2 := p1.ext e1
    cases hr : ev C y env m1 with
    | ok d m2 =>
      rw [hr] at p2
      exact fun ρ2 H2 v e2 M2 r2 n2 => p2 ρ2 H2 v (e1.trans e2) M2 r2 fun hf => (n2 (by simp only [fre, Bool.and_eq_true] at hf; exact hf.2)).back M1 e1
    | exc c fs m2 =>
      rw [hr] at p2
      exact p2
    | bad =>
      rw [hr] at p2
      exact p2
  · exact p1.elim
theorem pe_not1 (A : Ag G S R C W X) {a : Expr} {x : Ex} {p : Pos} (ha : PE X a (tE R C W x)) : PE X (.UnaryOp .Not a p) (tE R C W (.notE x)) := by
  refine pe_imp (pe_notT ha) fun σ H Q q => ?_
  obtain ⟨ρ, m, env, S, p⟩ := q
  simp only [ev] at p
  refine ⟨ρ, m, env, S, p.bnd fun u m1 _ p1 ρ1 H1 vu e1 M1 r1 n1 => ?_⟩
  split at p1
  · rename_i b hd
    exact ⟨b, tru_rel A.hK M1 r1 hd, p1 ρ1 H1 _ e1 M1 (by simp [VR]) (fun z => by cases z)⟩
  · exact p1.elim
/-- a test by its value's truth -/
theorem pt_gen (A : Ag G S R C W X) {a : Expr} {x : Ex} (ha : PE X a (tE R C W x)) (he : ∀ whole, isTrue a X.env whole = (do let v ← whole; standAt a.pos; holding [v] (truthy v))) : PT X a (tT R C W x) := by
  refine pt_imp (pt_truth ha he) fun σ H Q q => ?_
  obtain ⟨ρ, m, env, S, p⟩ := q
  refine ⟨ρ, m, env, S, ?_⟩
  cases hr : ev C x env m with
  | ok d m2 =>
    rw [hr] at p
    obtain ⟨b, hb, p⟩ := p
    exact fun ρ2 H2 v e2 M2 r2 n2 => ⟨b, tru_rel A.hK M2 r2 hb, p ρ2 H2 e2 M2⟩
  | exc c fs m2 =>
    rw [hr] at p
    exact p
  | bad =>
    rw [hr] at p
    exact p
/-- the next test from where the last one ended -/
theorem nextT {ρ ρ1 : List Addr} {H H1 : Hp} {m1 : Mem} {env : Env} {σ : L2.St} {m : Mem} {β : Type} {b : Ex} {k : D → Mem → Res β} {K : β → Mem → Prop} {Q : Bool → Hp → Prop} (S : SR R ρ H m env σ) (e1 : Ext ρ H ρ1 H1) (M1 : MR R ρ1 H1 m1) (p : Post R W σ ρ H ((ev C b env m1).bnd k) K)
    (h : ∀ y m2, Post R W σ ρ H (k y m2) K → ∃ c, truV m2 y = some c ∧ ∀ ρ2 H2, Ext ρ1 H1 ρ2 H2 → MR R ρ2 H2 m2 → Q c H2) : tT R C W b σ H1 Q :=
  ⟨ρ1, m1, env, S.ext e1 M1, (p.ext e1).bnd fun y m2 er _ => by
    rw [er] at p
    exact h y m2 p⟩
theorem pe_ite {c a b : Expr} {z x y : Ex} {p : Pos} (hc : PT X c (tT R C W z)) (ha : PE X a (tE R C W x)) (hb : PE X b (tE R C W y)) : PE X (.IfExp c a b p) (tE R C W (.ite z x y)) := by
  refine pe_imp (pe_ifExp hc ha hb) fun σ H Q q => ?_
  obtain ⟨ρ, m, env, S, p⟩ := q
  simp only [ev] at p
  refine ⟨ρ, m, env, S, p.bnd fun u m1 _ p1 => ?_⟩
  have go : ∀ w : Ex, (fre R.ff (.ite z x y) = true → fre R.ff w = true) → Post R W σ ρ H (ev C w env m1) (VE R ρ H (fre R.ff (.ite z x y)) Q) → ∀ ρ1 H1, Ext ρ H ρ1 H1 → MR R ρ1 H1 m1 → tE R C W w σ H1 Q := fun w hw p1 ρ1 H1 e1 M1 => by
    refine ⟨ρ1, m1, env, S.ext e1 M1, ?_⟩
    have p2 := p1.ext e1
    cases hr : ev C w env m1 with
    | ok d m2 =>
      rw [hr] at p2
      exact fun ρ2 H2 v e2 M2 r2 n2 => p2 ρ2 H2 v (e1.trans e2) M2 r2 fun hf => (n2 (hw hf)).back M1 e1
    | exc c fs m2 =>
      rw [hr] at p2
      exact p2
    | bad =>
      rw [hr] at p2
      exact p2
  split at p1
  · rename_i hd
    exact ⟨true, hd, fun ρ1 H1 e1 M1 => by dsimp only; rw [if_pos rfl]; exact go x (fun hf => by simp only [fre, Bool.and_eq_true] at hf; exact hf.1) p1 ρ1 H1 e1 M1⟩
  · rename_i hd
    exact ⟨false, hd, fun ρ1 H1 e1 M1 => by dsimp only; rw [if_neg Bool.false_ne_true]; exact go y (fun hf => by simp only [fre, Bool.and_eq_true] at hf; exact hf.2) p1 ρ1 H1 e1 M1⟩
  · exact p1.elim
end
end MP

namespace MP
open PySem L2 PySem.Spec PyProof.Rows
section
variable {G : Gt} {S : Sc} {R : Rc} {C : Nat → List D → Mem → Res D} {W : WX} {X : Cx}
/-! ### lists of expressions -/
theorem star_cons {e : Expr} {es : List Expr} {env : PySem.Env} (h : isStar e = false) : starEach (e :: es) env = (false, eval e env) :: starEach es env := by
  cases e <;> first | (cases h; done) | rfl | (unfold starEach; rfl)
theorem star_any {es : List Expr} {env : PySem.Env} {p : Pos} (h : es.any isStar = false) : (backTo p (starEach es env)).any (·.1) = false := by
  induction es with
  | nil => rfl
  | cons e es ih =>
    rw [List.any_cons, Bool.or_eq_false_iff] at h
    rw [star_cons h.1]
    show (false || (backTo p (starEach es env)).any (·.1)) = false
    rw [ih h.2] <;> rfl
theorem pa_nil0 : PA X [] (MP.tA R C W .nil) := pa_imp pa_nil fun σ H Q q => by
  obtain ⟨ρ, m, env, S, p⟩ := q
  have p : ∀ ρ' H' vs, Ext ρ H ρ' H' → MR R ρ' H' m → VRs R ρ' H' [] vs → Q vs H' := p
  exact p ρ H [] Ext.refl S.mem (by simp [VRs])
theorem pa_cons1 {e : Expr} {es : List Expr} {x : Ex} {xs : Exs} (hs : isStar e = false) (ha : PE X e (tE R C W x)) (hb : PA X es (MP.tA R C W xs)) : PA X (e :: es) (MP.tA R C W (.cons x xs)) := by
  refine pa_imp (pa_cons ha hb (star_cons hs)) fun σ H Q q => ?_
  obtain ⟨ρ, m, env, S, p⟩ := q
  simp only [evs] at p
  refine ⟨ρ, m, env, S, p.bnd fun u m1 _ p1 ρ1 H1 vu e1 M1 r1 _ => ?_⟩
  refine ⟨ρ1, m1, env, S.ext e1 M1, (p1.ext e1).bnd fun y m2 er _ => ?_⟩
  rw [er] at p1
  intro ρ2 H2 vs e2 M2 r2
  exact p1 ρ2 H2 (vu :: vs) (e1.trans e2) M2 (by simp only [VRs]; exact ⟨VR.ext e2 u vu r1, r2⟩)
/-- with a bad one nothing is asked -/
theorem tA_bad {σ : L2.St} {H : Hp} {Q : List V → Hp → Prop} (h : MP.tA R C W (.cons .bad .nil) σ H Q) : False := by
  obtain ⟨ρ, m, env, S, p⟩ := h
  exact p.elim
/-! ### displays -/
def tTupS (t : TA) : TE := fun σ H Q => t σ H fun xs H1 => xs.length ≤ sizeLine ∧ ∀ (p : Addr) (o : Obj), o.dict = none → H1 p = none → Q (.ref p) (upd H1 p (.frz o (.tup xs)))
theorem pe_tupS {es : List Expr} {t : TA} {x1 : Nat} {pos : Pos} (h : PA X es t) : PE X (.Tuple es x1 pos) (tTupS t) := by
  refine ⟨fun pn s σ H Q I hq => wpAny_Tuple_spliced (thn (h.run pos pn s σ H _ I hq) fun us s1 ⟨xs, H1, I1, r, z, q⟩ => ⟨by rw [← r.length]; exact z, ?_⟩)⟩
  exact ⟨.ref s1.heap.objs.size, _, tnew (t' := s1.toks) I1 r z, rfl, q _ _ rfl (I1.hok.fresh (Nat.le_refl _))⟩
theorem VE.qv {ρ : List Addr} {H : Hp} {fr : Bool} {Q : VK} {d : D} {m : Mem} {ρ' : List Addr} {H' : Hp} {m2 : Mem} (h : VE R ρ H fr Q d m) (M : MR R ρ' H' m2) (e : Ext ρ H ρ' H') : QV R ρ' H' m d Q := QV.of M h e
theorem pe_tup1 {es : List Expr} {xs : Exs} {k : Nat} {p : Pos} (h : PA X es (MP.tA R C W xs)) : PE X (.Tuple es k p) (tE R C W (.tup xs)) := by
  refine pe_imp (pe_tupS h) fun σ H Q q => ?_
  obtain ⟨ρ, m, env, S, p⟩ := q
  simp only [ev] at p
  refine ⟨ρ, m, env, S, p.bnd fun ds m1 _ p1 ρ1 H1 vs e1 M1 r1 => ?_⟩
  split at p1
  · rename_i hl
    exact ⟨by rw [← r1.length]; exact hl, fun p o ho hp => (p1.qv M1 e1).tup M1 r1 hp ho⟩
  · exact p1.elim
theorem pe_lst1 {es : List Expr} {xs : Exs} {p : Pos} (h : PA X es (MP.tA R C W xs)) : PE X (.List es p) (tE R C W (.lst xs)) := by
  refine pe_imp (pe_lst h) fun σ H Q q => ?_
  obtain ⟨ρ, m, env, S, p⟩ := q
  simp only [ev] at p
  refine ⟨ρ, m, env, S, p.bnd fun ds m1 _ p1 ρ1 H1 vs e1 M1 r1 => ?_⟩
  split at p1
  · rename_i hl
    exact ⟨by rw [← r1.length]; exact hl, fun p hp => (p1.qv M1 e1).lst M1 r1 hp⟩
  · exact p1.elim
theorem pe_newL {es : List Expr} {xs : Exs} {p : Pos} (h : PA X es (MP.tA R C W xs)) : PE X (.List es p) (tE R C W (.newL xs)) := by
  refine pe_imp (pe_lst h) fun σ H Q q => ?_
  obtain ⟨ρ, m, env, S, p⟩ := q
  simp only [ev] at p
  refine ⟨ρ, m, env, S, p.bnd fun ds m1 _ p1 ρ1 H1 vs e1 M1 r1 => ?_⟩
  split at p1
  · rename_i hl
    exact ⟨by rw [← r1.length]; exact hl, fun p hp => (p1.qv M1 e1).newL M1 r1 hp⟩
  · exact p1.elim
/-! ### a new list becomes one that may change -/
mutual
theorem thaw_vr {ρ : List Addr} {H : Hp} {a : Addr} {us : List V} (ha : H a = some (.lst us)) : ∀ (d : D) (v : V), VR R ρ H d v → noL d = true → VR R (ρ ++ [a]) H d v
  | .non, v, h, _ => by simpa [VR] using h
  | .bl b, v, h, _ => by simpa [VR] using h
  | .int i, v, h, _ => by simpa [VR] using h
  | .str x, v, h, _ => by simpa [VR] using h
  | .tup ds, v, h, n => by
    obtain ⟨b, vs, r, t, s⟩ := vr_tup h
    simp only [noL] at n
    simp only [VR]
    refine ⟨b, vs, r, ?_, thaw_vrs ha ds vs s n⟩
    rcases t with ⟨n1, o, n2, n3⟩ | t
    · refine .inl ⟨fun q => ?_, o, n2, n3⟩
      rcases List.mem_append.mp q with q | q
      · exact n1 q
      · rw [List.mem_singleton.mp q, ha] at n3
        cases n3
    · exact .inr t
  | .wtup ds, v, h, n => by
    simp only [noL] at n
    simp only [VR] at h ⊢
    obtain ⟨b, vs, r, n1, t, s⟩ := h
    refine ⟨b, vs, r, fun q => ?_, t, thaw_vrs ha ds vs s n⟩
    rcases List.mem_append.mp q with q | q
    · exact n1 q
    · rw [List.mem_singleton.mp q, ha] at t
      cases t
  | .lst ds, v, h, n => by simp [noL] at n
  | .scr ns, v, h, n => by simp [noL] at n
  | .ref k, v, h, _ => by
    obtain ⟨b, r, t⟩ := vr_ref h
    simp only [VR]
    exact ⟨b, by rw [List.getElem?_append_left (List.getElem?_eq_some_iff.mp r).1]; exact r, t⟩
  | .fn x, v, h, _ => by simpa [VR] using h
  | .ty x, v, h, _ => by simpa [VR] using h
theorem thaw_vrs {ρ : List Addr} {H : Hp} {a : Addr} {us : List V} (ha : H a = some (.lst us)) : ∀ (ds : List D) (vs : List V), VRs R ρ H ds vs → noLs ds = true → VRs R (ρ ++ [a]) H ds vs
  | [], [], _, _ => by simp [VRs]
  | d :: ds, v :: vs, h, n => by
    simp only [VRs] at h ⊢
    simp only [noLs, Bool.and_eq_true] at n
    exact ⟨thaw_vr ha d v h.1 n.1, thaw_vrs ha ds vs h.2 n.2⟩
  | [], _ :: _, h, _ => by simp [VRs] at h
  | _ :: _, [], h, _ => by simp [VRs] at h
end
theorem noLs_all : ∀ {ds : List D}, noLs ds = ds.all noL
  | [] => rfl
  | d :: ds => by
    simp only [noLs, List.all_cons]
    rw [noLs_all]
theorem noLs_rev {ds : List D} (h : noLs ds = true) : noLs ds.reverse = true := by
  rw [noLs_all] at h ⊢
  rw [List.all_reverse]
  exact h
theorem thaw_or {ρ : List Addr} {H : Hp} {a : Addr} {us : List V} (ha : H a = some (.lst us)) {o : O} {b : Addr} (h : OR R ρ H o b) (n : noO o = true) : OR R (ρ ++ [a]) H o b := by
  cases o with
  | lst ds =>
    obtain ⟨vs, h1, h2⟩ := h
    exact ⟨vs, h1, thaw_vrs ha _ _ h2 n⟩
  | dic kvs =>
    obtain ⟨ws, h1, h2, h3⟩ := h
    exact ⟨ws, h1, h2, thaw_vrs ha _ _ h3 n⟩
  | fdic kvs =>
    obtain ⟨o, ws, h1, h2, h3⟩ := h
    exact ⟨o, ws, h1, h2, thaw_vrs ha _ _ h3 n⟩
  | acc ds =>
    obtain ⟨vs, h1, h2⟩ := h
    refine ⟨vs, h1, thaw_vrs ha _ _ h2 ?_⟩
    exact noLs_rev n
theorem thaw_mr {ρ : List Addr} {H : Hp} {m : Mem} {a : Addr} {ds : List D} {us : List V} (M : MR R ρ H m) (na : a ∉ ρ) (ha : H a = some (.lst us)) (r : VRs R ρ H ds us) (n1 : noLs ds = true) (n2 : m.all noO = true) : MR R (ρ ++ [a]) H (m ++ [.lst ds]) := by
  refine ⟨by simp [M.len], ?_, fun k o h => ?_⟩
  · rw [List.nodup_append]
    refine ⟨M.nd, by simp, fun b hb c hc => ?_⟩
    rw [List.mem_singleton.mp hc]
    exact fun q => na (q ▸ hb)
  · by_cases hk : k < m.length
    · rw [List.getElem?_append_left hk] at h
      obtain ⟨b, hb, t⟩ := M.ob k o h
      refine ⟨b, ?_, thaw_or ha t (List.all_eq_true.mp n2 o (List.mem_of_getElem? h))⟩
      rw [List.getElem?_append_left (by rw [M.len]; exact hk)]
      exact hb
    · have e : k = m.length := by
        have := (List.getElem?_eq_some_iff.mp h).1
        simp at this
        omega
      subst e
      rw [List.getElem?_append_right (Nat.le_refl _), Nat.sub_self] at h
      cases h
      refine ⟨a, ?_, us, ha, thaw_vrs ha _ _ r n1⟩
      rw [List.getElem?_append_right (by rw [M.len]; exact Nat.le_refl _), M.len, Nat.sub_self]
      rfl
theorem thaw_tE {x : Ex} (hf : fre R.ff x = true) {σ : L2.St} {H : Hp} {Q : VK} (q : tE R C W (.thaw x) σ H Q) : tE R C W x σ H Q := by
  obtain ⟨ρ, m, env, S, p⟩ := q
  simp only [ev] at p
  refine ⟨ρ, m, env, S, p.bnd fun u m1 _ p1 ρ1 H1 v e1 M1 r1 n1 => ?_⟩
  split at p1
  · rename_i ds _
    split at p1
    · rename_i hn
      rw [Bool.and_eq_true] at hn
      obtain ⟨b, us, rfl, nb, hb, rs⟩ := vr_lst r1
      have p1 : VE R ρ H true Q (.ref m1.length) (m1 ++ [.lst ds]) := p1
      have fresh : H b = none := n1 hf ds rfl b rfl
      refine p1 (ρ1 ++ [b]) H1 _ ⟨e1.pre.trans (List.prefix_append _ _), fun c hc nc => ?_, e1.frm, e1.frz⟩ (thaw_mr M1 nb hb rs hn.1 hn.2) ?_ (fun _ ds e => by cases e)
      · rcases List.mem_append.mp hc with hc | hc
        · exact e1.new c hc nc
        · rw [List.mem_singleton.mp hc]
          exact fresh
      · simp only [VR]
        exact ⟨b, by rw [← M1.len]; simp, rfl⟩
    · exact p1.elim
  · rename_i hne
    exact p1 ρ1 H1 v e1 M1 r1 (fun _ ds e => (hne ds e).elim)
theorem pe_thaw {a : Expr} {x : Ex} (hf : fre R.ff x = true) (ha : PE X a (tE R C W x)) : PE X a (tE R C W (.thaw x)) := pe_imp ha fun _ _ _ q => thaw_tE hf q
/-! ### subscripts, slices -/
theorem plain_ix {b : Expr} (h : isSlice b = false) : PlainIx b := by
  intro o i
  cases b <;> first | (cases h; done) | rfl
theorem pe_ix1 (A : Ag G S R C W X) {a b : Expr} {x y : Ex} {p : Pos} (hs : isSlice b = false) (ha : PE X a (tE R C W x)) (hb : PE X b (tE R C W y)) : PE X (.Subscript a b p) (tE R C W (.ix x y)) := by
  refine pe_imp (pe_ix (ix_ok A.hK (by have := A.hu; omega)) ha hb (plain_ix hs)) fun σ H Q q => ?_
  obtain ⟨ρ, m, env, S, p⟩ := q
  simp only [ev] at p
  refine ⟨ρ, m, env, S, p.bnd fun u m1 _ p1 ρ1 H1 vu e1 M1 r1 _ => ?_⟩
  refine nextE S e1 M1 p1 fun w m2 p2 ρ2 H2 vw e2 M2 r2 _ => ?_
  split at p2
  · rename_i d hd
    exact ⟨ρ2, m2, u, w, d, M2, VR.ext e2 u vu r1, r2, hd, fun v hv => p2 ρ2 H2 v (e1.trans e2) M2 hv (fun z => by cases z)⟩
  · exact p2.elim
/-- a part of a slice -/
def tO (es : Exs) : L2.St → Hp → (Option Int → Hp → Prop) → Prop := fun σ H Q => ∃ ρ m env, SR R ρ H m env σ ∧ Post R W σ ρ H (evs C es env m) fun l m' => ∃ ns, ints? l = some ns ∧ ∀ ρ' H', Ext ρ H ρ' H' → MR R ρ' H' m' → Q ns.head? H'
theorem po_nil0 : PO X none (tO (R := R) (C := C) (W := W) .nil) := ⟨fun pn s σ H Q I q => po_none.run pn s σ H Q I (by
  obtain ⟨ρ, m, env, S, p⟩ := q
  have p : ∃ ns, ints? [] = some ns ∧ ∀ ρ' H', Ext ρ H ρ' H' → MR R ρ' H' m → Q ns.head? H' := p
  obtain ⟨ns, e, p⟩ := p
  cases e
  exact p ρ H Ext.refl S.mem)⟩
theorem po_one {e : Expr} {x : Ex} (h : PE X e (tE R C W x)) : PO X (some e) (tO (R := R) (C := C) (W := W) (.cons x .nil)) := ⟨fun pn s σ H Q I q => (po_some h).run pn s σ H Q I (by
  obtain ⟨ρ, m, env, S, p⟩ := q
  simp only [evs] at p
  refine ⟨ρ, m, env, S, p.bnd fun u m1 _ p1 ρ1 H1 v e1 M1 r1 _ => ?_⟩
  have p1 : ∃ ns, ints? [u] = some ns ∧ ∀ ρ' H', Ext ρ H ρ' H' → MR R ρ' H' m1 → Q ns.head? H' := p1
  obtain ⟨ns, e, p1⟩ := p1
  cases u with
  | int i =>
    cases e
    exact ⟨i, vr_int r1, p1 ρ1 H1 e1 M1⟩
  | _ => cases e)⟩
theorem pe_sl1 (A : Ag G S R C W X) {a : Expr} {lo hi : Option Expr} {x : Ex} {l h : Exs} {p p2 : Pos} (ha : PE X a (tE R C W x)) (hl : PO X lo (tO (R := R) (C := C) (W := W) l)) (hh : PO X hi (tO (R := R) (C := C) (W := W) h)) :
    PE X (.Subscript a (.Slice lo hi none p2) p) (tE R C W (.sl x l h)) := by
  refine pe_imp (pe_slice (sl_ok A.hK) ha hl hh) fun σ H Q q => ?_
  obtain ⟨ρ, m, env, S, p⟩ := q
  simp only [ev] at p
  refine ⟨ρ, m, env, S, p.bnd fun u m1 _ p1 ρ1 H1 v e1 M1 r1 _ => ?_⟩
  refine ⟨ρ1, m1, env, S.ext e1 M1, (p1.ext e1).bnd fun l m2 er _ => ?_⟩
  rw [er] at p1
  dsimp only [Res.bnd] at p1
  split at p1
  · rename_i ns hns
    refine ⟨ns, hns, fun ρ2 H2 e2 M2 => ⟨ρ2, m2, env, S.ext (e1.trans e2) M2, (p1.ext (e1.trans e2)).bnd fun h m3 er3 _ => ?_⟩⟩
    rw [er3] at p1
    dsimp only [Res.bnd] at p1
    split at p1
    · rename_i ks hks
      refine ⟨ks, hks, fun ρ3 H3 e3 M3 => ?_⟩
      split at p1
      · rename_i d hd
        exact ⟨ρ3, m3, u, d, M3, VR.ext (e2.trans e3) u v r1, hd, QV.of M3 p1 ((e1.trans e2).trans e3)⟩
      · exact p1.elim
    · exact p1.elim
  · exact p1.elim
theorem pe_rev1 (A : Ag G S R C W X) {a : Expr} {x : Ex} {k : Nat} {p1 p2 p3 p : Pos} (ha : PE X a (tE R C W x)) : PE X (.Subscript a (.Slice none none (some (.UnaryOp .USub (.Constant (.int 1) k p1) p2)) p3) p) (tE R C W (.rev x)) := by
  refine pe_imp (pe_revL ha) fun σ H Q q => ?_
  obtain ⟨ρ, m, env, S, p⟩ := q
  simp only [ev] at p
  refine ⟨ρ, m, env, S, p.bnd fun u m1 _ p1 ρ1 H1 v e1 M1 r1 _ => ?_⟩
  split at p1
  · rename_i d hd
    unfold revV at hd
    split at hd
    · rename_i ds _
      cases hd
      obtain ⟨b, us, rfl, nb, hb, rs⟩ := vr_lst r1
      exact ⟨b, us, rfl, .inl (.inl hb), fun q hq => (p1.qv M1 e1).lst M1 rs.reverse hq⟩
    · split at hd
      · rename_i ds e2
        cases hd
        obtain ⟨b, us, _, rfl, hb, rs⟩ := vr_refL M1 r1 e2
        exact ⟨b, us, rfl, .inl (.inl hb), fun q hq => (p1.qv M1 e1).lst M1 rs.reverse hq⟩
      · cases hd
    · cases hd
  · exact p1.elim
/-! ### calls -/
theorem call_tE {b : B} {xs : Exs} {σ : L2.St} {H : Hp} {Q : VK} (h : tE R C W (.callB b xs) σ H Q) : tCB (rCall R b) (MP.tA R C W xs) σ H Q := by
  obtain ⟨ρ, m, env, S, p⟩ := h
  simp only [ev] at p
  refine ⟨ρ, m, env, S, p.bnd fun ds m1 _ p1 ρ1 H1 vs e1 M1 r1 => ?_⟩
  split at p1
  · rename_i d m2 hd
    exact ⟨ρ1, m1, ds, d, m2, M1, r1, hd, QV.of M1 p1 e1⟩
  · exact p1.elim
theorem pe_cb (A : Ag G S R C W X) {b : B} {f : Str} {e : Expr} {es : List Expr} {xs : Exs} {p pos : Pos} (hb : b ≠ .lenset) (hf : f ∈ G.free) (hv : bootBuiltins f = some b.val) (hn : nmOk f = true) (hg : S.sc.names.lookup f = some .globalImplicit)
    (ha : PA X (e :: es) (MP.tA R C W xs)) (hs : (e :: es).any isStar = false) : PE X (.Call (.Name f p) (e :: es) [] pos) (tE R C W (.callB b xs)) := by
  rw [List.any_cons, Bool.or_eq_false_iff] at hs
  obtain ⟨n1, _, n3⟩ := nm_ok hn
  have cr := op_callB A.hK A.calm A.hu b hb
  have tyCase : ∀ T, b.val = .type T → PE X (.Call (.Name f p) (e :: es) [] pos) (tE R C W (.callB b xs)) := fun T hT => by
    rw [hT] at cr hv
    exact pe_imp (pe_callTy cr (A.gl hg) (A.bl f hf) hv ha n3 n1 (star_cons hs.1) (star_any hs.2)) fun σ H Q q => call_tE q
  have blCase : ∀ T, b.val = .builtin T → PE X (.Call (.Name f p) (e :: es) [] pos) (tE R C W (.callB b xs)) := fun T hT => by
    rw [hT] at cr hv
    exact pe_imp (pe_callB cr (A.gl hg) (A.bl f hf) hv ha n3 n1 (star_cons hs.1) (star_any hs.2)) fun σ H Q q => call_tE q
  cases b with
  | lenset => exact absurd rfl hb
  | tuple => exact tyCase _ rfl
  | list => exact tyCase _ rfl
  | int => exact tyCase _ rfl
  | str => exact tyCase _ rfl
  | dict => exact tyCase _ rfl
  | _ => exact blCase _ rfl
theorem pe_lenset (A : Ag G S R C W X) {a : Expr} {x : Ex} {p p2 q pos : Pos} (h1 : ("len" : Str) ∈ G.free) (h2 : ("set" : Str) ∈ G.free) (g1 : S.sc.names.lookup ("len" : Str) = some .globalImplicit) (g2 : S.sc.names.lookup ("set" : Str) = some .globalImplicit) (hs : isStar a = false) (ha : PE X a (tE R C W x)) :
    PE X (.Call (.Name "len" p) [.Call (.Name "set" p2) [a] [] q] [] pos) (tE R C W (.callB .lenset (.cons x .nil))) := by
  refine pe_imp (pe_ls A.hK A.calm (A.gl g1) (A.bl _ h1) (A.gl g2) (A.bl _ h2) ha (star_cons hs) (star_cons rfl)) fun σ H Q q => ?_
  obtain ⟨ρ, m, env, S, p⟩ := q
  simp only [ev, evs] at p
  have p : Post R W σ ρ H ((ev C x env m).bnd fun u m1 => match callV .lenset m1 [u] with | some (d, m2) => .ok d m2 | none => .bad) (VE R ρ H (fre R.ff (.callB .lenset (.cons x .nil))) Q) := by
    cases hr : ev C x env m <;> (rw [hr] at p; exact p)
  refine ⟨ρ, m, env, S, p.bnd fun u m1 _ p1 ρ1 H1 v e1 M1 r1 _ => ?_⟩
  split at p1
  · rename_i d m2 hd
    exact ⟨ρ1, m1, u, d, m2, M1, r1, hd, QV.of M1 p1 e1⟩
  · exact p1.elim
/-! a def called -/
theorem callF_t {xs : Exs} {n : Nat} {σ : L2.St} {H : Hp} {Q : VK} (q : tE R C W (.callF n xs) σ H Q) : tCallS (CallOk R C n) (WE W) (MP.tA R C W xs) σ H Q := by
  obtain ⟨ρ, m, env, S, p⟩ := q
  simp only [ev] at p
  refine ⟨ρ, m, env, S, p.bnd fun ds m1 _ p1 ρ1 H1 vs e1 M1 r1 => ⟨ρ1, m1, ds, M1, r1, ?_⟩⟩
  cases hr : C n ds m1 with
  | ok d m2 =>
    rw [hr] at p1
    exact fun ρ2 H2 v e2 M2 r2 n2 => p1 ρ2 H2 v (e1.trans e2) M2 r2 fun hf => (n2 hf).back M1 e1
  | exc c fs m2 =>
    rw [hr] at p1
    obtain ⟨q1, a, q2, q3⟩ := p1
    exact ⟨q1, a, q2, fun ρ2 H2 e2 M2 => q3 ρ2 H2 (e1.trans e2) M2⟩
  | bad =>
    rw [hr] at p1
    exact p1

theorem pe_cf (A : Ag G S R C W X) {f : Str} {n : Nat} {e : Expr} {es : List Expr} {xs : Exs} {p pos : Pos} (hd : G.defs.lookup f = some n) (hn : nmOk f = true) (hg : S.sc.names.lookup f = some .globalImplicit)
    (ha : PA X (e :: es) (MP.tA R C W xs)) (hs : (e :: es).any isStar = false) : PE X (.Call (.Name f p) (e :: es) [] pos) (tE R C W (.callF n xs)) := by
  rw [List.any_cons, Bool.or_eq_false_iff] at hs
  obtain ⟨n1, _, n3⟩ := nm_ok hn
  obtain ⟨fa, fd, ps, k, h1, h2, h3, h4, h5, h6, _⟩ := A.fn f n hd
  refine pe_imp (pe_callS h6 h5 (A.gl hg) h2 h3 h4 (fun σ => passAt A.tk σ) ha n1 (star_cons hs.1) (star_any hs.2)) fun σ H Q q => ?_
  exact callF_t q
/-! a def called by its one parameter's name -/
theorem run_fnS1 {CX : CXT} {k : Nat} {f : Addr} {fd : FuncData} {q : Str} {sp : Sp} {E : L2.St → XK} {pins : List (Addr × Obj)} {σ : L2.St} {H : Hp} {s : Shared} {Q : VK} {u : Value} {vs : List V} (F : FnOk X.prog X.w X.K X.mg X.base CX k f fd [q] sp) (hr : Room k X.A) (hb : ∀ (s : Shared) (u : Value), BindsTo s fd ⟨[], [(q, u)]⟩ [(q, u)]) (hx : PassesAt CX X σ (E σ))
    (I : L2.Inv X pins σ H s) (r : Vals vs [u]) (h : sp vs H Q (E σ)) : wpAny (model X.prog X.w) X.A (call (.ref f) [] [(q, u)]) (EP X pins σ Q) X.xe s := by
  refine wpAny_call (codeAny_mono (F.run X.A X.stack s H ⟨[], [(q, u)]⟩ [u] vs Q (E σ) hr I.env0 (hb s u) r h) fun r s' hq => ?_)
  cases r with
  | error e => exact hx pins H s e s' I hq
  | ok fl =>
    cases fl with
    | ret u => exact I.after hq
    | next => exact False.elim hq
    | brk => exact False.elim hq
    | cont => exact False.elim hq
theorem pe_callS1 {CX : CXT} {k : Nat} {f : Addr} {fd : FuncData} {q x : Str} {sp : Sp} {E : L2.St → XK} {p pos kpos : Pos} {e : Expr} {t : TA} (F : FnOk X.prog X.w X.K X.mg X.base CX k f fd [q] sp) (hr : Room k X.A) (hg : Gl X x) (hm : X.mg x = some (.ref f)) (hk : PySem.W.keepIn X.K (.ref f) = true) (hb : ∀ (s : Shared) (u : Value), BindsTo s fd ⟨[], [(q, u)]⟩ [(q, u)]) (hx : ∀ σ, PassesAt CX X σ (E σ))
    (hkw : PK X [⟨some q, e, kpos⟩] t) (hdb : (x == ("__debug__" : Str)) = false) : PE X (.Call (.Name x p) [] [⟨some q, e, kpos⟩] pos) (tCallS sp E t) := by
  refine ⟨fun pins s σ H Q I h => ?_⟩
  refine wpAny_Call_Name_kw (ld_glob I hg hm ?_ hdb)
  refine PySem.W.callWith_KW0 (h₀ := X.base) I.ok.mod.kin hk rfl ?_ rfl
  refine thn (hkw.run pos pins s σ H _ I h) fun ws s2 ⟨zs, H2, I2, rz, q2⟩ => ⟨I2.kIn, ?_⟩
  cases rz with
  | nil => exact absurd (F.len _ _ _ _ q2) (by simp)
  | cons r1 r2 =>
    rename_i z zs' w ws'
    have hl := F.len _ _ _ _ q2
    cases r2 with
    | nil => exact run_fnS1 F hr hb (hx σ) I2 (.cons r1 .nil) q2
    | cons _ _ => simp at hl
theorem pe_cf1 (A : Ag G S R C W X) {f q : Str} {n : Nat} {e : Expr} {x : Ex} {p pos kpos : Pos} (hd : G.defs.lookup f = some n) (ho : G.one n = some q) (hn : nmOk f = true) (hg : S.sc.names.lookup f = some .globalImplicit)
    (he : PE X e (tE R C W x)) : PE X (.Call (.Name f p) [] [⟨some q, e, kpos⟩] pos) (tE R C W (.callF n (.cons x .nil))) := by
  obtain ⟨n1, _, n3⟩ := nm_ok hn
  obtain ⟨fa, fd, ps, k, h1, h2, h3, h4, h5, h6, h7⟩ := A.fn f n hd
  obtain ⟨rfl, hb⟩ := h7 q ho
  have hkw : PK X [⟨some q, e, kpos⟩] (MP.tA R C W (.cons x .nil)) := ⟨fun pos pn s σ H Q I h => (pk_cons he pk_nil).run pos pn s σ H Q I (by
    obtain ⟨ρ, m, env, S, p⟩ := h
    simp only [evs] at p
    refine ⟨ρ, m, env, S, p.bnd fun u m1 _ p1 ρ1 H1 vu e1 M1 r1 _ => ?_⟩
    exact p1 ρ1 H1 [vu] e1 M1 (by simp only [VRs]; exact ⟨r1, trivial⟩))⟩
  refine pe_imp (pe_callS1 h6 h5 (A.gl hg) h2 h3 hb (fun σ => passAt A.tk σ) hkw n1) fun σ H Q q => ?_
  exact callF_t q
/-! a method called -/
theorem base_name {x : Str} {p : Pos} {n : Str} {env : PySem.Env} {w : Sem Value} : attributeBase (.Name x p) n env w = w := rfl
theorem cls_is {pn : List (Addr × Obj)} {σ : L2.St} {ρ : List Addr} {H : Hp} {m : Mem} {s : Shared} {d : D} {v : V} {u : Value} {T : String} (hK : X.K = R.K) (I : L2.Inv X pn σ H s) (M : MR R ρ H m) (r : VR R ρ H d v) (ru : RelV v u) (e : mCls m d = some T) :
    s.TypeIs u T ∧ ∀ a, u = .ref a → ∃ ob, s.heap.get? a = some ob ∧ ob.dict = none := by
  have li : ∀ (a : Addr) (vs : List V), SqL X.K H a vs → s.TypeIs (.ref a) "list" ∧ ∀ b, Value.ref a = .ref b → ∃ ob, s.heap.get? b = some ob ∧ ob.dict = none := fun a vs hq => by
    obtain ⟨its, _, pl, _⟩ := I.list hq
    refine ⟨pl.isList.typeIs, fun b eb => ?_⟩
    cases eb
    obtain ⟨o, n, e, c, hd, _⟩ := pl
    exact ⟨o, e, hd⟩
  cases d with
  | str x =>
    cases e
    cases vr_str r
    obtain ⟨t, rfl⟩ := ru
    exact ⟨typeIs_str s x t, fun _ e => nomatch e⟩
  | tup ds =>
    cases e
    obtain ⟨a, vs, rfl, t, _⟩ := vr_tup r
    cases ru
    rcases t with ⟨_, o, h1, h2⟩ | ⟨o, its, n, h1, h2, h3, _⟩
    · obtain ⟨g1, _, its, _, o2, g2, g3, _⟩ := (show ObjOk X.prog X.w H s.heap a (.frz o (.tup vs)) from I.hok a _ h2)
      rw [g1] at g2
      cases g2
      refine ⟨⟨_, g1, g3⟩, fun b eb => ?_⟩
      cases eb
      exact ⟨_, g1, h1⟩
    · rw [← hK] at h1
      have g1 := I.kIn a o h1
      refine ⟨⟨_, g1, h2⟩, fun b eb => ?_⟩
      cases eb
      exact ⟨_, g1, h3⟩
  | lst ds =>
    cases e
    obtain ⟨a, vs, rfl, _, t, _⟩ := vr_lst r
    cases ru
    exact li a vs (.inl (.inl t))
  | scr ns =>
    cases e
    obtain ⟨a, rfl, t⟩ := vr_scr r
    cases ru
    exact li a _ (hK ▸ t.sq)
  | ref n =>
    simp only [mCls] at e
    split at e
    · rename_i ds e2
      cases e
      obtain ⟨a, vs, _, rfl, t, _⟩ := vr_refL M r e2
      cases ru
      exact li a vs (.inl (.inl t))
    · rename_i kvs e2
      cases e
      obtain ⟨a, ws, _, rfl, t, _⟩ := vr_refD M r e2
      cases ru
      exact tyV_is (T := "dict") (x := .ref a) I rfl (.inr (.inr (.inl ⟨rfl, .inl ⟨_, t⟩⟩)))
    · cases e
  | _ => cases e
theorem meth_facts {k : M} {T : String} (h : methOk k T = true) : PlainAttrs T ∧ Slot T k.name (k.id T) ∧ typeOf (.builtin (k.id T)) = pure (.type "method_descriptor") := by
  unfold methOk at h
  split at h
  · exact ⟨PySem.F.plainAttrs_list, PySem.F.slot_list_append, PySem.F.type_list_append⟩
  · exact ⟨PySem.F.plainAttrs_list, PySem.F.slot_list_extend, PySem.F.type_list_extend⟩
  · exact ⟨PySem.F.plainAttrs_list, PySem.F.slot_list_pop, PySem.F.type_list_pop⟩
  · exact ⟨PySem.F.plainAttrs_list, PySem.F.slot_list_index, PySem.F.type_list_index⟩
  · exact ⟨PySem.F.plainAttrs_tuple, PySem.F.slot_tuple_index, PySem.F.type_tuple_index⟩
  · exact ⟨PySem.F.plainAttrs_list, PySem.F.slot_list_count, PySem.F.type_list_count⟩
  · exact ⟨PySem.F.plainAttrs_dict, PySem.F.slot_dict_get, PySem.F.type_dict_get⟩
  · exact ⟨PySem.F.plainAttrs_dict, PySem.F.slot_dict_get, PySem.F.type_dict_get⟩
  · exact ⟨PySem.F.plainAttrs_dict, PySem.F.slot_dict_update, PySem.F.type_dict_update⟩
  · cases h
theorem few_ok {es : List Expr} {env : PySem.Env} {p : Pos} (hs : es.any isStar = false) (hl : es.length < 30) :
    ((backTo p (starEach es env)).all (fun x => !x.1) && (backToKw p (keywordEach [] env)).all (fun x => x.1.isSome) && decide (es.length + ([] : List Keyword).length + (if ([] : List Keyword).isEmpty then 0 else 1) < 30)) = true := by
  have h1 : (backTo p (starEach es env)).all (fun x => !x.1) = true := by
    have := star_any (env := env) (p := p) hs
    rw [List.all_eq_true]
    intro x hx
    cases hb : x.1 with
    | false => rfl
    | true => exact absurd (List.any_eq_true.mpr ⟨x, hx, hb⟩) (by rw [this]; decide)
  have h2 : decide (es.length + ([] : List Keyword).length + (if ([] : List Keyword).isEmpty then 0 else 1) < 30) = true := decide_eq_true (by simpa using hl)
  rw [h1, h2]
  rfl
theorem pe_mt (A : Ag G S R C W X) {k : M} {o : Expr} {es : List Expr} {y : Ex} {xs : Exs} {apos cpos : Pos} (hbase : attributeBase o k.name X.env (eval o X.env) = eval o X.env) (hline : (apos.endLine == cpos.line) = true) (hs : es.any isStar = false) (hl : es.length < 30)
    (ho : PE X o (tE R C W y)) (ha : PA X es (MP.tA R C W xs)) (hn : es = [] → xs = .nil) : PE X (.Call (.Attribute o k.name apos) es [] cpos) (tE R C W (.meth k y xs)) := by
  refine ⟨fun pn s σ H Q I h => ?_⟩
  obtain ⟨ρ, m, env, S, p⟩ := h
  simp only [ev] at p
  have h1 : tE R C W y σ H (fun x H1 => ∃ u m1 ρ1, Ext ρ H ρ1 H1 ∧ MR R ρ1 H1 m1 ∧ VR R ρ1 H1 u x ∧ ev C y env m = .ok u m1) := ⟨ρ, m, env, S, p.bnd fun u m1 er _ ρ1 H1 v e1 M1 r1 _ => ⟨u, m1, ρ1, e1, M1, r1, er⟩⟩
  refine wpAny_Call_method_late hbase (few_ok hs hl) hline rfl (thn (ho.run pn s σ H _ I h1) fun v s1 ⟨x, H1, I1, r1, u, m1, ρ1, e1, M1, ru, er1⟩ => ?_)
  rw [er1] at p
  have p1 := p
  dsimp only [Res.bnd] at p1
  split at p1
  · rename_i T hT
    split at p1
    · rename_i hk
      obtain ⟨f1, f2, f3⟩ := meth_facts hk
      obtain ⟨c1, c2⟩ := cls_is A.hK I1 M1 ru r1 hT
      refine ⟨T, _, f1, f2, f3, c1, c2, ?_⟩
      have fin : ∀ (us : List Value) (s2 : Shared) (vs : List V) (H2 : Hp) (ds : List D) (m2 : Mem) (ρ2 : List Addr), L2.Inv X pn σ H2 s2 → Vals vs us → Ext ρ1 H1 ρ2 H2 → MR R ρ2 H2 m2 → VRs R ρ2 H2 ds vs → evs C xs env m1 = .ok ds m2 →
          wpAny (model X.prog X.w) X.A (call (.builtin (k.id T)) (v :: us)) (EP X pn σ Q) X.xe s2 := fun us s2 vs H2 ds m2 ρ2 I2 r2 e2 M2 rs er => by
        rw [er] at p1
        dsimp only [Res.bnd] at p1
        split at p1
        · rename_i hT2
          split at p1
          · rename_i d m3 hd
            exact op_mt A.hK (by have := A.hu; omega) k T pn s2 σ H2 x vs v us Q I2 r1 r2 ⟨ρ2, m2, u, ds, d, m3, M2, VR.ext e2 u x ru, rs, hT2, hd, fun ρ' H' w e3 M3 r3 => p1 ρ' H' w ((e1.trans e2).trans e3) M3 r3 (fun z => by cases z)⟩
          · exact p1.elim
        · exact p1.elim
      cases es with
      | nil =>
        have : xs = .nil := hn rfl
        subst this
        exact Calls.callWith_builtin rfl (PySem.evalArgs_none (fin [] s1 [] H1 [] m1 ρ1 I1 .nil Ext.refl M1 (by simp [VRs]) rfl))
      | cons e es =>
        have hs' := hs
        rw [List.any_cons, Bool.or_eq_false_iff] at hs'
        have h2 : MP.tA R C W xs σ H1 (fun vs H2 => ∃ ds m2 ρ2, Ext ρ1 H1 ρ2 H2 ∧ MR R ρ2 H2 m2 ∧ VRs R ρ2 H2 ds vs ∧ evs C xs env m1 = .ok ds m2) := ⟨ρ1, m1, env, S.ext e1 M1, (p1.ext e1).bnd fun ds m2 er _ ρ2 H2 vs e2 M2 r2 => ⟨ds, m2, ρ2, e2, M2, r2, er⟩⟩
        have hA := ha.run cpos pn s1 σ H1 _ I1 h2
        rw [star_cons hs'.1] at hA ⊢
        refine Calls.callWith_builtin (by show (false || (backTo cpos (starEach es X.env)).any (·.1)) = false; rw [star_any hs'.2] <;> rfl) (Calls.evalArgs_plain ?_)
        exact thn hA fun us s2 ⟨vs, H2, I2, r2, ds, m2, ρ2, e2, M2, rs, er⟩ => fin us s2 vs H2 ds m2 ρ2 I2 r2 e2 M2 rs er
    · exact p1.elim
  · exact p1.elim
end
end MP

/-! ### enumerate of a tuple -/
namespace PySem
open Sem (wp)
open AutoSeq1 (wpAny_loadPart')
theorem mp_enum_newT (l : Addr) (items : Array Value) (n : Nat) (dd : Option Addr) (sl : Array (Option Value)) :
    Meets (Builtin.«enumerate.__new__» ⟨[.type "enumerate", .ref l], []⟩) (fun _ R s => s.heap.get? l = some { cls := .type "tuple", dict := dd, data := .seq items n, slots := sl } ∧
      R (.ok (.ret (.ref (s.heap.push { cls := .type "tuple_iterator", data := .fields #[.ref l, .int 0 0] }).objs.size)))
        { s with heap := (s.heap.push { cls := .type "tuple_iterator", data := .fields #[.ref l, .int 0 0] }).push { cls := .type "enumerate", data := .fields #[.none, .bool false, .ref s.heap.objs.size, rawInt 0, .none, .none] } }) :=
  .of_wp fun prog w A R s h => by
    obtain ⟨hp, g, d, tk, os⟩ := s
    obtain ⟨hl, h⟩ := h
    have hsub := sub_enumerate
    have tup : Heap.IsTuple (Shared.heap ⟨hp, g, d, tk, os⟩) l items := ⟨_, hl, rfl, n, rfl⟩
    wp_walk using wpAny_loadPart' hl
    refine wpAny_stack_any fun st => wpAny_pure ?_
    split
    · rename_i c _ _ _ _ _
      cases (c == Value.type "enumerate") <;>
      · wp_walk using wpAny_loadPart' hl, wpAny_pyIter_tuple tup
        exact ⟨_, rfl, h⟩
    · wp_walk using wpAny_loadPart' hl, wpAny_pyIter_tuple tup
      exact ⟨_, rfl, h⟩
section
variable {prog : Program} {w : World} {A : Around} {E : Value → Shared → Prop} {s : Shared}
theorem mp_enum_tuple {l : Addr} {items : Array Value} {Q : Value → Shared → Prop} (hL : s.heap.IsTuple l items)
    (h : ∀ h', IsEnum h' (s.heap.objs.size + 1) s.heap.objs.size 0 .none → h'.IsTupleIter s.heap.objs.size l 0 → (∀ b o, s.heap.get? b = some o → h'.get? b = some o) → Q (.ref (s.heap.objs.size + 1)) { s with heap := h' }) :
    wpAny (model prog w) A (call (.type "enumerate") [.ref l]) Q E s := by
  obtain ⟨⟨c, dct, dt, sl⟩, hl, hc, n, hd⟩ := hL
  simp only at hc hd
  subst hc hd
  refine callType_new F.called_enumerate (by decide) (F.typeCall_enumerate_1 _) (F.newCall_enumerate_1 _) (fun obj => F.args_object_init_2 obj _) F.entry_enumerate_new (mp_enum_newT l items n dct sl) ⟨hl, ?_⟩
  have hz : (s.heap.push { cls := .type "tuple_iterator", data := .fields #[.ref l, .int 0 0] }).objs.size = s.heap.objs.size + 1 := Heap.size_push ..
  show _ ∧ _
  rw [hz]
  have he := Heap.get?_push_size (s.heap.push { cls := .type "tuple_iterator", data := .fields #[.ref l, .int 0 0] }) (o := { cls := .type "enumerate", data := .fields #[.none, .bool false, .ref s.heap.objs.size, rawInt 0, .none, .none] }) rfl
  rw [hz] at he
  exact ⟨⟨_, he, rfl⟩, h _ he ⟨_, Heap.get?_push_of_some _ (Heap.get?_push_size _ rfl), rfl, rfl⟩ fun b o x => Heap.get?_push_of_some _ (Heap.get?_push_of_some _ x)⟩
end
end PySem
namespace MP
open PySem L2 PySem.Spec PyProof.Rows
/-- the tuple at a, each item in a new pair -/
def ItE (K : PySem.W.Frag) (a : Addr) : It :=
  ⟨fun i H => ∃ (xs : List V) (x : V), SqT K H a xs ∧ xs[i]? = some x, fun i H v H' => ∃ T x, v = .ref T ∧ H T = none ∧ H' = upd H T (.tup [.int (i : Nat), x]) ∧ ∀ xs, SqT K H a xs → xs[i]? = some x, fun i H => ∃ xs : List V, SqT K H a xs ∧ xs.length ≤ i⟩
theorem turnE {P : Program} {w : World} {K : PySem.W.Frag} {elts : List Expr} {kk : Nat} {tpos : Pos} (a e it : Addr) (hea : e ≠ a) (hia : a ≠ it) :
    Turn P w K (.Tuple elts kk tpos) (ItE K a) [e, it] e (fun i h => (∃ old, IsEnum h e it ((i : Nat) : Int) old) ∧ h.IsTupleIter it a i ∧ e ≠ it) where
  mem := by simp
  obj := fun i h st b hb => by
    obtain ⟨⟨old, he⟩, ⟨o, ho, hc, hd⟩, _⟩ := st
    rcases (show b = e ∨ b = it by simpa using hb) with z | z
    · rw [z]
      exact ⟨_, he, fun v q => nomatch q⟩
    · rw [z]
      exact ⟨o, ho, fun v q => by rw [hd] at q; cases q⟩
  keep := fun i h h' st k => by
    obtain ⟨⟨old, he⟩, hi, hne⟩ := st
    exact ⟨⟨old, k e (by simp) _ he⟩, hi.at fun o q => k it (by simp) o q, hne⟩
  item := by
    intro X hP hw hK hc i pn s σ H E I hf st hg
    subst hP hw hK
    obtain ⟨⟨old, he⟩, hit, hne⟩ := st
    obtain ⟨xs, x, hq, hx⟩ := hg
    obtain ⟨its, rv, p, hz⟩ := I.tuple hq
    obtain ⟨u, hu, ru⟩ := rv.get hx
    have hel : e < s.heap.objs.size := Heap.lt_size he
    have hil : it < s.heap.objs.size := by obtain ⟨_, q, _⟩ := hit; exact Heap.lt_size q
    have pt : s.heap.IsTuple a its.toArray := p
    have hlt : i < its.toArray.size := by
      have := (List.getElem?_eq_some_iff.mp hu).1
      simpa using this
    refine wpAny_pyNext_enum_itemD (Draws.tuple (A := X.A.in1) (I.ok.hd hc) it a hia its.toArray) he ⟨hit, pt⟩ hlt hne (by simp [hne, hea]) fun y h' tk hy ho hst' hT hsz hk => ?_
    have ey : y = u := by
      rw [show its.toArray[i]? = some u by simpa using hu] at hy
      exact (Option.some.inj hy).symm
    subst ey
    refine ⟨_, rfl, wpAny_letOwnedTupleGo_enum (s := { s with heap := h', toks := tk + 1 }) ho fun h'' he' sb => ?_⟩
    have hT2 : h''.get? s.heap.objs.size = some { cls := .type "tuple", data := .seq #[.int i tk, y] } := (sb.2 _ (Nat.ne_of_gt hel)).trans hT
    have I1 : L2.Inv X pn σ (upd H s.heap.objs.size (.tup [.int (i : Nat), x])) { s with heap := h'', toks := tk + 1 } :=
      I.turnedNew (ch := [e, it]) (fun b ob hb q => (sb.2 b (fun z => hb (by simp [z]))).trans (hk b ob (fun z => hb (by simp [z])) (fun z => hb (by simp [z])) q)) hf (Nat.le_refl _)
        ⟨by show 2 ≤ sizeLine; decide, [.int i tk, y], .cons ⟨_, rfl⟩ (.cons ru .nil), ⟨_, hT2, rfl, _, rfl⟩⟩
    refine ⟨.ref s.heap.objs.size, _, I1, rfl, ⟨_, x, rfl, I.hok.fresh (Nat.le_refl _), rfl, fun ys hy => by rw [I.tuple_inj hy hq]; exact hx⟩, ⟨⟨y, ?_⟩, hst'.1.at fun o q => (sb.2 it (Ne.symm hne)).trans q, hne⟩, fun b hb => ?_⟩
    · rw [show ((i + 1 : Nat) : Int) = (i : Int) + 1 by omega]
      exact he'
    · have hb' : b < s.heap.objs.size := by
        rcases (show b = e ∨ b = it by simpa using hb) with z | z <;> rw [z] <;> assumption
      rw [upd_ne (Nat.ne_of_lt hb')]
      exact (hf b hb).1
  done := by
    intro X hP hw hK hc i pn s σ H E I hf st hg
    subst hP hw hK
    obtain ⟨⟨old, he⟩, hit, hne⟩ := st
    obtain ⟨xs, hq, hx⟩ := hg
    obtain ⟨its, rv, p, hz⟩ := I.tuple hq
    obtain ⟨f0, f1, f2, f3, f4, f5⟩ := hf it (by simp)
    have hl := rv.length
    have hT : s.TypeIs (.ref e) "enumerate" := ⟨_, he, rfl⟩
    unfold pyNext
    refine wpAny_bind (wpAny_attempt (wpAny_callSpecial?_slot (name := Str.ofString "__next__") hT F.slot_enumerate_next (wpAny_call_entry F.slot_enumerate_next hT F.entry_enumerate_next ?_ (F.args_enumerate_next_1 _))))
    show wpAny _ _ (field (.ref e) 2 >>= _) _ _ _
    refine wpAny_bind (wpAny_field he rfl (x := .ref it) rfl ?_)
    refine wpAny_bind (wpAny_nextOf_tuple_end (I.ok.hd hc) hit (show s.heap.IsTuple a its.toArray from p) (by simp; omega) fun h' x eb hx' => ?_)
    obtain ⟨o, ho, hc⟩ := hx'
    refine wpAny_bind (wpAny_isInstance (T := "StopIteration") (b := true) ⟨o, ho, hc⟩ isSubtype_stop ?_)
    exact wpAny_pure ⟨rfl, I.turned (t' := s.toks) (fun b o hb q => eb b o hb q) f0 f1 f3 f4 f5⟩
  self := fun A i s Q E st h => st.1.elim fun _ he => wpAny_pyIter_enum he h
section
variable {G : Gt} {S : Sc} {R : Rc} {C : Nat → List D → Mem → Res D} {W : WX} {X : Cx}
/-! ### what is walked -/
theorem src_l {ρ : List Addr} {H : Hp} {src : SrcV} {a : Addr} (f : Mem → Option (List D)) (h1 : ∀ m i, src.at m i = (f m).map (·[i]?)) (h2 : ∀ ρ' H' m' ds, Ext ρ H ρ' H' → MR R ρ' H' m' → f m' = some ds → ∃ vs, SqL R.K H' a vs ∧ VRs R ρ' H' ds vs) : SrcOk R ρ H src (Itl R.K a) := by
  intro ρ' H' m' e M i
  rw [h1]
  cases hf : f m' with
  | none => exact trivial
  | some ds =>
    obtain ⟨vs, g1, g2⟩ := h2 ρ' H' m' ds e M hf
    simp only [Option.map_some]
    cases hd : ds[i]? with
    | none =>
      refine ⟨vs, g1, ?_⟩
      rw [← g2.length]
      exact List.getElem?_eq_none_iff.mp hd
    | some d =>
      obtain ⟨v, g3, g4⟩ := g2.get hd
      refine ⟨⟨vs, v, g1, g3⟩, fun x H'' hy => ?_⟩
      obtain ⟨rfl, hy⟩ := hy
      have := hy vs g1
      rw [g3] at this
      cases this
      exact ⟨Ext.refl, M, g4⟩
theorem src_t {ρ : List Addr} {H : Hp} {src : SrcV} {a : Addr} (f : Mem → Option (List D)) (h1 : ∀ m i, src.at m i = (f m).map (·[i]?)) (h2 : ∀ ρ' H' m' ds, Ext ρ H ρ' H' → MR R ρ' H' m' → f m' = some ds → ∃ vs, SqT R.K H' a vs ∧ VRs R ρ' H' ds vs) : SrcOk R ρ H src (Itt R.K a) := by
  intro ρ' H' m' e M i
  rw [h1]
  cases hf : f m' with
  | none => exact trivial
  | some ds =>
    obtain ⟨vs, g1, g2⟩ := h2 ρ' H' m' ds e M hf
    simp only [Option.map_some]
    cases hd : ds[i]? with
    | none =>
      refine ⟨vs, g1, ?_⟩
      rw [← g2.length]
      exact List.getElem?_eq_none_iff.mp hd
    | some d =>
      obtain ⟨v, g3, g4⟩ := g2.get hd
      refine ⟨⟨vs, v, g1, g3⟩, fun x H'' hy => ?_⟩
      obtain ⟨rfl, hy⟩ := hy
      have := hy vs g1
      rw [g3] at this
      cases this
      exact ⟨Ext.refl, M, g4⟩
/-- the items of a thing that is walked -/
def itsOf : SrcV → Mem → Option (List D)
  | .tup ds, _ => some ds
  | .lst ds, _ => some ds
  | .ref n, m => (match m[n]? with
    | some (.lst ds) => some ds
    | _ => none)
  | _, _ => none
/-- a tuple (true), a list at a, whose items are told -/
def SeqOk (R : Rc) (ρ : List Addr) (H : Hp) (t : Bool) (src : SrcV) (a : Addr) : Prop := (∀ m i, src.at m i = (itsOf src m).map (·[i]?)) ∧
  ∀ ρ' H' m' ds, Ext ρ H ρ' H' → MR R ρ' H' m' → itsOf src m' = some ds → ∃ vs, (if t = true then SqT R.K H' a vs else SqL R.K H' a vs) ∧ VRs R ρ' H' ds vs
/-- a tuple or a list that is walked -/
theorem seq_src {ρ : List Addr} {H : Hp} {m : Mem} (M : MR R ρ H m) {d : D} {v : V} {s : SrcV} (r : VR R ρ H d v) (e : srcOf m d = some s) :
    ∃ a t vs, v = .ref a ∧ (if t = true then SqT R.K H a vs else SqL R.K H a vs) ∧ SeqOk R ρ H t s a ∧ t = tupS s := by
  cases d with
  | tup ds =>
    cases e
    obtain ⟨a, vs, rfl, t, rs⟩ := vr_tup r
    refine ⟨a, true, vs, rfl, t.sq, ⟨fun _ _ => rfl, fun ρ' H' m' ds' e M' h => ?_⟩, rfl⟩
    cases h
    exact ⟨vs, (t.ext e).sq, VRs.ext e _ _ rs⟩
  | lst ds =>
    cases e
    obtain ⟨a, vs, rfl, n, t, rs⟩ := vr_lst r
    refine ⟨a, false, vs, rfl, .inl (.inl t), ⟨fun _ _ => rfl, fun ρ' H' m' ds' e M' h => ?_⟩, rfl⟩
    cases h
    exact ⟨vs, .inl (.inl (e.frm _ _ n t)), VRs.ext e _ _ rs⟩
  | scr ns =>
    cases e
    obtain ⟨a, rfl, t⟩ := vr_scr r
    refine ⟨a, false, _, rfl, t.sq, ⟨fun _ _ => rfl, fun ρ' H' m' ds' e M' h => ?_⟩, rfl⟩
    cases h
    exact ⟨_, (t.ext e).sq, VRs.of_ints ns⟩
  | ref n =>
    simp only [srcOf] at e
    split at e
    · rename_i ds e2
      cases e
      obtain ⟨a, vs, h1, rfl, t, rs⟩ := vr_refL M r e2
      refine ⟨a, false, vs, rfl, .inl (.inl t), ⟨fun m i => ?_, fun ρ' H' m' ds' e M' h => ?_⟩, rfl⟩
      · simp only [SrcV.at, itsOf]
        cases m[n]? with
        | none => rfl
        | some o => cases o <;> rfl
      · simp only [itsOf] at h
        split at h
        · rename_i zs e3
          cases h
          have h1' : ρ'[n]? = some a := by
            obtain ⟨l, rfl⟩ := e.pre
            rw [List.getElem?_append_left (List.getElem?_eq_some_iff.mp h1).1]
            exact h1
          obtain ⟨b, h2, us, h3, h4⟩ := M'.ob n _ e3
          rw [h1'] at h2
          cases h2
          exact ⟨us, .inl (.inl h3), h4⟩
        · cases h
    · cases e
  | _ => cases e
theorem SeqOk.ext {ρ ρ' : List Addr} {H H' : Hp} {t : Bool} {src : SrcV} {a : Addr} (h : SeqOk R ρ H t src a) (e : Ext ρ H ρ' H') : SeqOk R ρ' H' t src a := ⟨h.1, fun ρ2 H2 m2 ds e2 M q => h.2 ρ2 H2 m2 ds (e.trans e2) M q⟩
/-- the keys of a dict that changes no more -/
theorem keys_src {ρ : List Addr} {H : Hp} {a : Addr} {o : Obj} {ws : List (Key × V)} {kvs : List (Key × D)} (h : H a = some (.frz o (.dK ws))) (h2 : kvs.map (·.1) = ws.map (·.1)) : SrcOk R ρ H (.lst (kvs.map fun q => keyD q.1)) (Itk a o ws) := by
  intro ρ' H' m' e M i
  have h' := e.frz a o _ h
  have hlen : kvs.length = ws.length := by simpa using congrArg List.length h2
  show match (some (kvs.map fun q => keyD q.1)[i]? : Option (Option D)) with | none => True | some none => _ | some (some d) => _
  cases hd : (kvs.map fun q => keyD q.1)[i]? with
  | none =>
    have := List.getElem?_eq_none_iff.mp hd
    rw [List.length_map] at this
    exact ⟨h', by omega⟩
  | some d =>
    rw [List.getElem?_map, Option.map_eq_some_iff] at hd
    obtain ⟨q, hq, rfl⟩ := hd
    have hi : i < ws.length := by
      have := (List.getElem?_eq_some_iff.mp hq).1
      omega
    refine ⟨⟨h', hi⟩, fun x H'' hy => ?_⟩
    obtain ⟨rfl, k, v, hk, rfl⟩ := hy
    have : q.1 = k := by
      have g1 : (kvs.map (·.1))[i]? = some q.1 := by rw [List.getElem?_map, hq]; rfl
      have g2 : (ws.map (·.1))[i]? = some k := by rw [List.getElem?_map, hk]; rfl
      rw [h2, g2] at g1
      exact (Option.some.inj g1).symm
    rw [this]
    refine ⟨Ext.refl, M, ?_⟩
    cases k <;> simp [keyD, VR, kV]
theorem keys_in {pn : List (Addr × Obj)} {σ : L2.St} {H : Hp} {s : Shared} {a : Addr} {o : Obj} {ws : List (Key × V)} {tg : Expr} {Q : It → Hp → Prop} (I : L2.Inv X pn σ H s) (h : H a = some (.frz o (.dK ws))) (q : Q (Itk a o ws) H) :
    wpAny (model X.prog X.w) X.A (pyIter (.ref a)) (PIE X pn σ tg Q) X.xe s := by
  obtain ⟨hs, hgd, hx, es, ep, vs, hdt, hsz, kv, hm⟩ := I.frzK h
  refine iter_keys hs hgd hx hdt (pi_one (tk := s.toks) I _ (turn_keys _ hdt) ⟨_, Heap.get?_push_size _ rfl, rfl, ?_⟩ q)
  rw [hsz] <;> rfl
theorem pi_of (A : Ag G S R C W X) {tg e : Expr} {x : Ex} (h : PE X e (tE R C W x)) : PI X tg e (MP.tS R C W (.of x)) := by
  refine ⟨fun pn s σ H Q I q => ?_⟩
  obtain ⟨ρ, m, env, S, p⟩ := q
  simp only [evSr] at p
  have h1 : tE R C W x σ H (fun v H1 => ∃ u m1 ρ1, Ext ρ H ρ1 H1 ∧ MR R ρ1 H1 m1 ∧ VR R ρ1 H1 u v ∧ ev C x env m = .ok u m1) := ⟨ρ, m, env, S, p.bnd fun u m1 er _ ρ1 H1 v e1 M1 r1 _ => ⟨u, m1, ρ1, e1, M1, r1, er⟩⟩
  refine thn (h.run pn s σ H _ I h1) fun v s1 ⟨y, H1, I1, r1, u, m1, ρ1, e1, M1, ru, er⟩ => ?_
  rw [er] at p
  dsimp only [Res.bnd] at p
  split at p
  · rename_i src hs
    obtain ⟨a, t, vs, rfl, hq, ok, _⟩ := seq_src M1 ru hs
    cases r1
    cases t with
    | true =>
      have hq : SqT X.K H1 a vs := A.hK ▸ hq
      obtain ⟨its, rv, pl, hz⟩ := I1.tuple hq
      refine wpAny_pyIter_tuple (show s1.heap.IsTuple a its.toArray from pl) ⟨s1.heap.objs.size, [s1.heap.objs.size], _, _, H1, rfl, I1.kept (t' := s1.toks) fun b o e => Heap.get?_push_of_some _ e, turn_tuple a _, ⟨_, Heap.get?_push_size _ rfl, rfl, rfl⟩, fun b hb => ?_, ?_⟩
      · rw [List.mem_singleton.mp hb]
        exact I1.fpOk (Nat.le_refl _) (I1.hok.fresh (Nat.le_refl _))
      · rw [A.hK]
        exact p ρ1 H1 _ e1 M1 (src_t _ ok.1 fun ρ' H' m' ds e M hf => ok.2 ρ' H' m' ds e M hf)
    | false =>
      have hq : SqL X.K H1 a vs := A.hK ▸ hq
      obtain ⟨its, rv, pl, hz⟩ := I1.list hq
      refine wpAny_pyIter_list pl.isList ⟨s1.heap.objs.size, [s1.heap.objs.size], _, _, H1, rfl, I1.kept (t' := s1.toks) fun b o e => Heap.get?_push_of_some _ e, turn_list a _, ⟨_, Heap.get?_push_size _ rfl, rfl, rfl⟩, fun b hb => ?_, ?_⟩
      · rw [List.mem_singleton.mp hb]
        exact I1.fpOk (Nat.le_refl _) (I1.hok.fresh (Nat.le_refl _))
      · rw [A.hK]
        exact p ρ1 H1 _ e1 M1 (src_l _ ok.1 fun ρ' H' m' ds e M hf => ok.2 ρ' H' m' ds e M hf)
  · split at p
    · rename_i n
      split at p
      · rename_i kvs hm
        obtain ⟨a, ws, h2, rfl, h3, h4, h5⟩ := vr_refD M1 ru hm
        cases r1
        obtain ⟨od, I2⟩ := I1.lock h3 trivial
        have nf : ∀ o w, H1 a ≠ some (.frz o w) := fun o w => by rw [h3]; exact fun z => nomatch z
        have e2 := M1.ext_put (.frz od (.dK ws)) (List.mem_of_getElem? h2) nf
        have M2 := M1.put h2 nf (o := .fdic kvs) ⟨od, ws, upd_same, h4, VRs.ext e2 _ _ h5⟩
        exact keys_in I2 upd_same (p ρ1 _ _ (e1.trans e2) M2 (keys_src upd_same h4))
      · rename_i kvs hm
        obtain ⟨a, od, ws, h2, rfl, h3, h4, h5⟩ := vr_refF M1 ru hm
        cases r1
        exact keys_in I1 h3 (p ρ1 _ _ e1 M1 (keys_src h3 h4))
      · exact p.elim
    · exact p.elim
theorem rng_src {ρ : List Addr} {H : Hp} {lo : Int} {k : Nat} : SrcOk R ρ H (.rng lo k) (Itr lo k) := by
  intro ρ' H' m' e M i
  simp only [SrcV.at]
  by_cases h : i < k
  · rw [if_pos h]
    refine ⟨h, fun x H'' hy => ?_⟩
    obtain ⟨rfl, rfl⟩ := hy
    exact ⟨Ext.refl, M, by simp [VR]⟩
  · rw [if_neg h]
    exact Nat.le_of_not_lt h
theorem rngd_src {ρ : List Addr} {H : Hp} {lo : Int} {k : Nat} : SrcOk R ρ H (.rngd lo k) (Itc lo (-1) k) := by
  intro ρ' H' m' e M i
  simp only [SrcV.at]
  by_cases h : i < k
  · rw [if_pos h]
    refine ⟨h, fun x H'' hy => ?_⟩
    obtain ⟨rfl, rfl⟩ := hy
    exact ⟨Ext.refl, M, by simp [VR]⟩
  · rw [if_neg h]
    exact Nat.le_of_not_lt h
theorem rng_ok {lo hi : Int} (h : rngOk lo hi = true) : -(2 ^ 62) ≤ lo ∧ lo < 2 ^ 62 ∧ -(2 ^ 62) ≤ hi ∧ hi < 2 ^ 62 := by
  unfold rngOk at h
  simp only [Bool.and_eq_true, decide_eq_true_eq] at h
  exact ⟨h.1.1.1, h.1.1.2, h.1.2, h.2⟩
/-- one argument -/
theorem pa_one {e : Expr} {t : TE} (hs : isStar e = false) (h : PE X e t) : PA X [e] (tCons t tNil) := pa_cons h pa_nil (star_cons hs)
theorem pi_r1 (A : Ag G S R C W X) {tg e : Expr} {x : Ex} {p pos : Pos} (hf : ("range" : Str) ∈ G.free) (hg : S.sc.names.lookup ("range" : Str) = some .globalImplicit) (hs : isStar e = false) (h : PE X e (tE R C W x)) :
    PI X tg (.Call (.Name "range" p) [e] [] pos) (MP.tS R C W (.rng1 x)) := by
  refine pi_imp (pi_range1 (A.gl hg) (A.bl _ hf) (pa_one hs h) (by rw [star_cons hs]; rfl)) fun σ H Q q => ?_
  obtain ⟨ρ, m, env, S, p⟩ := q
  simp only [evSr] at p
  refine ⟨ρ, m, env, S, p.bnd fun u m1 _ p1 ρ1 H1 v e1 M1 r1 n1 => ?_⟩
  split at p1
  · rename_i j _
    split at p1
    · rename_i ho
      obtain ⟨_, _, h3, h4⟩ := rng_ok ho
      exact ⟨j, by rw [vr_int r1], h3, h4, p1 ρ1 H1 _ e1 M1 rng_src⟩
    · exact p1.elim
  · exact p1.elim
theorem pi_r2 (A : Ag G S R C W X) {tg e e2 : Expr} {x x2 : Ex} {p pos : Pos} (hf : ("range" : Str) ∈ G.free) (hg : S.sc.names.lookup ("range" : Str) = some .globalImplicit) (hs : isStar e = false) (hs2 : isStar e2 = false) (h : PE X e (tE R C W x)) (h2 : PE X e2 (tE R C W x2)) :
    PI X tg (.Call (.Name "range" p) [e, e2] [] pos) (MP.tS R C W (.rng2 x x2)) := by
  refine pi_imp (pi_range2 (A.gl hg) (A.bl _ hf) (pa_cons h (pa_one hs2 h2) (star_cons hs)) (by rw [star_cons hs, star_cons hs2]; rfl) (by rw [star_cons hs2]; rfl)) fun σ H Q q => ?_
  obtain ⟨ρ, m, env, S, p⟩ := q
  simp only [evSr] at p
  refine ⟨ρ, m, env, S, p.bnd fun u m1 _ p1 ρ1 H1 v e1 M1 r1 _ => ?_⟩
  refine nextE S e1 M1 p1 fun w m2 p2 ρ2 H2 vw e2 M2 r2 n2 => ?_
  split at p2
  · rename_i i j _ _
    split at p2
    · rename_i ho
      exact ⟨i, j, by rw [vr_int r1, vr_int r2], rng_ok ho, p2 ρ2 H2 _ (e1.trans e2) M2 rng_src⟩
    · exact p2.elim
  · exact p2.elim
theorem pi_r3 (A : Ag G S R C W X) {tg e e2 e3 : Expr} {x x2 x3 : Ex} {p pos : Pos} (hf : ("range" : Str) ∈ G.free) (hg : S.sc.names.lookup ("range" : Str) = some .globalImplicit) (hs : isStar e = false) (hs2 : isStar e2 = false) (hs3 : isStar e3 = false) (h : PE X e (tE R C W x)) (h2 : PE X e2 (tE R C W x2)) (h3 : PE X e3 (tE R C W x3)) :
    PI X tg (.Call (.Name "range" p) [e, e2, e3] [] pos) (MP.tS R C W (.rng3 x x2 x3)) := by
  refine pi_imp (pi_range3 (A.gl hg) (A.bl _ hf) (pa_cons h (pa_cons h2 (pa_one hs3 h3) (star_cons hs2)) (star_cons hs)) (by rw [star_cons hs, star_cons hs2, star_cons hs3] <;> rfl) (by rw [star_cons hs2, star_cons hs3] <;> rfl)) fun σ H Q q => ?_
  obtain ⟨ρ, m, env, S, p⟩ := q
  simp only [evSr] at p
  refine ⟨ρ, m, env, S, p.bnd fun u m1 _ p1 ρ1 H1 v e1 M1 r1 _ => ?_⟩
  refine nextE S e1 M1 p1 fun w m2 p2 ρ2 H2 vw e2 M2 r2 n2 => ?_
  refine nextE S (e1.trans e2) M2 p2 fun z m3 p3 ρ3 H3 vz e3 M3 r3 n3 => ?_
  split at p3
  · rename_i i j k _ _
    split at p3
    · rename_i ho
      rw [Bool.and_eq_true, decide_eq_true_eq] at ho
      obtain ⟨ho, rfl⟩ := ho
      obtain ⟨g1, g2, g3, g4⟩ := rng_ok ho
      exact ⟨i, j, -1, (i - j).toNat, by rw [vr_int r1, vr_int r2, vr_int r3], RgC.neg g1 g2 g3 g4, p3 ρ3 H3 _ ((e1.trans e2).trans e3) M3 rngd_src⟩
    · exact p3.elim
  · exact p3.elim
/-- a new pair at each turn -/
theorem new_pair {ρ : List Addr} {H : Hp} {m : Mem} {T : Addr} {d1 d2 : D} {x y : V} (M : MR R ρ H m) (hT : H T = none) (h1 : VR R ρ H d1 x) (h2 : VR R ρ H d2 y) :
    Ext ρ H ρ (upd H T (.tup [x, y])) ∧ MR R ρ (upd H T (.tup [x, y])) m ∧ VR R ρ (upd H T (.tup [x, y])) (.wtup [d1, d2]) (.ref T) := by
  have e := M.ext_new (.tup [x, y]) hT
  refine ⟨e, M.new _ hT, ?_⟩
  simp only [VR, VRs]
  exact ⟨T, [x, y], rfl, M.fresh hT, upd_same, VR.ext e d1 x h1, VR.ext e d2 y h2, trivial⟩
theorem src_e {ρ : List Addr} {H : Hp} {src : SrcV} {a : Addr} {t : Bool} (ok : SeqOk R ρ H t src a) : SrcOk R ρ H (.en src) (if t = true then ItE R.K a else Ite R.K a) := by
  intro ρ' H' m' e M i
  simp only [SrcV.at]
  rw [ok.1]
  cases hf : itsOf src m' with
  | none => exact trivial
  | some ds =>
    obtain ⟨vs, g1, g2⟩ := ok.2 ρ' H' m' ds e M hf
    simp only [Option.map_some]
    cases hd : ds[i]? with
    | none =>
      have hl : vs.length ≤ i := by
        rw [← g2.length]
        exact List.getElem?_eq_none_iff.mp hd
      cases t with
      | true => exact ⟨vs, g1, hl⟩
      | false => exact ⟨vs, g1, hl⟩
    | some d =>
      obtain ⟨v, g3, g4⟩ := g2.get hd
      cases t with
      | true =>
        refine ⟨⟨vs, v, g1, g3⟩, fun x H'' hy => ?_⟩
        obtain ⟨T, y, rfl, hT, rfl, hy⟩ := hy
        have := hy vs g1
        rw [g3] at this
        cases this
        exact new_pair M hT (by simp [VR]) g4
      | false =>
        refine ⟨⟨vs, v, g1, g3⟩, fun x H'' hy => ?_⟩
        obtain ⟨T, y, rfl, hT, rfl, hy⟩ := hy
        have := hy vs g1
        rw [g3] at this
        cases this
        exact new_pair M hT (by simp [VR]) g4
theorem pi_en (A : Ag G S R C W X) {e : Expr} {x : Ex} {p pos tpos : Pos} {elts : List Expr} {kk : Nat} (hf : ("enumerate" : Str) ∈ G.free) (hg : S.sc.names.lookup ("enumerate" : Str) = some .globalImplicit) (hs : isStar e = false) (h : PE X e (tE R C W x)) :
    PI X (.Tuple elts kk tpos) (.Call (.Name "enumerate" p) [e] [] pos) (MP.tS R C W (.enum x)) := by
  refine ⟨fun pn s σ H Q I q => ?_⟩
  obtain ⟨ρ, m, env, S, p⟩ := q
  simp only [evSr] at p
  have h1 : tCons (tE R C W x) tNil σ H (fun vs H1 => ∃ v u m1 ρ1, vs = [v] ∧ Ext ρ H ρ1 H1 ∧ MR R ρ1 H1 m1 ∧ VR R ρ1 H1 u v ∧ ev C x env m = .ok u m1) := ⟨ρ, m, env, S, p.bnd fun u m1 er _ ρ1 H1 v e1 M1 r1 _ => ⟨v, u, m1, ρ1, rfl, e1, M1, r1, er⟩⟩
  refine Call_ (ld_blt I (A.gl hg) (A.bl _ hf) boot_enumerate (PyProof.Rows.callWith_type1 (thn ((pa_one hs h).run pos pn s σ H _ I h1) fun us s1 ⟨vs, H1, I1, r1, v, u, m1, ρ1, ev0, e1, M1, ru, er⟩ => ?_) (star_cons hs) rfl))
  subst ev0
  rw [er] at p
  dsimp only [Res.bnd] at p
  split at p
  · rename_i src hsr
    obtain ⟨a, t, vs, rfl, hq, ok, _⟩ := seq_src M1 ru hsr
    cases Vals.ref1 r1
    have fresh : ∀ b ∈ [s1.heap.objs.size + 1, s1.heap.objs.size], FpOk X pn H1 b := fun b hb => by
      have hle : s1.heap.objs.size ≤ b := by
        rcases (show b = s1.heap.objs.size + 1 ∨ b = s1.heap.objs.size by simpa using hb) with z | z <;> rw [z]
        · exact Nat.le_succ _
        · exact Nat.le_refl _
      exact I1.fpOk hle (I1.hok.fresh hle)
    have so := src_e ok
    cases t with
    | true =>
      have hq : SqT X.K H1 a vs := A.hK ▸ hq
      obtain ⟨its, rv, pl, hz⟩ := I1.tuple hq
      have hlt : a < s1.heap.objs.size := pl.lt
      refine PySem.mp_enum_tuple (show s1.heap.IsTuple a its.toArray from pl) fun h' he hit hk => wpAny_pyIter_enum he ⟨s1.heap.objs.size + 1, [s1.heap.objs.size + 1, s1.heap.objs.size], _, _, H1, rfl, I1.kept (t' := s1.toks) hk, turnE a (s1.heap.objs.size + 1) s1.heap.objs.size (Nat.ne_of_gt (Nat.lt_succ_of_lt hlt)) (Nat.ne_of_lt hlt), ⟨⟨.none, he⟩, hit, Nat.succ_ne_self _⟩, fresh, ?_⟩
      rw [A.hK]
      exact p ρ1 H1 _ e1 M1 so
    | false =>
      have hq : SqL X.K H1 a vs := A.hK ▸ hq
      obtain ⟨its, rv, pl, hz⟩ := I1.list hq
      refine call_enumerate_list pl.isList fun h' he hit hsz hk => wpAny_pyIter_enum he ⟨s1.heap.objs.size + 1, [s1.heap.objs.size + 1, s1.heap.objs.size], _, _, H1, rfl, I1.kept (t' := s1.toks) hk, turn_enum a (s1.heap.objs.size + 1) s1.heap.objs.size, ⟨⟨.none, he⟩, hit, Nat.succ_ne_self _⟩, fresh, ?_⟩
      rw [A.hK]
      exact p ρ1 H1 _ e1 M1 so
  · exact p.elim
open RZ in
theorem src_z {ρ : List Addr} {H : Hp} {s1 s2 : SrcV} {a b : Addr} {t : Bool} (o1 : SeqOk R ρ H t s1 a) (o2 : SeqOk R ρ H t s2 b) : SrcOk R ρ H (.zp s1 s2) (if t = true then ItzT R.K a b else Itz R.K a b) := by
  intro ρ' H' m' e M i
  simp only [SrcV.at]
  rw [o1.1, o2.1]
  cases hf : itsOf s1 m' with
  | none => exact trivial
  | some ds =>
    cases hf2 : itsOf s2 m' with
    | none =>
      simp only [Option.map_some, Option.map_none]
      cases ds[i]? <;> exact trivial
    | some es =>
      obtain ⟨vs, g1, g2⟩ := o1.2 ρ' H' m' ds e M hf
      obtain ⟨ws, k1, k2⟩ := o2.2 ρ' H' m' es e M hf2
      simp only [Option.map_some]
      cases hd : ds[i]? with
      | none =>
        have hl : vs.length ≤ i := by
          rw [← g2.length]
          exact List.getElem?_eq_none_iff.mp hd
        have go : (if t = true then ItzT R.K a b else Itz R.K a b).stop i H' := by
          cases t with
          | true => exact ⟨vs, ws, g1, k1, .inl hl⟩
          | false => exact ⟨vs, ws, g1, k1, .inl hl⟩
        cases es[i]? <;> exact go
      | some d =>
        cases hd2 : es[i]? with
        | none =>
          have hl : ws.length ≤ i := by
            rw [← k2.length]
            exact List.getElem?_eq_none_iff.mp hd2
          show (if t = true then ItzT R.K a b else Itz R.K a b).stop i H'
          cases t with
          | true => exact ⟨vs, ws, g1, k1, .inr hl⟩
          | false => exact ⟨vs, ws, g1, k1, .inr hl⟩
        | some d2 =>
          obtain ⟨v, g3, g4⟩ := g2.get hd
          obtain ⟨w, k3, k4⟩ := k2.get hd2
          cases t with
          | true =>
            refine ⟨⟨vs, ws, v, w, g1, k1, g3, k3⟩, fun x H'' hy => ?_⟩
            obtain ⟨T, y, z, rfl, hT, rfl, hy, hz⟩ := hy
            have q1 := hy vs g1
            have q2 := hz ws k1
            rw [g3] at q1
            rw [k3] at q2
            cases q1; cases q2
            exact new_pair M hT g4 k4
          | false =>
            refine ⟨⟨vs, ws, v, w, g1, k1, g3, k3⟩, fun x H'' hy => ?_⟩
            obtain ⟨T, y, z, rfl, hT, rfl, hy, hz⟩ := hy
            have q1 := hy vs g1
            have q2 := hz ws k1
            rw [g3] at q1
            rw [k3] at q2
            cases q1; cases q2
            exact new_pair M hT g4 k4
open RZ in
theorem pi_zp (A : Ag G S R C W X) {e e2 : Expr} {x x2 : Ex} {p pos tpos : Pos} {elts : List Expr} {kk : Nat} (hf : ("zip" : Str) ∈ G.free) (hg : S.sc.names.lookup ("zip" : Str) = some .globalImplicit) (hs : isStar e = false) (hs2 : isStar e2 = false) (h : PE X e (tE R C W x)) (h2 : PE X e2 (tE R C W x2)) :
    PI X (.Tuple elts kk tpos) (.Call (.Name "zip" p) [e, e2] [] pos) (MP.tS R C W (.zip x x2)) := by
  refine pi_imp (pi_zipA (A.gl hg) (A.bl _ hf) (pa_cons h (pa_one hs2 h2) (star_cons hs)) (star_cons hs) (star_any (by simp [hs2]))) fun σ H Q q => ?_
  obtain ⟨ρ, m, env, S, p⟩ := q
  simp only [evSr] at p
  refine ⟨ρ, m, env, S, p.bnd fun u m1 _ p1 ρ1 H1 v e1 M1 r1 _ => ?_⟩
  refine nextE S e1 M1 p1 fun w m2 p2 ρ2 H2 vw e2 M2 r2 n2 => ?_
  split at p2
  · rename_i s t hs1 ht1
    split at p2
    · rename_i heq
      obtain ⟨a, t1, vs, rfl, hq1, ok1, et1⟩ := seq_src M2 (VR.ext e2 u v r1) hs1
      obtain ⟨b, t2, ws, rfl, hq2, ok2, et2⟩ := seq_src M2 r2 ht1
      have : t1 = t2 := by rw [et1, et2]; exact eq_of_beq heq
      subst this
      have so := src_z ok1 ok2
      refine ⟨a, b, vs, ws, rfl, ?_⟩
      cases t1 with
      | true => exact .inr ⟨A.hK ▸ hq1, A.hK ▸ hq2, by rw [A.hK]; exact p2 ρ2 H2 _ (e1.trans e2) M2 so⟩
      | false => exact .inl ⟨A.hK ▸ hq1, A.hK ▸ hq2, by rw [A.hK]; exact p2 ρ2 H2 _ (e1.trans e2) M2 so⟩
    · exact p2.elim
  · exact p2.elim
end
end MP

namespace MP
open PySem L2 PySem.Spec PyProof.Rows
section
variable {G : Gt} {S : Sc} {R : Rc} {C : Nat → List D → Mem → Res D} {W : WX} {X : Cx}
/-! ### what is not needed any more is let go -/
mutual
theorem bnd_vr {ρ ρ0 : List Addr} {H : Hp} (hp : ρ0 <+: ρ) : ∀ (d : D) (v : V), VR R ρ H d v → bndD ρ0.length d = true → VR R ρ0 H d v
  | .non, v, h, _ => by simpa [VR] using h
  | .bl b, v, h, _ => by simpa [VR] using h
  | .int i, v, h, _ => by simpa [VR] using h
  | .str x, v, h, _ => by simpa [VR] using h
  | .tup ds, v, h, n => by
    obtain ⟨b, vs, r, t, s⟩ := vr_tup h
    simp only [bndD] at n
    simp only [VR]
    refine ⟨b, vs, r, ?_, bnd_vrs hp ds vs s n⟩
    rcases t with ⟨n1, o, n2, n3⟩ | t
    · exact .inl ⟨fun q => n1 (hp.subset q), o, n2, n3⟩
    · exact .inr t
  | .wtup ds, v, h, n => by
    simp only [bndD] at n
    simp only [VR] at h ⊢
    obtain ⟨b, vs, r, n1, t, s⟩ := h
    exact ⟨b, vs, r, fun q => n1 (hp.subset q), t, bnd_vrs hp ds vs s n⟩
  | .lst ds, v, h, n => by
    simp only [bndD] at n
    simp only [VR] at h ⊢
    obtain ⟨b, vs, r, n1, t, s⟩ := h
    exact ⟨b, vs, r, fun q => n1 (hp.subset q), t, bnd_vrs hp ds vs s n⟩
  | .scr ns, v, h, n => by
    obtain ⟨b, r, t⟩ := vr_scr h
    simp only [VR]
    refine ⟨b, r, ?_⟩
    rcases t with ⟨n1, n2⟩ | t
    · exact .inl ⟨fun q => n1 (hp.subset q), n2⟩
    · exact .inr t
  | .ref k, v, h, n => by
    simp only [bndD, decide_eq_true_eq] at n
    obtain ⟨b, r, t⟩ := vr_ref h
    simp only [VR]
    refine ⟨b, ?_, t⟩
    obtain ⟨l, rfl⟩ := hp
    rw [List.getElem?_append_left n] at r
    exact r
  | .fn x, v, h, _ => by simpa [VR] using h
  | .ty x, v, h, _ => by simpa [VR] using h
theorem bnd_vrs {ρ ρ0 : List Addr} {H : Hp} (hp : ρ0 <+: ρ) : ∀ (ds : List D) (vs : List V), VRs R ρ H ds vs → bndDs ρ0.length ds = true → VRs R ρ0 H ds vs
  | [], [], _, _ => by simp [VRs]
  | d :: ds, v :: vs, h, n => by
    simp only [VRs] at h ⊢
    simp only [bndDs, Bool.and_eq_true] at n
    exact ⟨bnd_vr hp d v h.1 n.1, bnd_vrs hp ds vs h.2 n.2⟩
  | [], _ :: _, h, _ => by simp [VRs] at h
  | _ :: _, [], h, _ => by simp [VRs] at h
end
theorem bndDs_all {k : Nat} : ∀ {ds : List D}, bndDs k ds = ds.all (bndD k)
  | [] => rfl
  | d :: ds => by
    simp only [bndDs, List.all_cons]
    rw [bndDs_all]
theorem bnd_or {ρ ρ0 : List Addr} {H : Hp} (hp : ρ0 <+: ρ) {o : O} {a : Addr} (h : OR R ρ H o a) (n : bndO ρ0.length o = true) : OR R ρ0 H o a := by
  cases o with
  | lst ds =>
    obtain ⟨vs, h1, h2⟩ := h
    exact ⟨vs, h1, bnd_vrs hp _ _ h2 n⟩
  | dic kvs =>
    obtain ⟨ws, h1, h2, h3⟩ := h
    exact ⟨ws, h1, h2, bnd_vrs hp _ _ h3 n⟩
  | fdic kvs =>
    obtain ⟨o, ws, h1, h2, h3⟩ := h
    exact ⟨o, ws, h1, h2, bnd_vrs hp _ _ h3 n⟩
  | acc ds =>
    obtain ⟨vs, h1, h2⟩ := h
    refine ⟨vs, h1, bnd_vrs hp _ _ h2 ?_⟩
    simp only [bndO] at n
    rw [bndDs_all] at n ⊢
    rw [List.all_reverse]
    exact n
theorem bnd_mr {ρ ρ0 : List Addr} {H : Hp} {m : Mem} (hp : ρ0 <+: ρ) (M : MR R ρ H m) (n : (m.take ρ0.length).all (bndO ρ0.length) = true) : MR R ρ0 H (m.take ρ0.length) := by
  have hl : ρ0.length ≤ m.length := by
    rw [← M.len]
    exact hp.length_le
  refine ⟨by rw [List.length_take]; omega, M.nd.sublist hp.sublist, fun k o h => ?_⟩
  have hb : bndO ρ0.length o = true := List.all_eq_true.mp n o (List.mem_of_getElem? h)
  have hk : k < ρ0.length := by
    have := (List.getElem?_eq_some_iff.mp h).1
    rw [List.length_take] at this
    omega
  rw [List.getElem?_take_of_lt hk] at h
  obtain ⟨a, h1, h2⟩ := M.ob k o h
  refine ⟨a, ?_, bnd_or hp h2 hb⟩
  obtain ⟨l, rfl⟩ := hp
  rw [List.getElem?_append_left hk] at h1
  exact h1
theorem Ext.cut {ρ ρ0 : List Addr} {H H0 : Hp} (e : Ext ρ0 H0 ρ H) : Ext ρ0 H0 ρ0 H := ⟨List.prefix_refl _, fun _ h n => absurd h n, e.frm, e.frz⟩
theorem clean_ok {ρ ρ0 : List Addr} {H H0 : Hp} {m : Mem} {d : D} {v : V} (e : Ext ρ0 H0 ρ H) (M : MR R ρ H m) (r : VR R ρ H d v) :
    ∃ ρ', Ext ρ0 H0 ρ' H ∧ MR R ρ' H (clean ρ0.length d m).2 ∧ VR R ρ' H (clean ρ0.length d m).1 v ∧ (isL d = false → New H0 (clean ρ0.length d m).1 v) ∧ (isL d = true → (clean ρ0.length d m).1 = d) := by
  have same : ∃ ρ', Ext ρ0 H0 ρ' H ∧ MR R ρ' H m ∧ VR R ρ' H d v ∧ (isL d = false → New H0 d v) ∧ (isL d = true → d = d) := ⟨ρ, e, M, r, (fun h ds hd => by subst hd; cases h), fun _ => rfl⟩
  unfold clean
  split
  · rename_i hn
    have M0 := bnd_mr e.pre M hn
    split
    · rename_i n
      split
      · rename_i hlt
        exact ⟨ρ0, e.cut, M0, bnd_vr e.pre _ _ r (by simp [bndD, hlt]), (fun _ ds hd => by cases hd), fun h => by cases h⟩
      · rename_i hge
        split
        · rename_i ds hm
          split
          · rename_i hb
            obtain ⟨a, vs, h1, rfl, h2, h3⟩ := vr_refL M r hm
            have ha : a ∉ ρ0 := fun q => by
              obtain ⟨l, rfl⟩ := e.pre
              obtain ⟨k, hk⟩ := List.mem_iff_getElem?.mp q
              have hk2 : (ρ0 ++ l)[k]? = some a := by
                rw [List.getElem?_append_left (List.getElem?_eq_some_iff.mp hk).1]
                exact hk
              obtain ⟨g1, g2⟩ := List.getElem?_eq_some_iff.mp h1
              obtain ⟨g3, g4⟩ := List.getElem?_eq_some_iff.mp hk2
              have := (List.getElem_inj M.nd).mp (g2.trans g4.symm)
              have := (List.getElem?_eq_some_iff.mp hk).1
              omega
            refine ⟨ρ0, e.cut, M0, ?_, fun _ ds' _ b hb' => ?_, fun h => by cases h⟩
            · simp only [VR]
              exact ⟨a, vs, rfl, ha, h2, bnd_vrs e.pre _ _ h3 hb⟩
            · cases hb'
              exact e.new a (List.mem_of_getElem? h1) ha
          · exact same
        · exact same
    · rename_i hne
      split
      · rename_i hb
        exact ⟨ρ0, e.cut, M0, bnd_vr e.pre _ _ r hb, (fun h ds hd => by subst hd; cases h), fun _ => rfl⟩
      · exact same
  · exact same
/-! ### targets -/
mutual
def tgS : Tg → List Nat
  | .name i => [i]
  | .pair ts => tgSs ts
def tgSs : Tgs → List Nat
  | .nil => []
  | .cons t ts => tgS t ++ tgSs ts
end
/-- what a store leaves -/
def StOk (R : Rc) (ρ : List Addr) (H : Hp) (m : Mem) (env' : Env) (js : List Nat) (σ : L2.St) (Q : L2.St → Hp → Prop) : Prop := ∀ σ', SR R ρ H m env' σ' → σ'.length = σ.length → (∀ j, j ∉ js → σ'[j]? = σ[j]?) → Q σ' H
def tGt (R : Rc) (tg : Tg) : TG := fun v σ H Q => ∃ ρ m env d env', SR R ρ H m env σ ∧ VR R ρ H d v ∧ asgT tg d env = some env' ∧ StOk R ρ H m env' (tgS tg) σ Q
def tGts (R : Rc) (tgs : Tgs) : TGs := fun vs σ H Q => ∃ ρ m env ds env', SR R ρ H m env σ ∧ VRs R ρ H ds vs ∧ asgTs tgs ds env = some env' ∧ StOk R ρ H m env' (tgSs tgs) σ Q
theorem SR.set {ρ : List Addr} {H : Hp} {m : Mem} {env : Env} {σ : L2.St} {i : Nat} {d : D} {v : V} (S : SR R ρ H m env σ) (r : VR R ρ H d v) : SR R ρ H m (env.set i (some d)) (σ.set i (some v)) := by
  refine ⟨S.mem, by simp [S.len], fun j e h => ?_⟩
  by_cases hj : i = j
  · subst hj
    by_cases hl : i < env.length
    · rw [List.getElem?_set_self hl] at h
      cases h
      exact ⟨v, List.getElem?_set_self (by rw [← S.len]; exact hl), r⟩
    · rw [List.getElem?_eq_none (by simpa using hl)] at h
      cases h
  · rw [List.getElem?_set_ne hj] at h ⊢
    exact S.ev j e h
theorem pg_imp {e : Expr} {t t' : TG} (h : PG X e t) (k : ∀ v σ H Q, t' v σ H Q → t v σ H Q) : PG X e t' := ⟨fun pn s σ H v u Q I r q => h.run pn s σ H v u Q I r (k v σ H Q q)⟩
theorem pgs_imp {es : List Expr} {t t' : TGs} (h : PGs X es t) (k : ∀ v σ H Q, t' v σ H Q → t v σ H Q) : PGs X es t' := ⟨fun pn s σ H v u Q I r q => h.run pn s σ H v u Q I r (k v σ H Q q)⟩
theorem pg_nm0 {x : Str} {i : Nat} {p : Pos} (hN : X.N.Nodup) (hi : X.N[i]? = some x) (hl : Loc X.env.scope x) (hf : X.fn x = true ∨ X.env.scope.names.lookup x = some .local) : PG X (.Name x p) (tGt R (.name i)) := by
  refine pg_imp (pg_name hN hi hl hf) fun v σ H Q q => ?_
  obtain ⟨ρ, m, env, d, env', S', r, e, q⟩ := q
  simp only [asgT] at e
  split at e
  · cases e
    exact q _ (S'.set r) (by simp) fun j hj => List.getElem?_set_ne (fun h => hj (by simp [tgS, h]))
  · cases e
theorem pg_nm (A : Ag G S R C W X) {x : Str} {i : Nat} {p : Pos} (hi : S.slot x = some i) (hl : S.st.lookup x = some .local ∨ S.st.lookup x = some .cell) : PG X (.Name x p) (tGt R (.name i)) :=
  pg_nm0 (by rw [A.N]; exact A.nd) (by rw [A.N]; exact slot_ok hi) (by rw [A.sc]; exact (A.loc x hl).1) (by rw [A.sc]; exact (A.loc x hl).2)
theorem asg_star {e : Expr} {es : List Expr} {env : PySem.Env} (h : isStar e = false) : assignEach (e :: es) env = (false, assign e env) :: assignEach es env := by
  cases e <;> first | (cases h; done) | rfl | (unfold assignEach; rfl)
theorem asg_len {env : PySem.Env} : ∀ {es : List Expr}, es.any isStar = false → (assignEach es env).length = es.length ∧ (assignEach es env).findIdx? (·.1) = none
  | [], _ => ⟨rfl, rfl⟩
  | e :: es, h => by
    rw [List.any_cons, Bool.or_eq_false_iff] at h
    obtain ⟨h1, h2⟩ := asg_len (env := env) h.2
    rw [asg_star h.1]
    exact ⟨by simp [h1], by simp [List.findIdx?_cons, h2]⟩
theorem pgs_nil0 : PGs X [] (tGts R .nil) := pgs_imp pgs_nil fun v σ H Q q => by
  obtain ⟨ρ, m, env, ds, env', S', r, e, q⟩ := q
  cases ds with
  | nil =>
    cases e
    cases v with
    | nil => exact ⟨rfl, q σ S' rfl fun _ _ => rfl⟩
    | cons _ _ => simp [VRs] at r
  | cons _ _ => cases e
theorem pgs_cons1 {e : Expr} {es : List Expr} {t : Tg} {ts : Tgs} (hs : isStar e = false) (h1 : PG X e (tGt R t)) (h2 : PGs X es (tGts R ts)) : PGs X (e :: es) (tGts R (.cons t ts)) := by
  refine pgs_imp (pgs_cons h1 h2 (by rw [asg_star hs]; rfl)) fun v σ H Q q => ?_
  obtain ⟨ρ, m, env, ds, env', S', r, e, q⟩ := q
  cases ds with
  | nil => cases e
  | cons d ds =>
    cases v with
    | nil => simp [VRs] at r
    | cons v vs =>
      simp only [VRs] at r
      simp only [asgTs] at e
      split at e
      · rename_i env1 he1
        refine ⟨v, vs, rfl, ρ, m, env, d, env1, S', r.1, he1, fun σ1 S1 l1 k1 => ?_⟩
        refine ⟨ρ, m, env1, ds, env', S1, r.2, e, fun σ2 S2 l2 k2 => q σ2 S2 (l2.trans l1) fun j hj => ?_⟩
        simp only [tgSs, List.mem_append, not_or] at hj
        rw [k2 j hj.2, k1 j hj.1]
      · cases e
def tgsLen : Tgs → Nat
  | .nil => 0
  | .cons _ ts => tgsLen ts + 1
theorem tgsLen_ok : ∀ {ts : Tgs} {ds : List D} {env env' : Env}, asgTs ts ds env = some env' → ds.length = tgsLen ts
  | .nil, [], _, _, _ => rfl
  | .nil, _ :: _, _, _, e => by cases e
  | .cons t ts, [], _, _, e => by cases e
  | .cons t ts, d :: ds, _, _, e => by
    simp only [asgTs] at e
    split at e
    · simp [tgsLen, tgsLen_ok e]
    · cases e
theorem pg_pr (A : Ag G S R C W X) {es : List Expr} {k : Nat} {p : Pos} {ts : Tgs} (hs : es.any isStar = false) (hl : es.length = tgsLen ts) (h : PGs X es (tGts R ts)) : PG X (.Tuple es k p) (tGt R (.pair ts)) := by
  obtain ⟨g1, g2⟩ := asg_len (env := X.env) hs
  refine ⟨fun pn s σ H v u Q I r q => ?_⟩
  obtain ⟨ρ, m, env, d, env', S', rd, e, q⟩ := q
  simp only [asgT] at e
  split at e
  · rename_i ds
    obtain ⟨a, vs, rfl, t, rs⟩ := vr_tup rd
    exact (pg_tup A.calm h g1 g2).run pn s σ H _ u Q I r ⟨a, vs, rfl, A.hK ▸ t.sq, by rw [← rs.length, tgsLen_ok e, hl], ρ, m, env, ds, env', S', rs, e, q⟩
  · rename_i ds
    simp only [VR] at rd
    obtain ⟨a, vs, rfl, _, t, rs⟩ := rd
    exact (pg_tup A.calm h g1 g2).run pn s σ H _ u Q I r ⟨a, vs, rfl, .inl (.inl t), by rw [← rs.length, tgsLen_ok e, hl], ρ, m, env, ds, env', S', rs, e, q⟩
  · rename_i ds
    obtain ⟨a, vs, rfl, _, t, rs⟩ := vr_lst rd
    exact (pg_lst A.calm h g1 g2).run pn s σ H _ u Q I r ⟨a, vs, rfl, .inl (.inl t), by rw [← rs.length, tgsLen_ok e, hl], ρ, m, env, ds, env', S', rs, e, q⟩
  · cases e
/-! ### comprehensions -/
def tTs (R : Rc) (C : Nat → List D → Mem → Res D) (W : WX) (es : Exs) : TT := fun σ H Q => ∃ ρ m env, SR R ρ H m env σ ∧ Post R W σ ρ H (evTs C es env m) fun b m' => ∀ ρ' H', Ext ρ H ρ' H' → MR R ρ' H' m' → Q b H'
theorem pts_nil0 : PTs X [] (tTs R C W .nil) := ⟨fun pn s σ H Q I h => pts_nil.run pn s σ H Q I (by
  obtain ⟨ρ, m, env, S, p⟩ := h
  have p : ∀ ρ' H', Ext ρ H ρ' H' → MR R ρ' H' m → Q true H' := p
  exact p ρ H Ext.refl S.mem)⟩
theorem pts_one1 {c : Expr} {x : Ex} (h : PT X c (tT R C W x)) : PTs X [c] (tTs R C W (.cons x .nil)) := ⟨fun pn s σ H Q I q => (pts_one h).run pn s σ H Q I (by
  obtain ⟨ρ, m, env, S, p⟩ := q
  simp only [evTs] at p
  refine ⟨ρ, m, env, S, p.bnd fun u m1 _ p1 => ?_⟩
  split at p1
  · rename_i hb
    exact ⟨true, hb, p1⟩
  · rename_i hb
    exact ⟨false, hb, p1⟩
  · exact p1.elim)⟩
theorem wipe_out {σ : L2.St} {j : Nat} : ∀ {vs : List Nat}, j ∉ vs → (wipe σ vs)[j]? = σ[j]?
  | [], _ => rfl
  | v :: vs, h => by
    simp only [List.mem_cons, not_or] at h
    unfold wipe
    rw [List.getElem?_set_ne (Ne.symm h.1), wipe_out h.2]
theorem wipe_in {σ : L2.St} {j : Nat} : ∀ {vs : List Nat}, j ∈ vs → j < σ.length → (wipe σ vs)[j]? = some none
  | v :: vs, h, hl => by
    unfold wipe
    by_cases e : v = j
    · subst e
      rw [List.getElem?_set_self (by rw [wipe_length]; exact hl)]
    · rw [List.getElem?_set_ne e]
      rcases List.mem_cons.mp h with h | h
      · exact absurd h.symm e
      · exact wipe_in h hl
theorem wipe_same {σ σ' : L2.St} {vs : List Nat} (hl : σ'.length = σ.length) (h : ∀ j, j ∉ vs → σ'[j]? = σ[j]?) : wipe σ' vs = wipe σ vs := by
  refine List.ext_getElem? fun j => ?_
  by_cases hj : j ∈ vs
  · by_cases hlt : j < σ.length
    · rw [wipe_in hj hlt, wipe_in hj (by rw [hl]; exact hlt)]
    · rw [List.getElem?_eq_none (by rw [wipe_length]; omega), List.getElem?_eq_none (by rw [wipe_length]; omega)]
  · rw [wipe_out hj, wipe_out hj, h j hj]
theorem SR.wipe {ρ : List Addr} {H : Hp} {m : Mem} {env : Env} {σ : L2.St} (S : SR R ρ H m env σ) : ∀ vs : List Nat, SR R ρ H m (wipeE env vs) (L2.wipe σ vs)
  | [] => S
  | v :: vs => by
    have ih := SR.wipe S vs
    refine ⟨ih.mem, by simp [wipeE, L2.wipe, ih.len], fun j d h => ?_⟩
    unfold wipeE at h
    unfold L2.wipe
    by_cases e : v = j
    · subst e
      by_cases hl : v < (wipeE env vs).length
      · rw [List.getElem?_set_self hl] at h
        cases h
      · rw [List.getElem?_eq_none (by simpa using hl)] at h
        cases h
    · rw [List.getElem?_set_ne e] at h ⊢
      exact ih.ev j d h
/-- one thing told otherwise -/
theorem MR.swap {ρ : List Addr} {H : Hp} {m : Mem} {k : Nat} {o : O} {a : Addr} (M : MR R ρ H m) (ha : ρ[k]? = some a) (ho : OR R ρ H o a) : MR R ρ H (m.set k o) := by
  refine ⟨by rw [List.length_set, M.len], M.nd, fun j x h => ?_⟩
  by_cases e : k = j
  · subst e
    by_cases hl : k < m.length
    · rw [List.getElem?_set_self hl] at h
      cases h
      exact ⟨a, ha, ho⟩
    · rw [List.getElem?_eq_none (by simpa using hl)] at h
      cases h
  · rw [List.getElem?_set_ne e] at h
    exact M.ob j x h
def W0 : WX := fun _ _ _ _ => False
theorem comp_end {ρ ρ1 ρ2 : List Addr} {H H1 H2 : Hp} {m1 m2 : Mem} {D' : Addr} {σ : L2.St} {Q : VK} (e1 : Ext ρ H ρ1 H1) (M1 : MR R ρ1 H1 m1) (e2 : Ext ρ1 H1 ρ2 H2) (M2 : MR R ρ2 H2 m2) (hD : ρ2[m1.length]? = some D')
    (p : Post R W σ ρ H (compEnd m1.length m2) (VE R ρ H true Q)) : Q (.ref D') H2 := by
  unfold compEnd at p
  split at p
  · rename_i ds hd
    obtain ⟨a, h1, vs, h2, h3⟩ := M2.ob _ _ hd
    rw [hD] at h1
    cases h1
    have M3 : MR R ρ2 H2 (m2.set m1.length (.lst ds.reverse)) := M2.swap hD ⟨vs, h2, h3⟩
    rw [← M1.len] at p M3
    obtain ⟨ρ3, g1, g2, g3, g4, _⟩ := clean_ok (d := .ref ρ1.length) (v := .ref D') e2 M3 (by simp only [VR]; exact ⟨D', by rw [M1.len]; exact hD, rfl⟩)
    exact p ρ3 H2 _ (e1.trans g1) g2 g3 fun _ => (g4 rfl).back M1 e1
  · exact p.elim
/-- what is wanted of the turns: K of the memory behind them -/
def PK (K : Mem → Prop) (r : Res Unit) : Prop := match r with
  | .ok _ m => K m
  | _ => False
theorem PK.bndN {α : Type} {K : Mem → Prop} {r : Res α} {k : α → Mem → Res Unit} (h : PK K (r.bndN k)) : ∃ a m, r = .ok a m ∧ PK K (k a m) := by
  cases r with
  | ok a m => exact ⟨a, m, rfl, h⟩
  | exc c fs m => exact h.elim
  | bad => exact h.elim
theorem pre_get {ρ ρ' : List Addr} {k : Nat} {a : Addr} (hp : ρ <+: ρ') (h : ρ[k]? = some a) : ρ'[k]? = some a := by
  obtain ⟨l, rfl⟩ := hp
  rw [List.getElem?_append_left (List.getElem?_eq_some_iff.mp h).1]
  exact h
/-- the turns of a clause -/
theorem loop_ok {ρ1 ρ0 : List Addr} {H1 H0 : Hp} {m1 m0 : Mem} {env : Env} {σ : L2.St} {src : SrcV} {J : It} {D' : Addr} {kk n0 : Nat} {tg : Tg} {ifs : Exs} {x : Ex} {own : List Nat} {F : Hp → Prop} {K : Mem → Prop} (so : SrcOk R ρ1 H1 src J) (S1 : SR R ρ1 H1 m1 env σ) (hsub : ∀ j ∈ tgS tg, j ∈ own)
    (hF : ∀ ρ' H' m', Ext ρ1 H1 ρ' H' → MR R ρ' H' m' → ρ'[kk]? = some D' → K m' → F H') (e0 : Ext ρ1 H1 ρ0 H0) (M0 : MR R ρ0 H0 m0) (hD0 : ρ0[kk]? = some D')
    (p : PK K (compLoop kk src tg own env (fun env' m' => evTs C ifs env' m') (fun env' m' => ev C x env' m') n0 0 m0)) :
    ∃ Wn : Nat → Nat → Hp → Prop, (∃ m, Wn 0 m H0) ∧ ∀ i m H, Wn i m H → (J.stop i H ∧ F H) ∨ (J.go i H ∧ ∃ Nx : Hp → Prop, (∀ H', Nx H' → ∃ m', m' < m ∧ Wn (i + 1) m' H') ∧ ∀ v H', J.yld i H v H' → tGt R tg v (wipe σ own) H' fun σ2 H2 => wipe σ2 own = wipe σ own ∧ tTs R C W0 ifs σ2 H2 fun b H3 =>
      if b = true then tE R C W0 x σ2 H3 fun y H4 => ∃ acc, H4 D' = some (.lst acc) ∧ acc.length < sizeLine ∧ Nx (upd H4 D' (.lst (acc ++ [y]))) else Nx H3) := by
  let WI : Nat → Nat → Hp → Prop := fun i n H' => ∃ ρ' m', Ext ρ1 H1 ρ' H' ∧ MR R ρ' H' m' ∧ ρ'[kk]? = some D' ∧ PK K (compLoop kk src tg own env (fun env' m' => evTs C ifs env' m') (fun env' m' => ev C x env' m') n i m')
  refine ⟨WI, ⟨n0, ρ0, m0, e0, M0, hD0, p⟩, fun i n H' hw => ?_⟩
  obtain ⟨ρ', m', e', M', hD', pn⟩ := hw
  cases n with
  | zero => exact pn.elim
  | succ n =>
    have so := so ρ' H' m' e' M' i
    simp only [compLoop] at pn
    split at pn
    · exact pn.elim
    · rename_i hat
      rw [hat] at so
      exact .inl ⟨so, hF ρ' H' m' e' M' hD' pn⟩
    · rename_i d hat
      rw [hat] at so
      obtain ⟨go, so⟩ := so
      split at pn
      · exact pn.elim
      · rename_i env' hasg
        refine .inr ⟨go, WI (i + 1) n, fun H2 h2 => ⟨n, Nat.lt_succ_self n, h2⟩, fun v H'' hy => ?_⟩
        obtain ⟨e2, M2, rv⟩ := so v H'' hy
        have e02 := e'.trans e2
        refine ⟨ρ', m', wipeE env own, d, env', (S1.ext e02 M2).wipe own, rv, hasg, fun σ' S' l' k' => ⟨(wipe_same l' fun j hj => k' j fun hm => hj (hsub j hm)).trans (wipe_same (wipe_length σ own) fun j hj => wipe_out hj), ?_⟩⟩
        refine ⟨ρ', m', env', S', ?_⟩
        obtain ⟨b, m3, ht, pn⟩ := pn.bndN
        rw [ht]
        intro ρ3 H3 e3 M3
        have e03 := e02.trans e3
        have hD3 := pre_get e3.pre hD'
        cases b with
        | false =>
          rw [if_neg Bool.false_ne_true] at pn ⊢
          exact ⟨ρ3, m3, e03, M3, hD3, pn⟩
        | true =>
          rw [if_pos rfl] at pn ⊢
          refine ⟨ρ3, m3, env', S'.ext e3 M3, ?_⟩
          obtain ⟨y, m4, hx, pn⟩ := pn.bndN
          rw [hx]
          intro ρ4 H4 w e4 M4 rw4 _
          have hD4 := pre_get e4.pre hD3
          split at pn
          · rename_i ds hds
            split at pn
            · rename_i hl
              obtain ⟨a, h1, vs, h2, h3⟩ := M4.ob _ _ hds
              rw [hD4] at h1
              cases h1
              refine ⟨vs, h2, ?_, ?_⟩
              · rw [← h3.length, List.length_reverse]
                exact hl
              · have e5 := M4.ext_put (.lst (vs ++ [w])) (List.mem_of_getElem? hD4) (fun o w => by rw [h2]; exact fun z => nomatch z)
                refine ⟨ρ4, m4.set kk (.acc (y :: ds)), (e03.trans e4).trans e5, M4.put hD4 (fun o w => by rw [h2]; exact fun z => nomatch z) ⟨_, upd_same, ?_⟩, hD4, pn⟩
                rw [List.reverse_cons]
                exact VRs.ext e5 _ _ (h3.append (VRs.one rw4))
            · exact pn.elim
          · exact pn.elim
theorem comp_ok {sr : Sr} {tg : Tg} {ifs : Exs} {x : Ex} {own : List Nat} (hsub : ∀ j ∈ tgS tg, j ∈ own) {σ : L2.St} {H : Hp} {Q : VK} (h : tE R C W (.comp tg sr ifs x own) σ H Q) : tLc (MP.tS R C W sr) (tGt R tg) (tTs R C W0 ifs) (tE R C W0 x) own σ H Q := by
  obtain ⟨ρ, m, env, S, p⟩ := h
  simp only [ev] at p
  refine ⟨ρ, m, env, S, p.bnd fun src m1 _ p1 ρ1 H1 J e1 M1 ok D' hD => ?_⟩
  have p2 : PK (fun m2 => Post R W σ ρ H (compEnd m1.length m2) (VE R ρ H true Q)) (compLoop m1.length src tg own env (fun env' m' => evTs C ifs env' m') (fun env' m' => ev C x env' m') turnsMax 0 (m1 ++ [.acc []])) := by
    cases hr : compLoop m1.length src tg own env (fun env' m' => evTs C ifs env' m') (fun env' m' => ev C x env' m') turnsMax 0 (m1 ++ [.acc []]) <;> (rw [hr] at p1; exact p1)
  exact loop_ok ok (S.ext e1 M1) hsub (fun ρ' H' m' e' M' hD' k => comp_end e1 M1 e' M' hD' k) (M1.ext_add _ hD) (M1.add (o := .acc []) hD ⟨[], upd_same, by simp [VRs]⟩) (by rw [← M1.len]; simp) p2
theorem comp_ok2 {sr sr2 : Sr} {tg tg2 : Tg} {ifs ifs2 : Exs} {x : Ex} {own own2 : List Nat} (hsub : ∀ j ∈ tgS tg, j ∈ own) (hsub2 : ∀ j ∈ tgS tg2, j ∈ own2) {σ : L2.St} {H : Hp} {Q : VK} (h : tE R C W (.comp2 tg sr ifs tg2 sr2 ifs2 x own own2) σ H Q) :
    tLc2 (MP.tS R C W sr) (tGt R tg) (tTs R C W0 ifs) (MP.tS R C W0 sr2) (tGt R tg2) (tTs R C W0 ifs2) (tE R C W0 x) own own2 σ H Q := by
  obtain ⟨ρ, m, env, S, p⟩ := h
  simp only [ev] at p
  refine ⟨ρ, m, env, S, p.bnd fun src m1 _ p1 ρ1 H1 J e1 M1 ok D' hD => ?_⟩
  let inner : Env → Mem → Res Unit := fun env' m' => (evSr C sr2 env' m').bndN fun s2 m2 => compLoop m1.length s2 tg2 own2 env' (fun env2 m' => evTs C ifs2 env2 m') (fun env2 m' => ev C x env2 m') turnsMax 0 m2
  let K : Mem → Prop := fun m2 => Post R W σ ρ H (compEnd m1.length m2) (VE R ρ H true Q)
  have p2 : PK K (compLoop2 src tg own env (fun env' m' => evTs C ifs env' m') inner turnsMax 0 (m1 ++ [.acc []])) := by
    cases hr : compLoop2 src tg own env (fun env' m' => evTs C ifs env' m') inner turnsMax 0 (m1 ++ [.acc []]) <;> (rw [hr] at p1; exact p1)
  let WI : Nat → Nat → Hp → Prop := fun i n H' => ∃ ρ' m', Ext ρ1 H1 ρ' H' ∧ MR R ρ' H' m' ∧ ρ'[m1.length]? = some D' ∧ PK K (compLoop2 src tg own env (fun env' m' => evTs C ifs env' m') inner n i m')
  refine ⟨WI, ⟨turnsMax, ρ1 ++ [D'], m1 ++ [.acc []], M1.ext_add _ hD, M1.add (o := .acc []) hD ⟨[], upd_same, by simp [VRs]⟩, by rw [← M1.len]; simp, p2⟩, fun i n H' hw => ?_⟩
  obtain ⟨ρ', m', e', M', hD', pn⟩ := hw
  cases n with
  | zero => exact pn.elim
  | succ n =>
    have so := ok ρ' H' m' e' M' i
    simp only [compLoop2] at pn
    split at pn
    · exact pn.elim
    · rename_i hat
      rw [hat] at so
      exact .inl ⟨so, comp_end e1 M1 e' M' hD' pn⟩
    · rename_i d hat
      rw [hat] at so
      obtain ⟨go, so⟩ := so
      split at pn
      · exact pn.elim
      · rename_i env' hasg
        refine .inr ⟨go, WI (i + 1) n, fun H2 h2 => ⟨n, Nat.lt_succ_self n, h2⟩, fun v H'' hy => ?_⟩
        obtain ⟨e2, M2, rv⟩ := so v H'' hy
        have e02 := e'.trans e2
        refine ⟨ρ', m', wipeE env own, d, env', ((S.ext e1 M1).ext e02 M2).wipe own, rv, hasg, fun σ' S' l' k' => ⟨(wipe_same l' fun j hj => k' j fun hm => hj (hsub j hm)).trans (wipe_same (wipe_length σ own) fun j hj => wipe_out hj), ?_⟩⟩
        refine ⟨ρ', m', env', S', ?_⟩
        obtain ⟨b, m3, ht, pn⟩ := pn.bndN
        rw [ht]
        intro ρ3 H3 e3 M3
        have e03 := e02.trans e3
        have hD3 := pre_get e3.pre hD'
        cases b with
        | false =>
          rw [if_neg Bool.false_ne_true] at pn ⊢
          exact ⟨ρ3, m3, e03, M3, hD3, pn⟩
        | true =>
          rw [if_pos rfl] at pn ⊢
          obtain ⟨_, m5, hin, pn⟩ := pn.bndN
          obtain ⟨s2, m4, hs2, pin⟩ := PK.bndN (K := fun m6 => m6 = m5) (r := evSr C sr2 env' m3) (k := fun s2 m2 => compLoop m1.length s2 tg2 own2 env' (fun env2 m' => evTs C ifs2 env2 m') (fun env2 m' => ev C x env2 m') turnsMax 0 m2) (by
            have : PK (fun m6 => m6 = m5) (inner env' m3) := by rw [hin]; exact rfl
            exact this)
          refine ⟨ρ3, m3, env', S'.ext e3 M3, ?_⟩
          rw [hs2]
          intro ρ4 H4 J1 e4 M4 so4
          have hD4 := pre_get e4.pre hD3
          refine loop_ok so4 ((S'.ext e3 M3).ext e4 M4) hsub2 (fun ρ5 H5 m6 e5 M5 hD5 k => ?_) Ext.refl M4 hD4 pin
          subst k
          exact ⟨ρ5, m6, (e03.trans e4).trans e5, M5, hD5, pn⟩
end
end MP

namespace MP
open PySem L2 PySem.Spec PyProof.Rows
section
variable {G : Gt} {S : Sc} {R : Rc} {C : Nat → List D → Mem → Res D} {W : WX} {X : Cx}
/-! ### list(range(..)), tuple(range(..)) -/
theorem rg_rel {ρ : List Addr} {H : Hp} (a b : Int) : VRs R ρ H (rngList a b) (rgV a b) := by
  unfold rngList rgV
  generalize (b - a).toNat = k
  have : ∀ l : List Nat, VRs R ρ H (l.map fun (i : Nat) => D.int (a + (i : Int))) (l.map fun i => V.int (a + (i : Nat))) := fun l => by
    induction l with
    | nil => simp [VRs]
    | cons x l ih =>
      simp only [List.map_cons, VRs]
      exact ⟨by simp [VR], ih⟩
  exact this _
theorem rg_ok {a b : Int} (h : rngOk a b = true ∧ (b - a).toNat ≤ 1000000) : RgOk a b := by
  obtain ⟨h1, h2, h3, h4⟩ := rng_ok h.1
  exact ⟨h1, h2, h3, h4, by omega⟩
def tTupRgS (te : L2.St → Hp → (Int → Int → Hp → Prop) → Prop) : TE := fun σ H Q => te σ H fun a b H1 => RgOk a b ∧ ∀ (q : Addr) (o : Obj), o.dict = none → H1 q = none → Q (.ref q) (upd H1 q (.frz o (.tup (rgV a b))))
theorem pe_tupRgS {e : Expr} {te : L2.St → Hp → (Int → Int → Hp → Prop) → Prop} {p pos : Pos} (hc : X.calm = true) (hg : Gl X "tuple") (hm : X.mg "tuple" = none) (he : PRg X e te) (na : starEach [e] X.env = (false, eval e X.env) :: starEach [] X.env) : PE X (.Call (.Name "tuple" p) [e] [] pos) (tTupRgS te) := by
  refine ⟨fun pn s σ H Q I h => Call_ (ld_blt I hg hm boot_tuple (PyProof.Rows.callWith_type1 (args_cons (thn (he pn s σ H _ I h) fun x s1 ⟨r, a, b, t, u, v, H1, ex, hr, I1, ok, q⟩ => args_nil ?_) na) na))⟩
  subst ex
  obtain ⟨b1, b2, b3, b4, b5⟩ := ok
  refine call_tuple_range (n := (b - a).toNat) (I1.ok.hd hc) hr (small_one b1 b2 b3 b4) (rangeSize_nat a b) b5 fun h' tk acc hk hi => ?_
  have I2 : L2.Inv X pn σ H1 { s1 with heap := h', toks := tk } := I1.kept hk
  have hz : (rgV a b).length ≤ sizeLine := by rw [rgV_length, sizeLine_eq]; omega
  have I3 := tnew (t' := tk) I2 (vals_rg hi) hz
  have e : tobj acc.toList = { cls := .type "tuple", data := .seq acc } := by unfold tobj; rw [Array.toArray_toList]
  rw [e] at I3
  exact ⟨.ref h'.objs.size, _, I3, rfl, q _ _ rfl (I2.hok.fresh (Nat.le_refl _))⟩
theorem prg1 (A : Ag G S R C W X) {e : Expr} {x : Ex} {p pos : Pos} (hf : ("range" : Str) ∈ G.free) (hg : S.sc.names.lookup ("range" : Str) = some .globalImplicit) (hs : isStar e = false) (h : PE X e (tE R C W x)) :
    PRg X (.Call (.Name "range" p) [e] [] pos) (tRg1 (tE R C W x)) := prg_1 (A.gl hg) (A.bl _ hf) h (star_cons hs)
theorem prg2 (A : Ag G S R C W X) {e e2 : Expr} {x x2 : Ex} {p pos : Pos} (hf : ("range" : Str) ∈ G.free) (hg : S.sc.names.lookup ("range" : Str) = some .globalImplicit) (hs : isStar e = false) (hs2 : isStar e2 = false) (h : PE X e (tE R C W x)) (h2 : PE X e2 (tE R C W x2)) :
    PRg X (.Call (.Name "range" p) [e, e2] [] pos) (tRg2 (tE R C W x) (tE R C W x2)) := prg_2 (A.gl hg) (A.bl _ hf) h h2 (star_cons hs) (star_cons hs2) (star_any (by simp [hs2]))
/-- the ends of a range, by our values -/
theorem rg_1 {b : Bool} {x : Ex} {σ : L2.St} {H : Hp} {Q : VK} {F : Int → Int → Hp → Prop} (h : tE R C W (if b = true then .rngT (.lit (.int 0)) x else .rngL (.lit (.int 0)) x) σ H Q)
    (hF : ∀ (ρ ρ1 : List Addr) (H1 : Hp) (m1 : Mem) (j : Int), Ext ρ H ρ1 H1 → MR R ρ1 H1 m1 → RgOk 0 j → VE R ρ H true Q (if b = true then .tup (rngList 0 j) else .lst (rngList 0 j)) m1 → F 0 j H1) : tRg1 (tE R C W x) σ H F := by
  obtain ⟨ρ, m, env, S, p⟩ := h
  have p : Post R W σ ρ H ((ev C x env m).bnd fun y m2 => match y with | .int j => if rngOk 0 j = true ∧ (j - 0).toNat ≤ 1000000 then .ok (if b = true then .tup (rngList 0 j) else .lst (rngList 0 j)) m2 else .bad | _ => .bad) (VE R ρ H true Q) := by
    cases b with
    | true =>
      have p2 : Post R W σ ρ H _ (VE R ρ H false Q) := p
      simp only [if_pos, ev, Res.bnd] at p2
      cases hr : ev C x env m with
      | ok y m2 =>
        rw [hr] at p2
        cases y with
        | int j =>
          dsimp only at p2 ⊢
          show Post R W σ ρ H (if rngOk 0 j = true ∧ (j - 0).toNat ≤ 1000000 then _ else _) _
          split
          · rename_i ho
            rw [if_pos ho] at p2
            exact fun ρ' H' v e1 M1 r1 n1 => p2 ρ' H' v e1 M1 r1 (fun z => by cases z)
          · rename_i ho
            rw [if_neg ho] at p2
            exact p2
        | _ => exact p2
      | exc c fs m2 => rw [hr] at p2; exact p2
      | bad => rw [hr] at p2; exact p2
    | false =>
      have p2 : Post R W σ ρ H _ (VE R ρ H true Q) := p
      simp only [Bool.false_eq_true, if_false, ev, Res.bnd] at p2
      cases hr : ev C x env m with
      | ok y m2 =>
        rw [hr] at p2
        cases y with
        | int j => exact p2
        | _ => exact p2
      | exc c fs m2 => rw [hr] at p2; exact p2
      | bad => rw [hr] at p2; exact p2
  refine ⟨ρ, m, env, S, p.bnd fun u m1 _ p1 ρ1 H1 v e1 M1 r1 n1 => ?_⟩
  split at p1
  · rename_i j _
    split at p1
    · rename_i ho
      exact ⟨j, vr_int r1, hF ρ ρ1 H1 m1 j e1 M1 (rg_ok ho) p1⟩
    · exact p1.elim
  · exact p1.elim
theorem rg_2 {b : Bool} {x x2 : Ex} {σ : L2.St} {H : Hp} {Q : VK} {F : Int → Int → Hp → Prop} (h : tE R C W (if b = true then .rngT x x2 else .rngL x x2) σ H Q)
    (hF : ∀ (ρ ρ1 : List Addr) (H1 : Hp) (m1 : Mem) (i j : Int), Ext ρ H ρ1 H1 → MR R ρ1 H1 m1 → RgOk i j → VE R ρ H true Q (if b = true then .tup (rngList i j) else .lst (rngList i j)) m1 → F i j H1) : tRg2 (tE R C W x) (tE R C W x2) σ H F := by
  obtain ⟨ρ, m, env, S, p⟩ := h
  have p : Post R W σ ρ H ((ev C x env m).bnd fun y m1 => (ev C x2 env m1).bnd fun z m2 => match y, z with | .int i, .int j => if rngOk i j = true ∧ (j - i).toNat ≤ 1000000 then .ok (if b = true then .tup (rngList i j) else .lst (rngList i j)) m2 else .bad | _, _ => .bad) (VE R ρ H true Q) := by
    cases b with
    | true =>
      have p2 : Post R W σ ρ H _ (VE R ρ H false Q) := p
      simp only [if_pos, ev, Res.bnd] at p2 ⊢
      cases hr : ev C x env m with
      | ok y m1 =>
        rw [hr] at p2
        dsimp only at p2 ⊢
        cases hr2 : ev C x2 env m1 with
        | ok z m2 =>
          rw [hr2] at p2
          dsimp only at p2 ⊢
          cases y with
          | int i =>
            cases z with
            | int j =>
              dsimp only at p2 ⊢
              split
              · rename_i ho
                rw [if_pos ho] at p2
                exact fun ρ' H' v e1 M1 r1 n1 => p2 ρ' H' v e1 M1 r1 (fun z => by cases z)
              · rename_i ho
                rw [if_neg ho] at p2
                exact p2
            | _ => exact p2
          | _ => exact p2
        | exc c fs m2 => rw [hr2] at p2; exact p2
        | bad => rw [hr2] at p2; exact p2
      | exc c fs m2 => rw [hr] at p2; exact p2
      | bad => rw [hr] at p2; exact p2
    | false => exact p
  refine ⟨ρ, m, env, S, p.bnd fun u m1 _ p1 ρ1 H1 v e1 M1 r1 _ => ?_⟩
  refine nextE S e1 M1 p1 fun w m2 p2 ρ2 H2 vw e2 M2 r2 n2 => ?_
  split at p2
  · rename_i i j _ _
    split at p2
    · rename_i ho
      exact ⟨i, j, vr_int r1, vr_int r2, hF ρ ρ2 H2 m2 i j (e1.trans e2) M2 (rg_ok ho) p2⟩
    · exact p2.elim
  · exact p2.elim
theorem pe_rl1 (A : Ag G S R C W X) {e : Expr} {x : Ex} {p q p2 pos : Pos} (hf : ("range" : Str) ∈ G.free) (hg : S.sc.names.lookup ("range" : Str) = some .globalImplicit) (hf2 : ("list" : Str) ∈ G.free) (hg2 : S.sc.names.lookup ("list" : Str) = some .globalImplicit) (hs : isStar e = false) (h : PE X e (tE R C W x)) :
    PE X (.Call (.Name "list" p) [.Call (.Name "range" p2) [e] [] q] [] pos) (tE R C W (.rngL (.lit (.int 0)) x)) :=
  pe_imp (pe_listRg A.calm (A.gl hg2) (A.bl _ hf2) (prg1 A hf hg hs h) (star_cons rfl)) fun σ H Q q => rg_1 (b := false) q fun ρ ρ1 H1 m1 j e1 M1 ok v => ⟨ok, fun q hq => (v.qv M1 e1).lst M1 (rg_rel 0 j) hq⟩
theorem pe_rt1 (A : Ag G S R C W X) {e : Expr} {x : Ex} {p q p2 pos : Pos} (hf : ("range" : Str) ∈ G.free) (hg : S.sc.names.lookup ("range" : Str) = some .globalImplicit) (hf2 : ("tuple" : Str) ∈ G.free) (hg2 : S.sc.names.lookup ("tuple" : Str) = some .globalImplicit) (hs : isStar e = false) (h : PE X e (tE R C W x)) :
    PE X (.Call (.Name "tuple" p) [.Call (.Name "range" p2) [e] [] q] [] pos) (tE R C W (.rngT (.lit (.int 0)) x)) :=
  pe_imp (pe_tupRgS A.calm (A.gl hg2) (A.bl _ hf2) (prg1 A hf hg hs h) (star_cons rfl)) fun σ H Q q => rg_1 (b := true) q fun ρ ρ1 H1 m1 j e1 M1 ok v => ⟨ok, fun q o ho hq => (v.qv M1 e1).tup M1 (rg_rel 0 j) hq ho⟩
theorem pe_rl2 (A : Ag G S R C W X) {e e2 : Expr} {x x2 : Ex} {p q p2 pos : Pos} (hf : ("range" : Str) ∈ G.free) (hg : S.sc.names.lookup ("range" : Str) = some .globalImplicit) (hf2 : ("list" : Str) ∈ G.free) (hg2 : S.sc.names.lookup ("list" : Str) = some .globalImplicit) (hs : isStar e = false) (hs2 : isStar e2 = false) (h : PE X e (tE R C W x)) (h2 : PE X e2 (tE R C W x2)) :
    PE X (.Call (.Name "list" p) [.Call (.Name "range" p2) [e, e2] [] q] [] pos) (tE R C W (.rngL x x2)) :=
  pe_imp (pe_listRg A.calm (A.gl hg2) (A.bl _ hf2) (prg2 A hf hg hs hs2 h h2) (star_cons rfl)) fun σ H Q q => rg_2 (b := false) q fun ρ ρ1 H1 m1 i j e1 M1 ok v => ⟨ok, fun q hq => (v.qv M1 e1).lst M1 (rg_rel i j) hq⟩
theorem pe_rt2 (A : Ag G S R C W X) {e e2 : Expr} {x x2 : Ex} {p q p2 pos : Pos} (hf : ("range" : Str) ∈ G.free) (hg : S.sc.names.lookup ("range" : Str) = some .globalImplicit) (hf2 : ("tuple" : Str) ∈ G.free) (hg2 : S.sc.names.lookup ("tuple" : Str) = some .globalImplicit) (hs : isStar e = false) (hs2 : isStar e2 = false) (h : PE X e (tE R C W x)) (h2 : PE X e2 (tE R C W x2)) :
    PE X (.Call (.Name "tuple" p) [.Call (.Name "range" p2) [e, e2] [] q] [] pos) (tE R C W (.rngT x x2)) :=
  pe_imp (pe_tupRgS A.calm (A.gl hg2) (A.bl _ hf2) (prg2 A hf hg hs hs2 h h2) (star_cons rfl)) fun σ H Q q => rg_2 (b := true) q fun ρ ρ1 H1 m1 i j e1 M1 ok v => ⟨ok, fun q o ho hq => (v.qv M1 e1).tup M1 (rg_rel i j) hq ho⟩
/-! ### isinstance -/
theorem kit_tab (K : PySem.W.Frag) : ∀ n ∈ ["NoneType", "bool", "int", "str", "tuple", "list", "dict"], ∀ T : Ty, PySem.W.kitOne K (.type n) (.type T.nm) = some (n == T.nm || (n == "bool" && T.nm == "int")) := by
  intro n hn T
  simp only [List.mem_cons, List.not_mem_nil, or_false] at hn
  rcases hn with rfl | rfl | rfl | rfl | rfl | rfl | rfl <;> cases T <;> rfl
/-- the class's name where isOne answers -/
def tyN (m : Mem) : D → Option String
  | .wtup _ => none
  | d => tyName m d
theorem isOne_kit {K : PySem.W.Frag} {m : Mem} {d : D} {T : Ty} {b : Bool} (h : isOne m d T = some b) : ∃ n, tyName m d = some n ∧ PySem.W.kitOne K (.type n) (.type T.nm) = some b := by
  have go : ∀ n, n ∈ ["NoneType", "bool", "int", "str", "tuple", "list", "dict"] → tyName m d = some n → (n == T.nm || (n == "bool" && T.nm == "int")) = b → ∃ n, tyName m d = some n ∧ PySem.W.kitOne K (.type n) (.type T.nm) = some b := fun n hn h1 h2 => ⟨n, h1, by rw [kit_tab K n hn T, h2]⟩
  cases d with
  | non => cases T <;> cases h <;> exact go "NoneType" (by simp) rfl (by decide)
  | bl _ => cases T <;> cases h <;> exact go "bool" (by simp) rfl (by decide)
  | int _ => cases T <;> cases h <;> exact go "int" (by simp) rfl (by decide)
  | str _ => cases T <;> cases h <;> exact go "str" (by simp) rfl (by decide)
  | tup _ => cases T <;> cases h <;> exact go "tuple" (by simp) rfl (by decide)
  | lst _ => cases T <;> cases h <;> exact go "list" (by simp) rfl (by decide)
  | scr _ => cases T <;> cases h <;> exact go "list" (by simp) rfl (by decide)
  | ref n =>
    simp only [isOne] at h
    split at h
    · rename_i ds hm
      cases T <;> cases h <;> exact go "list" (by simp) (by simp [tyName, hm]) (by decide)
    · rename_i ds hm
      cases T <;> cases h <;> exact go "dict" (by simp) (by simp [tyName, hm]) (by decide)
    · cases h
  | _ => cases T <;> cases h
theorem ty_rel {ρ : List Addr} {H : Hp} {m : Mem} {d : D} {v : V} {n : String} (hK : X.K = R.K) (M : MR R ρ H m) (r : VR R ρ H d v) (h : tyName m d = some n) : TyX X.K H v (.type n) := by
  cases d with
  | non => cases h; rw [vr_non r]; exact .base .non
  | bl _ => cases h; rw [vr_bl r]; exact .base (.bl _)
  | int _ => cases h; rw [vr_int r]; exact .base (.int _)
  | str _ => cases h; rw [vr_str r]; exact .base (.str _)
  | tup _ =>
    cases h
    obtain ⟨a, vs, rfl, t, _⟩ := vr_tup r
    rcases t with ⟨_, o, _, h2⟩ | ⟨o, its, k, h1, h2, _⟩
    · exact .fTuple h2
    · exact .kTuple (hK ▸ h1) h2
  | lst _ =>
    cases h
    obtain ⟨a, vs, rfl, _, t, _⟩ := vr_lst r
    exact .base (.lst t)
  | scr _ =>
    cases h
    obtain ⟨a, rfl, t⟩ := vr_scr r
    rcases t with ⟨_, h2 | ⟨o, h2⟩⟩ | ⟨o, its, k, h1, h2, _⟩
    · exact .base (.lst h2)
    · exact .base (.frz h2)
    · exact .kList (hK ▸ h1) h2
  | ref k =>
    simp only [tyName] at h
    split at h
    · rename_i ds hm
      cases h
      obtain ⟨a, vs, _, rfl, t, _⟩ := vr_refL M r hm
      exact .base (.lst t)
    · rename_i ds hm
      cases h
      obtain ⟨a, ws, _, rfl, t, _⟩ := vr_refD M r hm
      exact .base (.dK t)
    · cases h
  | _ => cases h
def Ty.sn (T : Ty) : Str := Str.ofString T.nm
theorem boot_ty (T : Ty) : bootBuiltins T.sn = some (.type T.nm) := by cases T <;> rfl
theorem ty_ne (T : Ty) : T.sn ≠ "__name__" ∧ (T.sn == ("__debug__" : Str)) = false := by cases T <;> decide
theorem pe_ty (A : Ag G S R C W X) {T : Ty} {p : Pos} (hf : T.sn ∈ G.free) (hg : S.sc.names.lookup T.sn = some .globalImplicit) : PE X (.Name T.sn p) (tC (.ty T.nm)) :=
  pe_bltn (A.gl hg) (A.bl _ hf) (boot_ty T) rfl (ty_ne T).1 (ty_ne T).2
theorem pe_is1 (A : Ag G S R C W X) {a : Expr} {x : Ex} {T : Ty} {p p2 pos : Pos} (hf : ("isinstance" : Str) ∈ G.free) (hg : S.sc.names.lookup ("isinstance" : Str) = some .globalImplicit) (hf2 : T.sn ∈ G.free) (hg2 : S.sc.names.lookup T.sn = some .globalImplicit) (hs : isStar a = false) (ha : PE X a (tE R C W x)) :
    PE X (.Call (.Name "isinstance" p) [a, .Name T.sn p2] [] pos) (tE R C W (.isi x [T])) := by
  refine pe_imp (pe_callB call_isi (A.gl hg) (A.bl _ hf) PyProof.Rows.boot_isinstance (pa_cons ha (pa_cons (pe_ty A hf2 hg2) pa_nil (star_cons rfl)) (star_cons hs)) (by decide) (by decide) (star_cons hs) (star_any rfl)) fun σ H Q q => ?_
  obtain ⟨ρ, m, env, S, p⟩ := q
  simp only [ev] at p
  refine ⟨ρ, m, env, S, p.bnd fun u m1 _ p1 ρ1 H1 v e1 M1 r1 n1 => ?_⟩
  split at p1
  · rename_i b hb
    have hb1 : isOne m1 u T = some b := by
      unfold isAny at hb
      split at hb
      · rename_i h; rw [h]; exact hb
      · rename_i h; rw [h]; exact hb
      · cases hb
    obtain ⟨n, h1, h2⟩ := isOne_kit (K := X.K) hb1
    exact ⟨v, .ty T.nm, _, _, b, rfl, .ty _, ty_rel A.hK M1 r1 h1, h2, p1 ρ1 H1 _ e1 M1 (by simp [VR]) (fun z => by cases z)⟩
  · exact p1.elim
/-- a written tuple of classes -/
inductive TyEs (G : Gt) (S : Sc) : List Expr → List Ty → Prop where
  | nil : TyEs G S [] []
  | cons {T : Ty} {p : Pos} {es : List Expr} {Ts : List Ty} (hf : T.sn ∈ G.free) (hg : S.sc.names.lookup T.sn = some .globalImplicit) (r : TyEs G S es Ts) : TyEs G S (.Name T.sn p :: es) (T :: Ts)
theorem pa_tys (A : Ag G S R C W X) {es : List Expr} {Ts : List Ty} (h : TyEs G S es Ts) : PA X es (fun _ H Q => Q (Ts.map fun T => V.ty T.nm) H) := by
  induction h with
  | nil => exact pa_nil
  | cons hf hg r ih => exact pa_imp (pa_cons (pe_ty A hf hg) ih (star_cons rfl)) fun σ H Q q => q
theorem isAny_kit {K : PySem.W.Frag} {m : Mem} {d : D} : ∀ {Ts : List Ty} {b : Bool}, isAny m d Ts = some b → Ts ≠ [] → ∃ n, tyName m d = some n ∧ PySem.W.kitAny K (.type n) (Ts.map fun T => Value.type T.nm) = some b
  | T :: Ts, b, h, _ => by
    unfold isAny at h
    split at h
    · rename_i h1
      cases h
      obtain ⟨n, g1, g2⟩ := isOne_kit (K := K) h1
      refine ⟨n, g1, ?_⟩
      simp only [List.map_cons, PySem.W.kitAny, g2]
    · rename_i h1
      obtain ⟨n, g1, g2⟩ := isOne_kit (K := K) h1
      refine ⟨n, g1, ?_⟩
      simp only [List.map_cons, PySem.W.kitAny, g2]
      cases Ts with
      | nil =>
        cases h
        rfl
      | cons T2 Ts =>
        obtain ⟨n2, k1, k2⟩ := isAny_kit (K := K) h (by simp)
        rw [g1] at k1
        cases k1
        exact k2
    · cases h
  | [], _, _, h => absurd rfl h
theorem cls_all : ∀ Ts : List Ty, Paired ClsV (Ts.map fun T => V.ty T.nm) (Ts.map fun T => Value.type T.nm)
  | [] => .nil
  | _ :: Ts => .cons (.ty _) (cls_all Ts)
theorem pe_isT (A : Ag G S R C W X) {a : Expr} {x : Ex} {es : List Expr} {Ts : List Ty} {k : Nat} {p p2 pos : Pos} (hf : ("isinstance" : Str) ∈ G.free) (hg : S.sc.names.lookup ("isinstance" : Str) = some .globalImplicit) (ht : TyEs G S es Ts) (hne : Ts ≠ []) (hl : Ts.length ≤ 1000) (hs : isStar a = false) (ha : PE X a (tE R C W x)) :
    PE X (.Call (.Name "isinstance" p) [a, .Tuple es k p2] [] pos) (tE R C W (.isi x Ts)) := by
  refine pe_imp (pe_callB call_isiT (A.gl hg) (A.bl _ hf) PyProof.Rows.boot_isinstance (pa_cons ha (pa_cons (pe_tup (pa_tys A ht)) pa_nil (star_cons rfl)) (star_cons hs)) (by decide) (by decide) (star_cons hs) (star_any rfl)) fun σ H Q q => ?_
  obtain ⟨ρ, m, env, S, p⟩ := q
  simp only [ev] at p
  refine ⟨ρ, m, env, S, p.bnd fun u m1 _ p1 ρ1 H1 v e1 M1 r1 n1 => ?_⟩
  split at p1
  · rename_i b hb
    obtain ⟨n, h1, h2⟩ := isAny_kit (K := X.K) hb hne
    refine ⟨by rw [List.length_map, sizeLine_eq]; omega, fun q hq => ?_⟩
    have e2 := M1.ext_new (.tup (Ts.map fun T => V.ty T.nm)) hq
    have cl := cls_all Ts
    exact ⟨v, q, _, _, _, b, rfl, upd_same, cl, ty_rel A.hK (M1.new _ hq) (VR.ext e2 u v r1) h1, h2, p1 ρ1 _ _ (e1.trans e2) (M1.new _ hq) (by simp [VR]) (fun z => by cases z)⟩
  · exact p1.elim
theorem pe_d0 {p : Pos} : PE X (.Dict [] [] p) (tE R C W .emptyDict) := pe_imp pe_dnewK fun σ H Q q => by
  obtain ⟨ρ, m, env, S, p⟩ := q
  have p : VE R ρ H true Q (.ref m.length) (m ++ [.dic []]) := p
  exact fun q hq => (p.qv S.mem Ext.refl).dic S.mem (kvs := []) rfl (by simp [VRs]) hq
/-- a display of one pair -/
theorem pe_d1 {k v : Expr} {x y : Ex} {p : Pos} (hk : PE X k (tE R C W x)) (hv : PE X v (tE R C W y)) : PE X (.Dict [some k] [v] p) (tE R C W (.dict1 x y)) := by
  refine pe_imp (pe_disp (pps_cons hk hv pps_nil) rfl rfl (by simp) (by simp)) fun σ H Q h => ?_
  obtain ⟨ρ, m, env, S, p⟩ := h
  simp only [ev] at p
  intro q hq
  have e0 : Ext ρ H (ρ ++ [q]) (upd H q (.dK [])) := S.mem.ext_add (.dK []) hq
  have M0 : MR R (ρ ++ [q]) (upd H q (.dK [])) (m ++ [.dic []]) := S.mem.add hq ⟨[], upd_same, rfl, by simp [VRs]⟩
  have S0 := S.ext e0 M0
  refine ⟨ρ ++ [q], _, env, S0, (p.ext e0).bnd fun a m1 _ p1 ρ1 H1 v1 e1 M1 r1 _ => ?_⟩
  refine ⟨ρ1, m1, env, S0.ext e1 M1, (p1.ext e1).bnd fun b m2 _ p2 ρ2 H2 v2 e2 M2 r2 _ => ?_⟩
  have r1' := VR.ext e2 _ _ r1
  split at p2
  · rename_i kk h1 h2
    obtain ⟨a', g1, ws, w1, w2, _⟩ := M2.ob m.length _ h2
    have hq2 : ρ2[m.length]? = some q := by
      obtain ⟨l, hl⟩ := (e1.trans e2).pre
      rw [← hl, ← S.mem.len]
      simp
    have : a' = q := by
      rw [hq2] at g1
      exact (Option.some.inj g1).symm
    subst this
    have : ws = [] := by
      have := congrArg List.length w2
      simpa using this.symm
    subst this
    have hk1 := key_rel r1 h1
    have hx : ∀ o w, H2 a' ≠ some (.frz o w) := fun o w z => by
      rw [w1] at z
      cases z
    have e3 := M2.ext_put (.dK [(kk, v2)]) (List.mem_of_getElem? hq2) hx
    refine ⟨w1, [(kk, v2)], by rw [hk1]; rfl, by simp, ?_⟩
    exact p2 ρ2 (upd H2 a' (.dK [(kk, v2)])) (.ref a') (((e0.trans e1).trans e2).trans e3) (M2.put hq2 hx ⟨[(kk, v2)], upd_same, rfl, VRs.ext e3 _ _ (VRs.one r2)⟩) (by simp only [VR]; exact ⟨a', hq2, rfl⟩) (fun _ ds e => by cases e)
  · exact p2.elim
end
end MP

namespace MP
open PySem L2 PySem.Spec PyProof.Rows
/-! ### the translator -/
def cL (f : Expr → Ex) : List Expr → Exs
  | [] => .nil
  | e :: es => .cons (f e) (cL f es)
/-- a list of expressions; a starred one spoils all -/
def cLs (f : Expr → Ex) (es : List Expr) : Exs := if es.any isStar = true then .cons .bad .nil else cL f es
def isNm (x : Str) : Expr → Bool
  | .Name y _ => y == x
  | _ => false
/-- x is a built-in here -/
def isB (G : Gt) (S : Sc) (x : Str) : Bool := decide (x ∈ G.free) && decide (S.sc.names.lookup x = some .globalImplicit)
/-- f(a, ..) of the built-in f: its arguments -/
def asCall (G : Gt) (S : Sc) (f : Str) : Expr → Option (List Expr)
  | .Call (.Name g _) es [] _ => if g = f ∧ isB G S f = true then some es else none
  | _ => none
def tyOf? : Str → Option Ty := fun x => if x = Ty.sn .int then some .int else if x = Ty.sn .bool then some .bool else if x = Ty.sn .str then some .str else if x = Ty.sn .tuple then some .tuple else if x = Ty.sn .list then some .list else none
def tyEs? (G : Gt) (S : Sc) : List Expr → Option (List Ty)
  | [] => some []
  | .Name x _ :: es => (match tyOf? x with
    | some T => if isB G S x = true then (tyEs? G S es).map (T :: ·) else none
    | none => none)
  | _ :: _ => none
def bltOf (f : Str) (n : Nat) : Option B :=
  if f = ("len" : Str) then some .len else if f = ("abs" : Str) then some .abs else if f = ("max" : Str) then some (if n = 2 then .max2 else .max) else if f = ("min" : Str) then some (if n = 2 then .min2 else .min)
  else if f = ("sum" : Str) then some .sum else if f = ("any" : Str) then some .any else if f = ("all" : Str) then some .all else if f = ("sorted" : Str) then some .sorted else if f = ("tuple" : Str) then some .tuple
  else if f = ("list" : Str) then some .list else if f = ("int" : Str) then some .int else if f = ("dict" : Str) then some .dict else none
/-- a built-in called -/
def cBlt (G : Gt) (S : Sc) (f : Expr → Ex) (x : Str) (es : List Expr) : Ex := match es with
  | [a] => (match (if x = ("len" : Str) then asCall G S "set" a else none) with
    | some [b] => if isStar b = true then .bad else .callB .lenset (.cons (f b) .nil)
    | some _ => .bad
    | none => (match (if x = ("list" : Str) ∨ x = ("tuple" : Str) then asCall G S "range" a else none) with
      | some [b] => if isStar b = true then .bad else if x = ("list" : Str) then .rngL (.lit (.int 0)) (f b) else .rngT (.lit (.int 0)) (f b)
      | some [b, c] => if (isStar b || isStar c) = true then .bad else if x = ("list" : Str) then .rngL (f b) (f c) else .rngT (f b) (f c)
      | some _ => .bad
      | none => (match bltOf x 1 with
        | some k => .callB k (cLs f [a])
        | none => .bad)))
  | [a, b] => if x = ("isinstance" : Str) then (if isStar a = true then .bad else match b with
      | .Name y _ => (match tyEs? G S [b] with
        | some [T] => .isi (f a) [T]
        | _ => .bad)
      | .Tuple ts _ _ => (match tyEs? G S ts with
        | some (T :: Ts) => if (T :: Ts).length ≤ 1000 then .isi (f a) (T :: Ts) else .bad
        | _ => .bad)
      | _ => .bad)
    else (match bltOf x 2 with
      | some k => .callB k (cLs f [a, b])
      | none => .bad)
  | _ => .bad
def metOf (x : Str) (n : Nat) : Option M :=
  if x = ("append" : Str) then some .append else if x = ("extend" : Str) then some .extend else if x = ("pop" : Str) then some .pop else if x = ("index" : Str) then some .index else if x = ("count" : Str) then some .count
  else if x = ("get" : Str) then some (if n = 2 then .dget2 else .dget) else if x = ("update" : Str) then some .update else none
def asName : Expr → Option Str
  | .Name x _ => some x
  | _ => none
def cCall (G : Gt) (S : Sc) (f : Expr → Ex) (g : Expr) (es : List Expr) (ks : List Keyword) (p : Pos) : Ex := match ks with
  | [] => (match g with
    | .Name x _ => if (nmOk x && decide (S.sc.names.lookup x = some .globalImplicit) && !es.any isStar) = true then (match G.defs.lookup x with
        | some k => if es.isEmpty = true then .bad else .callF k (cLs f es)
        | none => if decide (x ∈ G.free) = true then cBlt G S f x es else .bad) else .bad
    | .Attribute (.Name o q) m ap => (match metOf m es.length with
      | some k => if ((ap.endLine == p.line) && !es.any isStar && decide (es.length < 30)) = true then .meth k (f (.Name o q)) (cLs f es) else .bad
      | none => .bad)
    | _ => .bad)
  | [⟨some q, e, _⟩] => (match g, es with
    | .Name x _, [] => if (nmOk x && decide (S.sc.names.lookup x = some .globalImplicit)) = true then (match G.defs.lookup x with
        | some k => if G.one k = some q then .callF k (.cons (f e) .nil) else .bad
        | none => .bad) else .bad
    | _, _ => .bad)
  | _ => .bad
def cO (f : Expr → Ex) : Option Expr → Exs
  | none => .nil
  | some e => .cons (f e) .nil
def isRev : Option Expr → Bool
  | some (.UnaryOp .USub (.Constant (.int 1) _ _) _) => true
  | _ => false
def cSub (f : Expr → Ex) (a s : Expr) : Ex := match s with
  | .Slice lo hi none _ => .sl (f a) (cO f lo) (cO f hi)
  | .Slice none none st _ => if isRev st = true then .rev (f a) else .bad
  | .Slice _ _ _ _ => .bad
  | s => .ix (f a) (f s)
mutual
def cTg (S : Sc) : Nat → Expr → Option Tg
  | 0, _ => none
  | n + 1, e => (match e with
    | .Name x _ => if decide (S.st.lookup x = some .local ∨ S.st.lookup x = some .cell) = true then (S.slot x).map Tg.name else none
    | .Tuple es _ _ => if es.any isStar = true then none else (cTgs S n es).map Tg.pair
    | _ => none)
def cTgs (S : Sc) : Nat → List Expr → Option Tgs
  | 0, _ => none
  | n + 1, es => (match es with
    | [] => some .nil
    | e :: es => (match cTg S n e, cTgs S n es with
      | some t, some ts => some (.cons t ts)
      | _, _ => none))
end
def isTupE : Expr → Bool
  | .Tuple _ _ _ => true
  | _ => false
def cSr (G : Gt) (S : Sc) (f : Expr → Ex) (tg it : Expr) : Sr := match asCall G S "range" it with
  | some [a] => if isStar a = true then .of .bad else .rng1 (f a)
  | some [a, b] => if (isStar a || isStar b) = true then .of .bad else .rng2 (f a) (f b)
  | some [a, b, c] => if (isStar a || isStar b || isStar c) = true then .of .bad else .rng3 (f a) (f b) (f c)
  | some _ => .of .bad
  | none => (match asCall G S "enumerate" it with
    | some [a] => if (isStar a || !isTupE tg) = true then .of .bad else .enum (f a)
    | some _ => .of .bad
    | none => (match asCall G S "zip" it with
      | some [a, b] => if (isStar a || isStar b || !isTupE tg) = true then .of .bad else .zip (f a) (f b)
      | some _ => .of .bad
      | none => .of (f it)))
def ownOf (S : Sc) (sc : Scope) : List (Str × Nat) := sc.names.filterMap fun y => if decide (y.2 = .local ∨ y.2 = .cell) = true then (S.slot y.1).map (y.1, ·) else none
def Sc.blk (S : Sc) (sc : Scope) : Sc := ⟨S.N, relS sc S.sc, sc.names⟩
def cIfs (f : Expr → Ex) : List Expr → Option Exs
  | [] => some .nil
  | [c] => some (.cons (f c) .nil)
  | _ => none
def cComp (G : Gt) (S : Sc) (f ft : Sc → Expr → Ex) (elt : Expr) (gs : List Comprehension) (sc : Scope) : Ex := match gs with
  | [⟨tg, it, ifs, 0⟩] => if (blkC S.N S.sc sc (ownOf S sc) && !isSet it) = true then (match cTg (S.blk sc) 8 tg, cIfs (ft (S.blk sc)) ifs with
      | some t, some xs => if (tgS t).all (fun j => decide (j ∈ (ownOf S sc).map (·.2))) = true then .comp t (cSr G S (f S) tg it) xs (f (S.blk sc) elt) ((ownOf S sc).map (·.2)) else .bad
      | _, _ => .bad) else .bad
  | [⟨tg, it, ifs, 0⟩, ⟨tg2, it2, ifs2, 0⟩] => if (blkC S.N S.sc sc (ownOf S sc) && !isSet it && !isSet it2) = true then (match cTg (S.blk sc) 8 tg, cIfs (ft (S.blk sc)) ifs, cTg (S.blk sc) 8 tg2, cIfs (ft (S.blk sc)) ifs2 with
      | some t, some xs, some t2, some xs2 => if ((tgS t).all (fun j => decide (j ∈ (ownOf S sc).map (·.2))) && (tgS t2).all (fun j => decide (j ∈ (ownOf S sc).map (·.2)))) = true then
        .comp2 t (cSr G S (f S) tg it) xs t2 (cSr G (S.blk sc) (f (S.blk sc)) tg2 it2) xs2 (f (S.blk sc) elt) ((ownOf S sc).map (·.2)) (tgS t2) else .bad
      | _, _, _, _ => .bad) else .bad
  | _ => .bad
def cCmp (f : Expr → Ex) (a : Expr) (ops : List CmpOp) (bs : List Expr) : Ex := match ops, bs with
  | [op], [b] => if isSet b = true then .bad else (match coOf op with
    | some o => .cmp o (f a) (f b)
    | none => .bad)
  | [op, op'], [b, c] => if isSet c = true then .bad else (match coOf op, coOf op' with
    | some o, some o' => .cmp2 o o' (f a) (f b) (f c)
    | _, _ => .bad)
  | _, _ => .bad
mutual
/-- an expression -/
def cE (G : Gt) : Nat → Sc → Expr → Ex
  | 0, _, _ => .bad
  | n + 1, S, e => match e with
    | .Name x _ => cName G S x
    | .Constant c _ _ => cConst c
    | .BinOp a op b _ => (match boOf op with
      | some o => .bin o (cE G n S a) (cE G n S b)
      | none => .bad)
    | .UnaryOp .USub a _ => .neg (cE G n S a)
    | .UnaryOp .Not a _ => .notE (cE G n S a)
    | .BoolOp op [a] _ => cE G n S a
    | .BoolOp .And (a :: b :: rest) p => .andE (cE G n S a) (cE G n S (.BoolOp .And (b :: rest) p))
    | .BoolOp .Or (a :: b :: rest) p => .orE (cE G n S a) (cE G n S (.BoolOp .Or (b :: rest) p))
    | .IfExp c a b _ => .ite (cT G n S c) (cE G n S a) (cE G n S b)
    | .Compare a ops bs _ => cCmp (cE G n S) a ops bs
    | .Tuple es _ _ => .tup (cLs (cE G n S) es)
    | .List es _ => .lst (cLs (cE G n S) es)
    | .Dict [] [] _ => .emptyDict
    | .Dict [some k] [v] _ => .dict1 (cE G n S k) (cE G n S v)
    | .Subscript a s _ => cSub (cE G n S) a s
    | .Call g es ks p => cCall G S (cE G n S) g es ks p
    | .ListComp elt gs sc _ => cComp G S (cE G n) (cT G n) elt gs sc
    | _ => .bad
/-- a test -/
def cT (G : Gt) : Nat → Sc → Expr → Ex
  | 0, _, _ => .bad
  | n + 1, S, e => match e with
    | .BoolOp op [a] _ => cT G n S a
    | .BoolOp .And (a :: b :: rest) p => .andE (cT G n S a) (cT G n S (.BoolOp .And (b :: rest) p))
    | .BoolOp .Or (a :: b :: rest) p => .orE (cT G n S a) (cT G n S (.BoolOp .Or (b :: rest) p))
    | .BoolOp _ [] _ => .bad
    | .UnaryOp .Not a _ => .notE (cT G n S a)
    | .IfExp c a b _ => .ite (cT G n S c) (cT G n S a) (cT G n S b)
    | .Compare a ops bs _ => cCmp (cE G n S) a ops bs
    | e => cE G n S e
end
section
variable {G : Gt} {S : Sc} {R : Rc} {C : Nat → List D → Mem → Res D} {W : WX} {X : Cx}
theorem isB_ok {x : Str} (h : isB G S x = true) : x ∈ G.free ∧ S.sc.names.lookup x = some .globalImplicit := by
  unfold isB at h
  simp only [Bool.and_eq_true, decide_eq_true_eq] at h
  exact h
theorem asCall_ok {f : Str} {e : Expr} {es : List Expr} (h : asCall G S f e = some es) : (∃ p q, e = .Call (.Name f p) es [] q) ∧ f ∈ G.free ∧ S.sc.names.lookup f = some .globalImplicit := by
  unfold asCall at h
  split at h
  · split at h
    · rename_i hc
      cases h
      obtain ⟨rfl, hb⟩ := hc
      exact ⟨⟨_, _, rfl⟩, isB_ok hb⟩
    · cases h
  · cases h
theorem tyOf_ok {x : Str} {T : Ty} (h : tyOf? x = some T) : x = T.sn := by
  unfold tyOf? at h
  repeat' (split at h)
  all_goals first | (cases h; assumption) | cases h
theorem tyEs_ok : ∀ {es : List Expr} {Ts : List Ty}, tyEs? G S es = some Ts → TyEs G S es Ts
  | [], Ts, h => by cases h; exact .nil
  | e :: es, Ts, h => by
    unfold tyEs? at h
    split at h
    · rename_i he; cases he
    · rename_i x p es' he
      cases he
      split at h
      · rename_i T hT
        split at h
        · rename_i hb
          rw [Option.map_eq_some_iff] at h
          obtain ⟨Ts', h2, rfl⟩ := h
          have := tyOf_ok hT
          subst this
          obtain ⟨b1, b2⟩ := isB_ok hb
          exact .cons b1 b2 (tyEs_ok h2)
        · cases h
      · cases h
    · cases h
theorem blt_ok {f : Str} {n : Nat} {b : B} (h : bltOf f n = some b) : bootBuiltins f = some b.val ∧ b ≠ .lenset := by
  unfold bltOf at h
  repeat' (split at h)
  all_goals first
    | (cases h; rename_i hf; subst hf; exact ⟨rfl, by simp⟩)
    | (cases h; rename_i hf _; subst hf; exact ⟨rfl, by simp⟩)
    | (cases h; rename_i _ hf; subst hf; exact ⟨rfl, by simp⟩)
    | (cases h; subst_vars; exact ⟨rfl, by simp⟩)
    | cases h
theorem met_ok {x : Str} {n : Nat} {k : M} (h : metOf x n = some k) : k.name = x := by
  unfold metOf at h
  repeat' (split at h)
  all_goals first
    | (cases h; subst_vars; rfl)
    | cases h
theorem pa_bad {es : List Expr} : PA X es (MP.tA R C W (.cons .bad .nil)) := ⟨fun _ _ _ _ _ _ _ h => (tA_bad h).elim⟩
theorem pa_cL {f : Expr → Ex} (hf : ∀ e, PE X e (tE R C W (f e))) : ∀ {es : List Expr}, es.any isStar = false → PA X es (MP.tA R C W (cL f es))
  | [], _ => pa_nil0
  | e :: es, h => by
    rw [List.any_cons, Bool.or_eq_false_iff] at h
    exact pa_cons1 h.1 (hf e) (pa_cL hf h.2)
theorem pa_cLs {f : Expr → Ex} (hf : ∀ e, PE X e (tE R C W (f e))) {es : List Expr} : PA X es (MP.tA R C W (cLs f es)) := by
  unfold cLs
  split
  · exact pa_bad
  · rename_i h
    exact pa_cL hf (by simpa using h)
theorem pe_blt (A : Ag G S R C W X) {f : Expr → Ex} (hf : ∀ e, PE X e (tE R C W (f e))) {x : Str} {es : List Expr} {p pos : Pos} (hx : x ∈ G.free) (hn : nmOk x = true) (hg : S.sc.names.lookup x = some .globalImplicit) (hs : es.any isStar = false) :
    PE X (.Call (.Name x p) es [] pos) (tE R C W (cBlt G S f x es)) := by
  unfold cBlt
  split
  · rename_i a
    split
    · rename_i b hb
      split at hb
      · rename_i hl
        subst hl
        obtain ⟨⟨p2, q, rfl⟩, h1, h2⟩ := asCall_ok hb
        split
        · exact pe_bad
        · rename_i hst
          exact pe_lenset A hx h1 hg h2 (by simpa using hst) (hf b)
      · cases hb
    · exact pe_bad
    · split
      · rename_i b hb
        split at hb
        · rename_i hor
          obtain ⟨⟨p2, q, rfl⟩, h1, h2⟩ := asCall_ok hb
          split
          · exact pe_bad
          · rename_i hst
            have hst : isStar b = false := by simpa using hst
            split
            · rename_i hl
              subst hl
              exact pe_rl1 A h1 h2 hx hg hst (hf b)
            · rename_i hl
              have := hor.resolve_left hl
              subst this
              exact pe_rt1 A h1 h2 hx hg hst (hf b)
        · cases hb
      · rename_i b c hb
        split at hb
        · rename_i hor
          obtain ⟨⟨p2, q, rfl⟩, h1, h2⟩ := asCall_ok hb
          split
          · exact pe_bad
          · rename_i hst
            have hst : isStar b = false ∧ isStar c = false := by simpa using hst
            split
            · rename_i hl
              subst hl
              exact pe_rl2 A h1 h2 hx hg hst.1 hst.2 (hf b) (hf c)
            · rename_i hl
              have := hor.resolve_left hl
              subst this
              exact pe_rt2 A h1 h2 hx hg hst.1 hst.2 (hf b) (hf c)
        · cases hb
      · exact pe_bad
      · split
        · rename_i k hk
          obtain ⟨b1, b2⟩ := blt_ok hk
          exact pe_cb A b2 hx b1 hn hg (pa_cLs hf) hs
        · exact pe_bad
  · rename_i a b
    split
    · rename_i hi
      subst hi
      split
      · exact pe_bad
      · rename_i hst
        have hst : isStar a = false := by simpa using hst
        split
        · split
          · rename_i T hT
            cases tyEs_ok hT with
            | cons hf2 hg2 r => exact pe_is1 A hx hg hf2 hg2 hst (hf a)
          · exact pe_bad
        · split
          · rename_i T Ts hT
            split
            · rename_i hl
              exact pe_isT A hx hg (tyEs_ok hT) (by simp) hl hst (hf a)
            · exact pe_bad
          · exact pe_bad
        · exact pe_bad
    · split
      · rename_i k hk
        obtain ⟨b1, b2⟩ := blt_ok hk
        exact pe_cb A b2 hx b1 hn hg (pa_cLs hf) hs
      · exact pe_bad
  · exact pe_bad
theorem pe_call1 (A : Ag G S R C W X) {f : Expr → Ex} (hf : ∀ e, PE X e (tE R C W (f e))) {g : Expr} {es : List Expr} {ks : List Keyword} {pos : Pos} : PE X (.Call g es ks pos) (tE R C W (cCall G S f g es ks pos)) := by
  unfold cCall
  split
  · split
    · rename_i x p
      split
      · rename_i hc
        simp only [Bool.and_eq_true, decide_eq_true_eq, Bool.not_eq_true'] at hc
        obtain ⟨⟨h1, h2⟩, h3⟩ := hc
        split
        · rename_i k hk
          split
          · exact pe_bad
          · rename_i he
            cases es with
            | nil => exact absurd rfl he
            | cons e es => exact pe_cf A hk h1 h2 (pa_cLs hf) h3
        · split
          · rename_i hx
            exact pe_blt A hf (of_decide_eq_true hx) h1 h2 h3
          · exact pe_bad
      · exact pe_bad
    · rename_i o q m ap
      split
      · rename_i k hk
        split
        · rename_i hc
          simp only [Bool.and_eq_true, decide_eq_true_eq, Bool.not_eq_true'] at hc
          obtain ⟨⟨h1, h2⟩, h3⟩ := hc
          have := met_ok hk
          subst this
          exact pe_mt A base_name h1 h2 h3 (hf _) (pa_cLs hf) fun he => by subst he; rfl
        · exact pe_bad
      · exact pe_bad
    · exact pe_bad
  · rename_i q e kp
    split
    · rename_i x p
      split
      · rename_i hc
        simp only [Bool.and_eq_true, decide_eq_true_eq] at hc
        split
        · rename_i k hk
          split
          · rename_i ho
            exact pe_cf1 A hk ho hc.1 hc.2 (hf e)
          · exact pe_bad
        · exact pe_bad
      · exact pe_bad
    · exact pe_bad
  · exact pe_bad
theorem po_cO {f : Expr → Ex} (hf : ∀ e, PE X e (tE R C W (f e))) : ∀ o : Option Expr, PO X o (tO (R := R) (C := C) (W := W) (cO f o))
  | none => po_nil0
  | some e => po_one (hf e)
theorem pe_sub1 (A : Ag G S R C W X) {f : Expr → Ex} (hf : ∀ e, PE X e (tE R C W (f e))) {a s : Expr} {pos : Pos} : PE X (.Subscript a s pos) (tE R C W (cSub f a s)) := by
  unfold cSub
  split
  · rename_i lo hi p
    exact pe_sl1 A (hf a) (po_cO hf lo) (po_cO hf hi)
  · rename_i st p _
    split
    · rename_i hr
      unfold isRev at hr
      split at hr
      · exact pe_rev1 A (hf a)
      · cases hr
    · exact pe_bad
  · exact pe_bad
  · rename_i h1 h2 h3
    refine pe_ix1 A ?_ (hf a) (hf s)
    cases s <;> first | rfl | (exact absurd rfl (h3 _ _ _ _))
theorem pe_cmp0 (A : Ag G S R C W X) {f : Expr → Ex} (hf : ∀ e, PE X e (tE R C W (f e))) {a : Expr} {ops : List CmpOp} {bs : List Expr} {pos : Pos} : PE X (.Compare a ops bs pos) (tE R C W (cCmp f a ops bs)) := by
  unfold cCmp
  split
  · split
    · exact pe_bad
    · rename_i hs
      split
      · rename_i o ho
        exact pe_cmp1 A ho (by simpa using hs) (hf _) (hf _)
      · exact pe_bad
  · split
    · exact pe_bad
    · rename_i hs
      split
      · rename_i o o' ho ho'
        exact pe_cmp2 A ho ho' (by simpa using hs) (hf _) (hf _) (hf _)
      · exact pe_bad
  · exact pe_bad
theorem pt_bad {e : Expr} : PT X e (tT R C W .bad) := ⟨fun _ _ _ _ _ _ h => by
  obtain ⟨ρ, m, env, _, p⟩ := h
  exact p.elim⟩
theorem pt_cmp0 (A : Ag G S R C W X) {f : Expr → Ex} (hf : ∀ e, PE X e (tE R C W (f e))) {a : Expr} {ops : List CmpOp} {bs : List Expr} {pos : Pos} : PT X (.Compare a ops bs pos) (tT R C W (cCmp f a ops bs)) := by
  unfold cCmp
  split
  · split
    · exact pt_bad
    · rename_i hs
      split
      · rename_i o ho
        exact pt_cmp1 A ho (by simpa using hs) (hf _) (hf _)
      · exact pt_bad
  · split
    · exact pt_bad
    · rename_i hs
      split
      · rename_i o o' ho ho'
        exact pt_cmp2 A ho ho' (by simpa using hs) (hf _) (hf _) (hf _)
      · exact pt_bad
  · exact pt_bad
end
end MP

namespace MP
open PySem L2 PySem.Spec PyProof.Rows
section
variable {G : Gt} {S : Sc} {R : Rc} {C : Nat → List D → Mem → Res D} {W : WX} {X : Cx}
theorem Ag.blk (A : Ag G S R C W X) (sc : Scope) (hk : sc.kind = .function) (s : Shared) (H : Hp) (c : Addr) (cl : List (Str × Addr)) (fp : List Addr) : Ag G (S.blk sc) R C W0 (X.blk s H sc (compEnvC sc cl c X.env) fp) where
  hK := A.hK
  calm := A.calm
  N := A.N
  nd := A.nd
  sc := by
    show relS sc X.env.scope = relS sc S.sc
    rw [A.sc]
  kd := hk
  hff := A.hff
  hu := A.hu
  tk := takes_none5
  bl := A.bl
  co := A.co
  fn := A.fn
  er := A.er
  loc := fun x h => by
    rcases h with h | h
    · have := lookup_relS_keep (sc := S.sc) (names := sc.names) (x := x) (k := .local) (by decide) h
      exact ⟨.inl this, .inr this⟩
    · have := lookup_relS_keep (sc := S.sc) (names := sc.names) (x := x) (k := .cell) (by decide) h
      refine ⟨.inr this, .inl ?_⟩
      have h' : sc.names.lookup x = some .cell := h
      show (sc.names.lookup x == some .cell) = true
      rw [h']
      rfl
theorem cTgs_len : ∀ {n : Nat} {es : List Expr} {ts : Tgs}, cTgs S n es = some ts → es.length = tgsLen ts
  | 0, _, _, h => by cases h
  | n + 1, [], ts, h => by cases h; rfl
  | n + 1, e :: es, ts, h => by
    simp only [cTgs] at h
    split at h
    · rename_i t ts' h1 h2
      cases h
      simp [tgsLen, cTgs_len h2]
    · cases h
theorem pg_cTg (A : Ag G S R C W X) : ∀ n : Nat, (∀ (e : Expr) (t : Tg), cTg S n e = some t → PG X e (tGt R t)) ∧ ∀ (es : List Expr) (ts : Tgs), cTgs S n es = some ts → es.any isStar = false → PGs X es (tGts R ts)
  | 0 => ⟨fun _ _ h => by (cases h), fun _ _ h => by (cases h)⟩
  | n + 1 => by
    obtain ⟨i1, i2⟩ := pg_cTg A n
    refine ⟨fun e t h => ?_, fun es ts h hs => ?_⟩
    · simp only [cTg] at h
      split at h
      · split at h
        · rename_i hl
          rw [Option.map_eq_some_iff] at h
          obtain ⟨i, hi, rfl⟩ := h
          exact pg_nm A hi (of_decide_eq_true hl)
        · cases h
      · rename_i es k p
        split at h
        · cases h
        · rename_i hs
          have hs : es.any isStar = false := by simpa using hs
          rw [Option.map_eq_some_iff] at h
          obtain ⟨ts, h2, rfl⟩ := h
          exact pg_pr A hs (cTgs_len h2) (i2 es ts h2 hs)
      · cases h
    · simp only [cTgs] at h
      split at h
      · cases h
        exact pgs_nil0
      · rename_i e es
        split at h
        · rename_i t ts' h1 h2
          cases h
          rw [List.any_cons, Bool.or_eq_false_iff] at hs
          exact pgs_cons1 hs.1 (i1 e t h1) (i2 es ts' h2 hs.2)
        · cases h
theorem pi_bad {tg e : Expr} : PI X tg e (MP.tS R C W (.of .bad)) := ⟨fun _ _ _ _ _ _ h => by
  obtain ⟨ρ, m, env, _, p⟩ := h
  exact p.elim⟩
theorem pi_cSr (A : Ag G S R C W X) {f : Expr → Ex} (hf : ∀ e, PE X e (tE R C W (f e))) {tg it : Expr} : PI X tg it (MP.tS R C W (cSr G S f tg it)) := by
  unfold cSr
  split
  · rename_i a ha
    obtain ⟨⟨p, q, rfl⟩, h1, h2⟩ := asCall_ok ha
    split
    · exact pi_bad
    · rename_i hs
      exact pi_r1 A h1 h2 (by simpa using hs) (hf a)
  · rename_i a b ha
    obtain ⟨⟨p, q, rfl⟩, h1, h2⟩ := asCall_ok ha
    split
    · exact pi_bad
    · rename_i hs
      have hs : isStar a = false ∧ isStar b = false := by simpa using hs
      exact pi_r2 A h1 h2 hs.1 hs.2 (hf a) (hf b)
  · rename_i a b c ha
    obtain ⟨⟨p, q, rfl⟩, h1, h2⟩ := asCall_ok ha
    split
    · exact pi_bad
    · rename_i hs
      have hs : (isStar a = false ∧ isStar b = false) ∧ isStar c = false := by simpa using hs
      exact pi_r3 A h1 h2 hs.1.1 hs.1.2 hs.2 (hf a) (hf b) (hf c)
  · exact pi_bad
  · split
    · rename_i a ha
      obtain ⟨⟨p, q, rfl⟩, h1, h2⟩ := asCall_ok ha
      split
      · exact pi_bad
      · rename_i hs
        have hs : isStar a = false ∧ isTupE tg = true := by simpa using hs
        cases tg with
        | Tuple elts kk tpos => exact pi_en A h1 h2 hs.1 (hf a)
        | _ => cases hs.2
    · exact pi_bad
    · split
      · rename_i a b ha
        obtain ⟨⟨p, q, rfl⟩, h1, h2⟩ := asCall_ok ha
        split
        · exact pi_bad
        · rename_i hs
          have hs : (isStar a = false ∧ isStar b = false) ∧ isTupE tg = true := by simpa using hs
          cases tg with
          | Tuple elts kk tpos => exact pi_zp A h1 h2 hs.1.1 hs.1.2 (hf a) (hf b)
          | _ => cases hs.2
      · exact pi_bad
      · exact pi_of A (hf it)
theorem fold_ok {it : Expr} {env : PySem.Env} (h : isSet it = false) : ∀ x, foldedSetIterable it env x = pure x := by
  intro x
  cases it <;> first | (cases h; done) | rfl
theorem own_ix : ∀ p ∈ ownOf S sc, S.N[p.2]? = some p.1 := by
  intro p hp
  unfold ownOf at hp
  obtain ⟨y, _, h⟩ := List.mem_filterMap.mp hp
  split at h
  · rw [Option.map_eq_some_iff] at h
    obtain ⟨i, hi, rfl⟩ := h
    exact slot_ok hi
  · cases h
/-- a comprehension's parts -/
theorem comp_parts {n : Nat} (A : Ag G S R C W X) (ih : ∀ (S : Sc) (W : WX) (X : Cx), Ag G S R C W X → (∀ e, PE X e (tE R C W (cE G n S e))) ∧ (∀ e, PT X e (tT R C W (cT G n S e)))) {sc : Scope} {tg : Expr} {t : Tg} {ifs : List Expr} {xs : Exs} (hk : sc.kind = .function) (h1 : cTg (S.blk sc) 8 tg = some t) (h2 : cIfs (cT G n (S.blk sc)) ifs = some xs) (elt : Expr) :
    (∀ (s : Shared) (H : Hp) (c : Addr) (cl : List (Str × Addr)) (fp : List Addr), PG (X.blk s H sc (compEnvC sc cl c X.env) fp) tg (tGt R t)) ∧ (∀ (s : Shared) (H : Hp) (c : Addr) (cl : List (Str × Addr)) (fp : List Addr), PTs (X.blk s H sc (compEnvC sc cl c X.env) fp) ifs (tTs R C W0 xs)) ∧
    ∀ (s : Shared) (H : Hp) (c : Addr) (cl : List (Str × Addr)) (fp : List Addr), PE (X.blk s H sc (compEnvC sc cl c X.env) fp) elt (tE R C W0 (cE G n (S.blk sc) elt)) := by
  refine ⟨fun s H c cl fp => (pg_cTg (A.blk sc hk s H c cl fp) 8).1 tg t h1, fun s H c cl fp => ?_, fun s H c cl fp => (ih _ _ _ (A.blk sc hk s H c cl fp)).1 elt⟩
  have hp := (ih _ _ _ (A.blk sc hk s H c cl fp)).2
  unfold cIfs at h2
  split at h2
  · cases h2
    exact pts_nil0
  · cases h2
    exact pts_one1 (hp _)
  · cases h2
theorem pe_comp1 {n : Nat} (A : Ag G S R C W X) (ih : ∀ (S : Sc) (W : WX) (X : Cx), Ag G S R C W X → (∀ e, PE X e (tE R C W (cE G n S e))) ∧ (∀ e, PT X e (tT R C W (cT G n S e)))) {elt : Expr} {gs : List Comprehension} {sc : Scope} {pos : Pos} :
    PE X (.ListComp elt gs sc pos) (tE R C W (cComp G S (cE G n) (cT G n) elt gs sc)) := by
  unfold cComp
  split
  · rename_i tg it ifs
    split
    · rename_i hb
      rw [Bool.and_eq_true, Bool.not_eq_true'] at hb
      split
      · rename_i t xs ht hx
        split
        · rename_i hall
          obtain ⟨p1, p2, p3⟩ := comp_parts A ih (blkOk_by hb.1).kind ht hx elt
          have bo : BlkOk X.N X.env.scope sc (ownOf S sc) := by
            rw [A.N, A.sc]
            exact blkOk_by hb.1
          refine pe_imp (pe_lc A.calm (by rw [A.N]; exact A.nd) (pi_cSr A (ih S W X A).1) bo p1 p2 p3 (fold_ok hb.2)) fun σ H Q q => comp_ok (fun j hj => ?_) q
          exact of_decide_eq_true (List.all_eq_true.mp hall j hj)
        · exact pe_bad
      · exact pe_bad
    · exact pe_bad
  · rename_i tg it ifs tg2 it2 ifs2
    split
    · rename_i hb
      simp only [Bool.and_eq_true, Bool.not_eq_true'] at hb
      split
      · rename_i t xs t2 xs2 ht hx ht2 hx2
        split
        · rename_i hall
          rw [Bool.and_eq_true] at hall
          have hk := (blkOk_by hb.1.1).kind
          obtain ⟨p1, p2, p3⟩ := comp_parts A ih hk ht hx elt
          obtain ⟨q1, q2, _⟩ := comp_parts A ih hk ht2 hx2 elt
          have bo : BlkOk X.N X.env.scope sc (ownOf S sc) := by
            rw [A.N, A.sc]
            exact blkOk_by hb.1.1
          refine pe_imp (pe_lc2 A.calm (by rw [A.N]; exact A.nd) (pi_cSr A (ih S W X A).1) bo (vs1 := tgS t2) (fun j hj => of_decide_eq_true (List.all_eq_true.mp hall.2 j hj)) p1 p2 (fun s H c cl fp => pi_cSr (A.blk sc hk s H c cl fp) (ih _ _ _ (A.blk sc hk s H c cl fp)).1) q1 q2 p3 (fold_ok hb.1.2) (fun _ => fold_ok hb.2)) fun σ H Q q => comp_ok2 (fun j hj => ?_) (fun j hj => hj) q
          exact of_decide_eq_true (List.all_eq_true.mp hall.1 j hj)
        · exact pe_bad
      · exact pe_bad
    · exact pe_bad
  · exact pe_bad
theorem tT_and {x y : Ex} {σ : L2.St} {H : Hp} {Q : Bool → Hp → Prop} (h : tT R C W (.andE x y) σ H Q) : L2.tAnd (tT R C W x) (tT R C W y) σ H Q := by
  obtain ⟨ρ, m, env, S, p⟩ := h
  simp only [ev] at p
  refine ⟨ρ, m, env, S, p.bnd fun u m1 _ p1 => ?_⟩
  split at p1
  · rename_i hd
    refine ⟨true, hd, fun ρ1 H1 e1 M1 => ?_⟩
    dsimp only
    rw [if_pos rfl]
    refine ⟨ρ1, m1, env, S.ext e1 M1, ?_⟩
    have p2 := p1.ext e1
    cases hr : ev C y env m1 with
    | ok d m2 =>
      rw [hr] at p2
      obtain ⟨b, hb, p2⟩ := p2
      exact ⟨b, hb, fun ρ2 H2 e2 M2 => p2 ρ2 H2 (e1.trans e2) M2⟩
    | exc c fs m2 => rw [hr] at p2; exact p2
    | bad => rw [hr] at p2; exact p2
  · rename_i hd
    refine ⟨false, hd, fun ρ1 H1 e1 M1 => ?_⟩
    dsimp only
    rw [if_neg Bool.false_ne_true]
    obtain ⟨b, hb, p1⟩ := p1
    rw [hd] at hb
    cases hb
    exact p1 ρ1 H1 e1 M1
  · exact p1.elim
theorem tT_or {x y : Ex} {σ : L2.St} {H : Hp} {Q : Bool → Hp → Prop} (h : tT R C W (.orE x y) σ H Q) : L2.tOr (tT R C W x) (tT R C W y) σ H Q := by
  obtain ⟨ρ, m, env, S, p⟩ := h
  simp only [ev] at p
  refine ⟨ρ, m, env, S, p.bnd fun u m1 _ p1 => ?_⟩
  split at p1
  · rename_i hd
    refine ⟨true, hd, fun ρ1 H1 e1 M1 => ?_⟩
    dsimp only
    rw [if_pos rfl]
    obtain ⟨b, hb, p1⟩ := p1
    rw [hd] at hb
    cases hb
    exact p1 ρ1 H1 e1 M1
  · rename_i hd
    refine ⟨false, hd, fun ρ1 H1 e1 M1 => ?_⟩
    dsimp only
    rw [if_neg Bool.false_ne_true]
    refine ⟨ρ1, m1, env, S.ext e1 M1, ?_⟩
    have p2 := p1.ext e1
    cases hr : ev C y env m1 with
    | ok d m2 =>
      rw [hr] at p2
      obtain ⟨b, hb, p2⟩ := p2
      exact ⟨b, hb, fun ρ2 H2 e2 M2 => p2 ρ2 H2 (e1.trans e2) M2⟩
    | exc c fs m2 => rw [hr] at p2; exact p2
    | bad => rw [hr] at p2; exact p2
  · exact p1.elim
theorem tT_not {x : Ex} {σ : L2.St} {H : Hp} {Q : Bool → Hp → Prop} (h : tT R C W (.notE x) σ H Q) : L2.tNot (tT R C W x) σ H Q := by
  obtain ⟨ρ, m, env, S, p⟩ := h
  simp only [ev] at p
  refine ⟨ρ, m, env, S, p.bnd fun u m1 _ p1 => ?_⟩
  split at p1
  · rename_i b hd
    obtain ⟨b', hb, p1⟩ := p1
    cases hb
    exact ⟨b, hd, p1⟩
  · exact p1.elim
/-- a if c else b as a test -/
theorem pt_if {c a b : Expr} {z x y : Ex} {p : Pos} (hc : PT X c (tT R C W z)) (ha : PT X a (tT R C W x)) (hb : PT X b (tT R C W y)) : PT X (.IfExp c a b p) (tT R C W (.ite z x y)) := by
  refine ⟨fun pn s σ H Q I h => ?_⟩
  obtain ⟨ρ, m, env, S, p⟩ := h
  simp only [ev] at p
  have h1 : tT R C W z σ H (fun k H1 => if k = true then tT R C W x σ H1 Q else tT R C W y σ H1 Q) := by
    refine ⟨ρ, m, env, S, p.bnd fun u m1 _ p1 => ?_⟩
    have go : ∀ w : Ex, (Post R W σ ρ H (ev C w env m1) fun d m' => ∃ b, truV m' d = some b ∧ ∀ ρ' H', Ext ρ H ρ' H' → MR R ρ' H' m' → Q b H') → ∀ ρ1 H1, Ext ρ H ρ1 H1 → MR R ρ1 H1 m1 → tT R C W w σ H1 Q := fun w p1 ρ1 H1 e1 M1 => by
      refine ⟨ρ1, m1, env, S.ext e1 M1, ?_⟩
      have p2 := p1.ext e1
      cases hr : ev C w env m1 with
      | ok d m2 =>
        rw [hr] at p2
        obtain ⟨b, hb, p2⟩ := p2
        exact ⟨b, hb, fun ρ2 H2 e2 M2 => p2 ρ2 H2 (e1.trans e2) M2⟩
      | exc c fs m2 => rw [hr] at p2; exact p2
      | bad => rw [hr] at p2; exact p2
    split at p1
    · rename_i hd
      exact ⟨true, hd, fun ρ1 H1 e1 M1 => by dsimp only; rw [if_pos rfl]; exact go x p1 ρ1 H1 e1 M1⟩
    · rename_i hd
      exact ⟨false, hd, fun ρ1 H1 e1 M1 => by dsimp only; rw [if_neg Bool.false_ne_true]; exact go y p1 ρ1 H1 e1 M1⟩
    · exact p1.elim
  show wpAny _ _ (do if ← isTrue c X.env (eval c X.env) then isTrue a X.env (eval a X.env) else isTrue b X.env (eval b X.env)) _ _ _
  refine wpAny_bind (thn (hc.run pn s σ H _ I h1) fun k s1 ⟨H1, I1, q1⟩ => ?_)
  cases k with
  | true =>
    rw [if_pos rfl] at q1 ⊢
    exact ha.run pn s1 σ H1 Q I1 q1
  | false =>
    rw [if_neg Bool.false_ne_true] at q1 ⊢
    exact hb.run pn s1 σ H1 Q I1 q1
theorem pw_imp {e : Expr} {t t' : TT} (h : PW X e t) (k : ∀ σ H Q, t' σ H Q → t σ H Q) : PW X e t' := ⟨fun w pn s σ H Q I q => h.run w pn s σ H Q I (k σ H Q q)⟩
theorem pw_bad {e : Expr} : PW X e (tT R C W .bad) := ⟨fun _ _ _ _ _ _ _ h => by
  obtain ⟨ρ, m, env, _, p⟩ := h
  exact p.elim⟩
theorem cE_ok3 : ∀ (n : Nat) (S : Sc) (W : WX) (X : Cx), Ag G S R C W X → (∀ e, PE X e (tE R C W (cE G n S e))) ∧ (∀ e, PT X e (tT R C W (cT G n S e))) ∧ ∀ op vs p, PW X (.BoolOp op vs p) (tT R C W (cT G n S (.BoolOp op vs p)))
  | 0, S, W, X, _ => ⟨fun e => pe_bad, fun e => pt_bad, fun _ _ _ => pw_bad⟩
  | n + 1, S, W, X, A => by
    have ih := cE_ok3 n
    have ih2 : ∀ (S : Sc) (W : WX) (X : Cx), Ag G S R C W X → (∀ e, PE X e (tE R C W (cE G n S e))) ∧ (∀ e, PT X e (tT R C W (cT G n S e))) := fun S W X A => ⟨(ih S W X A).1, (ih S W X A).2.1⟩
    obtain ⟨hE, hT, hW⟩ := ih S W X A
    have bw : ∀ op vs p, PW X (.BoolOp op vs p) (tT R C W (cT G (n + 1) S (.BoolOp op vs p))) := by
      intro op vs p
      simp only [cT]
      split
      · rename_i op a p he
        cases he
        cases op with
        | And => exact pw_and1 (hT a)
        | Or => exact pw_or1 (hT a)
      · rename_i a b rest p he
        cases he
        exact pw_imp (pw_and (hT a) (hW _ _ _)) fun σ H Q q => tT_and q
      · rename_i a b rest p he
        cases he
        exact pw_imp (pw_or (hT a) (hW _ _ _)) fun σ H Q q => tT_or q
      · exact pw_bad
      · rename_i he; cases he
      · rename_i he; cases he
      · rename_i he; cases he
      · rename_i h1 h2 h3 h4 h5 h6 h7
        match op, vs, h1, h2, h3, h4 with
        | _, [], _, _, _, h4 => exact absurd rfl (h4 _ _)
        | _, [a], h1, _, _, _ => exact absurd rfl (h1 _ _ _)
        | .And, a :: b :: rest, _, h2, _, _ => exact absurd rfl (h2 _ _ _ _)
        | .Or, a :: b :: rest, _, _, h3, _ => exact absurd rfl (h3 _ _ _ _)
    refine ⟨fun e => ?_, fun e => ?_, bw⟩
    · simp only [cE]
      split
      · exact pe_name A
      · exact pe_const
      · split
        · rename_i o ho
          exact pe_bin A ho (hE _) (hE _)
        · exact pe_bad
      · exact pe_neg (hE _)
      · exact pe_not1 A (hE _)
      · exact pe_one (hE _)
      · rename_i a b rest p
        exact pe_and2 A (hE a) (hE _)
      · rename_i a b rest p
        exact pe_or2 A (hE a) (hE _)
      · exact pe_ite (hT _) (hE _) (hE _)
      · exact pe_cmp0 A hE
      · exact pe_tup1 (pa_cLs hE)
      · exact pe_lst1 (pa_cLs hE)
      · exact pe_d0
      · exact pe_d1 (hE _) (hE _)
      · exact pe_sub1 A hE
      · exact pe_call1 A hE
      · exact pe_comp1 A ih2
      · exact pe_bad
    · simp only [cT]
      split
      · rename_i op a p
        have := (bw op [a] p).pt
        simp only [cT] at this
        exact this
      · rename_i a b rest p
        exact (pw_imp (pw_and (hT a) (hW _ _ _)) fun σ H Q q => tT_and q).pt
      · rename_i a b rest p
        exact (pw_imp (pw_or (hT a) (hW _ _ _)) fun σ H Q q => tT_or q).pt
      · exact pt_bad
      · exact pt_imp (pt_not (hT _)) fun σ H Q q => tT_not q
      · exact pt_if (hT _) (hT _) (hT _)
      · exact pt_cmp0 A hE
      · rename_i h1 h2 h3 h4 h5 h6 h7
        refine pt_gen A (hE _) fun whole => ?_
        cases e with
        | BoolOp op vs p =>
          match op, vs with
          | _, [] => exact absurd rfl (h4 _ _)
          | _, [a] => exact absurd rfl (h1 _ _ _)
          | .And, a :: b :: rest => exact absurd rfl (h2 _ _ _ _)
          | .Or, a :: b :: rest => exact absurd rfl (h3 _ _ _ _)
        | UnaryOp op a p =>
          cases op with
          | Not => exact absurd rfl (h5 _ _)
          | _ => rfl
        | IfExp c a b p => exact absurd rfl (h6 _ _ _ _)
        | Compare a ops bs p => exact absurd rfl (h7 _ _ _ _)
        | _ => rfl
theorem cE_ok (A : Ag G S R C W X) (n : Nat) (e : Expr) : PE X e (tE R C W (cE G n S e)) := (cE_ok3 n S W X A).1 e
theorem cT_ok (A : Ag G S R C W X) (n : Nat) (e : Expr) : PT X e (tT R C W (cT G n S e)) := (cE_ok3 n S W X A).2.1 e
end
end MP

namespace MP
open PySem L2 PySem.Spec PyProof.Rows
/-! ### statements -/
section
variable (R : Rc) (W : WX) (ρ : List Addr) (H : Hp) (D' : Ends)
def PostS (r : SRes) : Prop := match r with
  | .ok .nx env' m' => ∀ ρ' H' σ', Ext ρ H ρ' H' → SR R ρ' H' m' env' σ' → D'.nx σ' H'
  | .ok (.rt fr d) env' m' => ∀ ρ' H' v, Ext ρ H ρ' H' → MR R ρ' H' m' → VR R ρ' H' d v → (fr = true → New H d v) → D'.rt v H'
  | .exc c fs env' m' => fs = [] ∧ ∃ a, R.ca c = some a ∧ ∀ ρ' H' σ', Ext ρ H ρ' H' → SR R ρ' H' m' env' σ' → W (.ref a) none σ' H'
  | .bad => False
end
section
variable {G : Gt} {S : Sc} {R : Rc} {C : Nat → List D → Mem → Res D} {W : WX} {X : Cx} {ρ ρ1 : List Addr} {H H1 : Hp} {m m1 : Mem} {env : Env} {σ : L2.St} {D' : Ends}
def tSt (R : Rc) (C : Nat → List D → Mem → Res D) (W : WX) (st : MP.St) : TS := fun D' σ H => ∃ ρ m env, SR R ρ H m env σ ∧ PostS R W ρ H D' (ex C st env m)
def tSts (R : Rc) (C : Nat → List D → Mem → Res D) (W : WX) (sts : MP.Sts) : TS := fun D' σ H => ∃ ρ m env, SR R ρ H m env σ ∧ PostS R W ρ H D' (exs C sts env m)
theorem PostS.ext {r : SRes} (h : PostS R W ρ H D' r) (e : Ext ρ H ρ1 H1) (M1 : MR R ρ1 H1 m1) : PostS R W ρ1 H1 D' r := by
  cases r with
  | ok f env' m' =>
    cases f with
    | nx => exact fun ρ' H' σ' e2 S2 => h ρ' H' σ' (e.trans e2) S2
    | rt fr d => exact fun ρ' H' v e2 M2 r2 n2 => h ρ' H' v (e.trans e2) M2 r2 fun hf => (n2 hf).back M1 e
  | exc c fs env' m' =>
    obtain ⟨h1, a, h2, h3⟩ := h
    exact ⟨h1, a, h2, fun ρ' H' σ' e2 S2 => h3 ρ' H' σ' (e.trans e2) S2⟩
  | bad => exact h
/-- an expression ahead -/
theorem of_post {r : Res D} {k : D → Mem → SRes} (S : SR R ρ H m env σ) (h : PostS R W ρ H D' (SRes.of r env k)) : Post R W σ ρ H r fun d m' => PostS R W ρ H D' (k d m') := by
  cases r with
  | ok d m' => exact h
  | exc c fs m' =>
    obtain ⟨h1, a, h2, h3⟩ := h
    exact ⟨h1, a, h2, fun ρ' H' e2 M2 => h3 ρ' H' σ e2 (S.ext e2 M2)⟩
  | bad => exact h
theorem Post.mp {α : Type} {r : Res α} {K K1 : α → Mem → Prop} (h : Post R W σ ρ H r K) (hk : ∀ a m', r = .ok a m' → K a m' → K1 a m') : Post R W σ ρ H r K1 := by
  cases r with
  | ok a m' => exact hk a m' rfl h
  | exc c fs m' => exact h
  | bad => exact h
/-- the next expression -/
theorem of_next {b : Ex} {k : D → Mem → SRes} {Q : VK} (S : SR R ρ H m env σ) (e1 : Ext ρ H ρ1 H1) (M1 : MR R ρ1 H1 m1) (p : PostS R W ρ H D' (SRes.of (ev C b env m1) env k))
    (h : ∀ y m2, PostS R W ρ H D' (k y m2) → ∀ ρ2 H2 v, Ext ρ1 H1 ρ2 H2 → MR R ρ2 H2 m2 → VR R ρ2 H2 y v → (fre R.ff b = true → New H1 y v) → Q v H2) : tE R C W b σ H1 Q := by
  refine ⟨ρ1, m1, env, S.ext e1 M1, ?_⟩
  have S1 := S.ext e1 M1
  have p1 := p.ext e1 M1
  cases hr : ev C b env m1 with
  | ok d m2 =>
    rw [hr] at p
    exact fun ρ2 H2 v e2 M2 r n => h d m2 p ρ2 H2 v e2 M2 r n
  | exc c fs m2 =>
    rw [hr] at p1
    obtain ⟨h1, a, h2, h3⟩ := p1
    exact ⟨h1, a, h2, fun ρ' H' e2 M2 => h3 ρ' H' σ e2 (S1.ext e2 M2)⟩
  | bad =>
    rw [hr] at p
    exact p
theorem thn_post {r : SRes} {k : Env → Mem → SRes} {N : L2.St → Hp → Prop} {ct bk : L2.St → Hp → Prop} (h : PostS R W ρ H D' (r.thn k)) (hN : ∀ env' m', r = .ok .nx env' m' → PostS R W ρ H D' (k env' m') → ∀ ρ' H' σ', Ext ρ H ρ' H' → SR R ρ' H' m' env' σ' → N σ' H') :
    PostS R W ρ H { D' with nx := N, ct := ct, bk := bk } r := by
  cases r with
  | ok f env' m' =>
    cases f with
    | nx => exact fun ρ' H' σ' e S' => hN env' m' rfl h ρ' H' σ' e S'
    | rt fr d => exact h
  | exc c fs env' m' => exact h
  | bad => exact h
theorem ps_imp {st : Stmt} {t t' : TS} (h : PS X st t) (k : ∀ D σ H, t' D σ H → t D σ H) : PS X st t' := ⟨fun pn s σ H D I q => h.run pn s σ H D I (k D σ H q)⟩
theorem pss_imp {st : List Stmt} {t t' : TS} (h : PSs X st t) (k : ∀ D σ H, t' D σ H → t D σ H) : PSs X st t' := ⟨fun pn s σ H D I q => h.run pn s σ H D I (k D σ H q)⟩
theorem ps_bad {st : Stmt} : PS X st (tSt R C W .bad) := ⟨fun _ _ _ _ _ _ h => by
  obtain ⟨ρ, m, env, _, p⟩ := h
  exact p.elim⟩
theorem pss_nil0 : PSs X [] (tSts R C W .nil) := pss_imp pss_nil fun D σ H q => by
  obtain ⟨ρ, m, env, S, p⟩ := q
  have p : ∀ ρ' H' σ', Ext ρ H ρ' H' → SR R ρ' H' m env σ' → D.nx σ' H' := p
  exact p ρ H σ Ext.refl S
theorem pss_cons1 {st : Stmt} {sts : List Stmt} {x : MP.St} {xs : MP.Sts} (h1 : PS X st (tSt R C W x)) (h2 : PSs X sts (tSts R C W xs)) : PSs X (st :: sts) (tSts R C W (.cons x xs)) := by
  refine pss_imp (pss_cons h1 h2) fun D' σ H q => ?_
  obtain ⟨ρ, m, env, S, p⟩ := q
  simp only [exs] at p
  exact ⟨ρ, m, env, S, thn_post p fun env' m' _ p1 ρ' H' σ' e S' => ⟨ρ', m', env', S', p1.ext e S'.mem⟩⟩
/-! plain statements -/
def isComp : Expr → Bool
  | .ListComp _ _ _ _ => true
  | .SetComp _ _ _ _ => true
  | .DictComp _ _ _ _ _ => true
  | _ => false
theorem sw_no {e : Expr} {t : Option Expr} {l : Nat} {env : PySem.Env} (h : isComp e = false) : swapsWith e t l env = pure false := by
  cases e <;> first | (cases h; done) | rfl
theorem sw_sole {t e : Expr} {l : Nat} {env : PySem.Env} (h : isComp e = false) : swapsWithSole [t] e l env = pure false := by
  unfold swapsWithSole
  exact sw_no h
theorem ps_ex1 {e : Expr} {x : Ex} {p : Pos} (hc : isComp e = false) (h : PE X e (tE R C W x)) : PS X (.Expr e p) (tSt R C W (.expr x)) := by
  refine ps_imp (ps_expr h (sw_no hc)) fun D' σ H q => ?_
  obtain ⟨ρ, m, env, S, p⟩ := q
  simp only [ex] at p
  exact ⟨ρ, m, env, S, (of_post S p).mp fun d m' _ p1 ρ1 H1 v e1 M1 r1 _ => p1 ρ1 H1 σ e1 (S.ext e1 M1)⟩
theorem ps_pass0 {p : Pos} : PS X (.Pass p) (tSt R C W .pass) := ps_imp ps_pass fun D' σ H q => by
  obtain ⟨ρ, m, env, S, p⟩ := q
  have p : ∀ ρ' H' σ', Ext ρ H ρ' H' → SR R ρ' H' m env σ' → D'.nx σ' H' := p
  exact p ρ H σ Ext.refl S
theorem ps_ret1 {e : Expr} {x : Ex} {p : Pos} (h : PE X e (tE R C W x)) : PS X (.Return (some e) p) (tSt R C W (.ret (fre R.ff x) x)) := by
  refine ps_imp (ps_ret h) fun D' σ H q => ?_
  obtain ⟨ρ, m, env, S, p⟩ := q
  simp only [ex] at p
  exact ⟨ρ, m, env, S, (of_post S p).mp fun d m' _ p1 ρ1 H1 v e1 M1 r1 n1 => p1 ρ1 H1 v e1 M1 r1 n1⟩
theorem ps_ret0 {p : Pos} : PS X (.Return none p) (tSt R C W (.ret true (.lit .non))) := ps_imp ps_retN fun D' σ H q => by
  obtain ⟨ρ, m, env, S, p⟩ := q
  have p : ∀ ρ' H' v, Ext ρ H ρ' H' → MR R ρ' H' m → VR R ρ' H' .non v → (true = true → New H .non v) → D'.rt v H' := p
  exact p ρ H .non Ext.refl S.mem (by simp [VR]) fun _ ds e => by cases e
theorem ps_if1 {c : Expr} {a b : List Stmt} {z : Ex} {x y : MP.Sts} {p : Pos} (hc : PT X c (tT R C W z)) (ha : PSs X a (tSts R C W x)) (hb : PSs X b (tSts R C W y)) : PS X (.If c a b p) (tSt R C W (.ifS z x y)) := by
  refine ps_imp (ps_if hc ha hb) fun D' σ H q => ?_
  obtain ⟨ρ, m, env, S, p⟩ := q
  simp only [ex] at p
  refine ⟨ρ, m, env, S, (of_post S p).mp fun d m' _ p1 => ?_⟩
  split at p1
  · rename_i hd
    refine ⟨true, hd, fun ρ1 H1 e1 M1 => ?_⟩
    dsimp only
    rw [if_pos rfl]
    exact ⟨ρ1, m', env, S.ext e1 M1, p1.ext e1 M1⟩
  · rename_i hd
    refine ⟨false, hd, fun ρ1 H1 e1 M1 => ?_⟩
    dsimp only
    rw [if_neg Bool.false_ne_true]
    exact ⟨ρ1, m', env, S.ext e1 M1, p1.ext e1 M1⟩
  · exact p1.elim
theorem ps_asg1 {tg e : Expr} {t : Tg} {x : Ex} {p : Pos} (hc : swapsWithSole [tg] e p.line X.env = pure false) (hw : swappedStores [tg] e X.env = pure none) (hs : isStar tg = false) (h : PE X e (tE R C W x)) (hg : PG X tg (tGt R t)) : PS X (.Assign [tg] e p) (tSt R C W (.asg t x)) := by
  refine ps_imp (ps_asg h hg hc hw (by rw [asg_star hs]; rfl)) fun D' σ H q => ?_
  obtain ⟨ρ, m, env, S, p⟩ := q
  simp only [ex] at p
  refine ⟨ρ, m, env, S, (of_post S p).mp fun d m' _ p1 ρ1 H1 v e1 M1 r1 _ => ?_⟩
  split at p1
  · rename_i env' ha
    exact ⟨ρ1, m', env, d, env', S.ext e1 M1, r1, ha, fun σ' S' _ _ => p1 ρ1 H1 σ' e1 S'⟩
  · exact p1.elim
/-- x += e, ints -/
theorem ps_augA (A : Ag G S R C W X) {x : Str} {i : Nat} {e : Expr} {y : Ex} {p pos' : Pos} (hx : S.slot x = some i) (hl : Loc X.env.scope x) (hf : X.fn x = true ∨ X.env.scope.names.lookup x = some .local) (he : PE X e (tE R C W y)) : PS X (.AugAssign (.Name x pos') .Add e p) (tSt R C W (.aug i .add y)) := by
  refine ps_imp (ps_aug (by rw [A.N]; exact A.nd) (by rw [A.N]; exact slot_ok hx) hl he ip_add hf) fun D' σ H q => ?_
  obtain ⟨ρ, m, env, S, p⟩ := q
  simp only [ex] at p
  split at p
  · rename_i d hd
    have hd' : env[i]? = some (some d) := by
      unfold envGet at hd
      cases h : env[i]? with
      | none => rw [h] at hd; cases hd
      | some o =>
        rw [h] at hd
        cases o with
        | none => cases hd
        | some z =>
          cases hd
          rfl
    obtain ⟨v, h1, h2⟩ := S.ev i d hd'
    refine ⟨v, h1, ρ, m, env, S, (of_post S p).mp fun d2 m' _ p1 ρ1 H1 u e1 M1 r1 _ => ?_⟩
    split at p1
    · rw [vr_int h2, vr_int r1]
      exact ⟨_, _, rfl, rfl, p1 ρ1 H1 _ e1 ((S.ext e1 M1).set (by simp [VR]))⟩
    · first | contradiction | exact p1.elim
    · first | contradiction | exact p1.elim
  · exact p.elim
/-- a, b = x, y, stored from the right -/
theorem ps_par1 (A : Ag G S R C W X) {i j : Nat} {x y : Str} {a b : Expr} {u w : Ex} {px py pt p : Pos} {kt k2 : Nat} {pt2 : Pos} (hi : S.slot x = some i) (hj : S.slot y = some j) (hij : i ≠ j) (hx : S.sc.names.lookup x = some .local) (hy : S.sc.names.lookup y = some .local)
    (hsa : isStar a = false) (hsb : isStar b = false) (ha : PE X a (tE R C W u)) (hb : PE X b (tE R C W w)) (hw : swappedStores [.Tuple [.Name x px, .Name y py] kt pt] (.Tuple [a, b] k2 pt2) X.env = pure (some [x, y])) :
    PS X (.Assign [.Tuple [.Name x px, .Name y py] kt pt] (.Tuple [a, b] k2 pt2) p) (tSt R C W (.par i j u w)) := by
  refine ps_imp (ps_par A.calm (by rw [A.N]; exact A.nd) (i := i) (j := j) (by rw [A.N]; exact slot_ok hi) (by rw [A.N]; exact slot_ok hj) hij (by rw [A.sc]; exact hx) (by rw [A.sc]; exact hy) (pa_cons ha (pa_one hsb hb) (star_cons hsa)) hw rfl) fun D' σ H q => ?_
  obtain ⟨ρ, m, env, S, p⟩ := q
  simp only [ex] at p
  refine ⟨ρ, m, env, S, (of_post S p).mp fun d m1 _ p1 ρ1 H1 v e1 M1 r1 _ => ?_⟩
  refine of_next S e1 M1 p1 fun d2 m2 p2 ρ2 H2 v2 e2 M2 r2 _ => ?_
  split at p2
  · rename_i hl
    exact ⟨v, v2, rfl, p2 ρ2 H2 _ (e1.trans e2) (((S.ext (e1.trans e2) M2).set (VR.ext e2 d v r1)).set r2)⟩
  · exact p2.elim
/-! xs[i] = v, d[k] = v -/
def rSetD (R : Rc) : TSet := fun o i v H Q => ∃ ρ m a k x m4, MR R ρ H m ∧ VR R ρ H a o ∧ VR R ρ H k i ∧ VR R ρ H x v ∧ setV m a k x = some m4 ∧ ∀ ρ' H', Ext ρ H ρ' H' → MR R ρ' H' m4 → Q H'
theorem set_ok (hu : X.A.units + 1 < cLine) : PSet X (rSetD R) := by
  intro pn s σ H o i v ov iv u Q I ro ri rv h
  obtain ⟨ρ, m, a, k, x, m4, M, ra, rk, rx, e, q⟩ := h
  unfold setV at e
  split at e
  · rename_i n
    split at e
    · rename_i ds e2
      split at e
      · rename_i j
        split at e
        · rename_i jj hj
          cases e
          obtain ⟨b, vs, h1, rfl, h2, h3⟩ := vr_refL M ra e2
          have := vr_int rk
          subst this
          refine set_list pn s σ H _ _ v ov iv u Q I ro ri rv ⟨b, vs, j, jj, rfl, rfl, h2, by rw [← h3.length]; exact hj, ?_⟩
          have e5 := M.ext_put (.lst (vs.set jj v)) (List.mem_of_getElem? h1) (fun o w => by rw [h2]; exact fun z => nomatch z)
          exact q ρ _ e5 (M.put h1 (fun o w => by rw [h2]; exact fun z => nomatch z) ⟨_, upd_same, VRs.ext e5 _ _ (h3.set jj rx)⟩)
        · cases e
      · cases e
    · rename_i kvs e2
      split at e
      · rename_i key hk
        split at e
        · rename_i hl
          cases e
          obtain ⟨b, ws, h1, rfl, h2, h3, h4⟩ := vr_refD M ra e2
          have := key_rel rk hk
          subst this
          cases ro
          have hlen : kvs.length = ws.length := by simpa using congrArg List.length h3
          refine d_setItem hu I (DPut.k (v := v) h2 (by omega)) ri rv fun s' I' => ⟨_, I', ?_⟩
          have e5 := M.ext_put (.dK (putK ws key v)) (List.mem_of_getElem? h1) (fun o w => by rw [h2]; exact fun z => nomatch z)
          obtain ⟨g1, g2⟩ := put_rel (k := key) h3 h4 rx
          exact q ρ _ e5 (M.put h1 (fun o w => by rw [h2]; exact fun z => nomatch z) ⟨_, upd_same, g1, VRs.ext e5 _ _ g2⟩)
        · cases e
      · cases e
    · cases e
  · cases e
theorem ps_setIx1 (A : Ag G S R C W X) {a i e : Expr} {x y z : Ex} {p tp : Pos} (hc : isComp e = false) (hsl : isSlice i = false) (h : PE X e (tE R C W z)) (ha : PE X a (tE R C W x)) (hi : PE X i (tE R C W y)) : PS X (.Assign [.Subscript a i tp] e p) (tSt R C W (.setIx x y z)) := by
  have hg : PG X (.Subscript a i tp) (gSub (tE R C W x) (tE R C W y) (rSetD R)) := pg_sub ha hi (set_ok (by have := A.hu; omega)) fun v => by cases i <;> first | (cases hsl; done) | rfl
  refine ps_imp (ps_asg h hg (sw_sole hc) rfl rfl) fun D' σ H q => ?_
  obtain ⟨ρ, m, env, S, p⟩ := q
  simp only [ex] at p
  refine ⟨ρ, m, env, S, (of_post S p).mp fun d m1 _ p1 ρ1 H1 v e1 M1 r1 _ => ?_⟩
  refine of_next S e1 M1 p1 fun d2 m2 p2 ρ2 H2 v2 e2 M2 r2 _ => ?_
  refine of_next S (e1.trans e2) M2 p2 fun d3 m3 p3 ρ3 H3 v3 e3 M3 r3 _ => ?_
  split at p3
  · rename_i m4 hm
    exact ⟨ρ3, m3, d2, d3, d, m4, M3, VR.ext e3 d2 v2 r2, r3, VR.ext (e2.trans e3) d v r1, hm, fun ρ4 H4 e4 M4 => p3 ρ4 H4 σ (((e1.trans e2).trans e3).trans e4) (S.ext (((e1.trans e2).trans e3).trans e4) M4)⟩
  · exact p3.elim
theorem drop_rel : ∀ {kvs : List (Key × D)} {ws : List (Key × V)} (k : Key), kvs.map (·.1) = ws.map (·.1) → VRs R ρ H (kvs.map (·.2)) (ws.map (·.2)) → (dropD kvs k).map (·.1) = (dropK ws k).map (·.1) ∧ VRs R ρ H ((dropD kvs k).map (·.2)) ((dropK ws k).map (·.2))
  | [], [], k, _, _ => ⟨rfl, by simp [dropD, dropK, VRs]⟩
  | p :: kvs, q :: ws, k, h1, h2 => by
    simp only [List.map_cons, List.cons.injEq, VRs] at h1 h2
    obtain ⟨i1, i2⟩ := drop_rel k h1.2 h2.2
    unfold dropD dropK at i1 i2 ⊢
    by_cases e : p.1 = k
    · have e2 : q.1 = k := h1.1 ▸ e
      simp only [List.filter_cons, e, e2, ne_eq, not_true_eq_false, decide_false, Bool.false_eq_true, if_false]
      exact ⟨i1, i2⟩
    · have e2 : ¬ q.1 = k := h1.1 ▸ e
      simp only [List.filter_cons, e, e2, ne_eq, not_false_eq_true, decide_true, if_true, List.map_cons, VRs]
      exact ⟨by rw [h1.1, i1], h2.1, i2⟩
  | [], _ :: _, _, h, _ => by simp at h
  | _ :: _, [], _, h, _ => by simp at h
theorem ps_del1 {a i : Expr} {x y : Ex} {p tp : Pos} (ha : PE X a (tE R C W x)) (hi : PE X i (tE R C W y)) : PS X (.Delete [.Subscript a i tp] p) (tSt R C W (.delIx x y)) := by
  refine ps_imp (ps_ddel ha hi) fun D' σ H q => ?_
  obtain ⟨ρ, m, env, S, p⟩ := q
  simp only [ex] at p
  refine ⟨ρ, m, env, S, (of_post S p).mp fun d m1 _ p1 ρ1 H1 v e1 M1 r1 _ => ?_⟩
  refine of_next S e1 M1 p1 fun d2 m2 p2 ρ2 H2 v2 e2 M2 r2 _ => ?_
  split at p2
  · rename_i m3 hm
    unfold delV at hm
    split at hm
    · rename_i n
      split at hm
      · rename_i kvs k hk1 hk2
        split at hm
        · rename_i hany
          cases hm
          obtain ⟨b, ws, h1, rfl, h2, h3, h4⟩ := vr_refD M2 (VR.ext e2 _ v r1) hk1
          have := key_rel r2 hk2
          subst this
          refine ⟨b, ws, k, rfl, h2, rfl, ?_, ?_⟩
          · rw [← valV_any, ← any_keys h3]
            exact hany
          · have e5 := M2.ext_put (.dK (dropK ws k)) (List.mem_of_getElem? h1) (fun o w => by rw [h2]; exact fun z => nomatch z)
            obtain ⟨g1, g2⟩ := drop_rel k h3 h4
            exact p2 ρ2 _ σ ((e1.trans e2).trans e5) (S.ext ((e1.trans e2).trans e5) (M2.put h1 (fun o w => by rw [h2]; exact fun z => nomatch z) ⟨_, upd_same, g1, VRs.ext e5 _ _ g2⟩))
        · cases hm
      · cases hm
    · cases hm
  · exact p2.elim
/-! loops -/
theorem ps_wh1 {c : Expr} {b : List Stmt} {z : Ex} {x : MP.Sts} {p : Pos} (hp : PassesOwn (model X.prog X.w) X.A X.env X.xe) (hc : PT X c (tT R C W z)) (hb : PSs X b (tSts R C W x)) : PS X (.While c b [] p) (tSt R C W (.whileS z x)) := by
  refine ps_imp (ps_while hp hc hb) fun D' σ H q => ?_
  obtain ⟨ρ, m, env, S, p⟩ := q
  simp only [ex] at p
  let WI : Nat → L2.St → Hp → Prop := fun n σ H' => ∃ ρ' m' env', SR R ρ' H' m' env' σ ∧ PostS R W ρ' H' D' (whileLoop (fun env' m' => ev C z env' m') (fun env' m' => exs C x env' m') n env' m')
  refine ⟨WI, ⟨turnsMax, ρ, m, env, S, p⟩, fun n σ1 H1 hw => ?_⟩
  obtain ⟨ρ1, m1, env1, S1, p1⟩ := hw
  cases n with
  | zero => exact p1.elim
  | succ n =>
    simp only [whileLoop] at p1
    refine ⟨ρ1, m1, env1, S1, (of_post S1 p1).mp fun d m2 _ p2 => ?_⟩
    split at p2
    · rename_i hd
      refine ⟨true, hd, fun ρ2 H2 e2 M2 => ?_⟩
      dsimp only
      rw [if_pos rfl]
      refine ⟨WI n, fun σ' H' hw => ⟨n, Nat.lt_succ_self n, hw⟩, ρ2, m2, env1, S1.ext e2 M2, ?_⟩
      exact thn_post (p2.ext e2 M2) fun env' m' _ p3 ρ' H' σ' e' S' => ⟨ρ', m', env', S', p3.ext e' S'.mem⟩
    · rename_i hd
      refine ⟨false, hd, fun ρ2 H2 e2 M2 => ?_⟩
      dsimp only
      rw [if_neg Bool.false_ne_true]
      exact p2 ρ2 H2 σ1 e2 (S1.ext e2 M2)
    · exact p2.elim
theorem ps_for1 (A : Ag G S R C W X) {tg it : Expr} {t : Tg} {s : Sr} {b : List Stmt} {x : MP.Sts} {p : Pos} (hp : PassesOwn (model X.prog X.w) X.A X.env X.xe) (hset : isSet it = false) (hi : PI X tg it (MP.tS R C W s)) (hg : PG X tg (tGt R t)) (hb : PSs X b (tSts R C W x)) :
    PS X (.For tg it b [] p) (tSt R C W (.forS t s x)) := by
  refine ps_imp (ps_for hp A.calm hi hg hb (fold_ok hset)) fun D' σ H q => ?_
  obtain ⟨ρ, m, env, S, p⟩ := q
  simp only [ex] at p
  refine ⟨ρ, m, env, S, ?_⟩
  cases hr : evSr C s env m with
  | exc c fs m' =>
    rw [hr] at p
    obtain ⟨h1, a, h2, h3⟩ := p
    exact ⟨h1, a, h2, fun ρ' H' e2 M2 => h3 ρ' H' σ e2 (S.ext e2 M2)⟩
  | bad => rw [hr] at p; exact p
  | ok src m1 =>
    rw [hr] at p
    dsimp only at p
    intro ρ1 H1 J e1 M1 so
    let WI : Nat → Nat → L2.St → Hp → Prop := fun i n σ' H' => ∃ ρ' m' env', Ext ρ1 H1 ρ' H' ∧ SR R ρ' H' m' env' σ' ∧ PostS R W ρ' H' D' (forLoop src t (fun env' m' => exs C x env' m') n i env' m')
    refine ⟨WI, ⟨turnsMax, ρ1, m1, env, Ext.refl, S.ext e1 M1, p.ext e1 M1⟩, fun i n σ2 H2 hw => ?_⟩
    obtain ⟨ρ2, m2, env2, e2, S2, p2⟩ := hw
    cases n with
    | zero => exact p2.elim
    | succ n =>
      have so2 := so ρ2 H2 m2 e2 S2.mem i
      simp only [forLoop] at p2
      split at p2
      · exact p2.elim
      · rename_i hat
        rw [hat] at so2
        exact .inl ⟨so2, p2 ρ2 H2 σ2 Ext.refl S2⟩
      · rename_i d hat
        rw [hat] at so2
        obtain ⟨go, so2⟩ := so2
        split at p2
        · exact p2.elim
        · rename_i env3 hasg
          refine .inr ⟨go, WI (i + 1) n, fun σ' H' hw => ⟨n, Nat.lt_succ_self n, hw⟩, fun v H3 hy => ?_⟩
          obtain ⟨e3, M3, rv⟩ := so2 v H3 hy
          refine ⟨ρ2, m2, env2, d, env3, S2.ext e3 M3, rv, hasg, fun σ4 S4 _ _ => ⟨ρ2, m2, env3, S4, ?_⟩⟩
          exact thn_post (p2.ext e3 M3) fun env' m' _ p5 ρ5 H5 σ5 e5 S5 => ⟨ρ5, m', env', (e2.trans e3).trans e5, S5, p5.ext e5 S5.mem⟩
end
end MP

namespace MP
open PySem L2 PySem.Spec PyProof.Rows
section
variable {G : Gt} {S : Sc} {R : Rc} {C : Nat → List D → Mem → Res D} {W : WX} {X : Cx} {ρ ρ1 : List Addr} {H H1 : Hp} {m m1 : Mem} {env : Env} {σ : L2.St} {D' : Ends}
/-! ### raise, try -/
/-- X(), X an own class -/
theorem pmk_own0 {x : Str} {c : Addr} {p pos : Pos} {bmB : List Value} {B newId initId : String} (F : ExcBaseFacts B newId initId bmB) (q : PySem.W.excIn X.K c bmB newId = true) (gC : X.mg x = some (.ref c)) (kC : PySem.W.keepIn X.K (.ref c) = true) (r : Raises X (.ref c)) (hg : Gl X x) (hdb : (x == ("__debug__" : Str)) = false) :
    PMk X (.Call (.Name x p) [] [] pos) (fun _ H Q => Q (.ref c) none H) := by
  intro pn s σ H Q I h
  refine wpAny_Call_Name_kw (ld_glob I hg gC ?_ hdb)
  refine PySem.W.callWith_K0 I.kIn kC ?_
  show wpAny _ _ (call (.ref c) []) _ _ _
  obtain ⟨bm, N, nm, qn, bs, hdct, sn, sub, ab, col, dd, k0, k1, k2, k3, k5, mN, hC, hN, hni, T⟩ := exc_obj I.kIn q
  exact wpAny_call_exc_subT F T hC hN hni (fun h' e hm => mk_of I hm r h (I.hok.gone hm.new)) (Nat.zero_le _)
theorem ps_raise1 (A : Ag G S R C W X) {x : Str} {n : Nat} {p p2 pos : Pos} (hx : G.excs.lookup x = some n) (hn : nmOk x = true) (hg : S.sc.names.lookup x = some .globalImplicit) : PS X (.Raise (some (.Call (.Name x p) [] [] p2)) none pos) (tSt R C W (.raise n .nil)) := by
  obtain ⟨c, h1, h2, h3, h4, h5, h6⟩ := A.er.ex x n hx
  refine ps_imp (ps_raise A.calm A.tk (pmk_own0 PySem.F.excBase_ValueError h3 h2 h4 (raises_own h5 h6) (A.gl hg) (nm_ok hn).1)) fun D' σ H q => ?_
  obtain ⟨ρ, m, env, S, p⟩ := q
  have p : ([] : List D) = [] ∧ ∃ a, R.ca n = some a ∧ ∀ ρ' H' σ', Ext ρ H ρ' H' → SR R ρ' H' m env σ' → W (.ref a) none σ' H' := p
  obtain ⟨_, a, g1, g2⟩ := p
  rw [h1] at g1
  cases g1
  exact g2 ρ H σ Ext.refl S
/-- a clause without a name whose suite stores a constant -/
def hdOf (R : Rc) (C : Nat → List D → Mem → Res D) (c : Addr) (dst : Nat) (e : Ex) : Value × (Addr → Value → Option Addr → TS) := (.ref c, fun _ _ _ => tSt R C W0 (.asg (.name dst) e))
/-- clauses and what stands for them -/
inductive HdR (R : Rc) (C : Nat → List D → Mem → Res D) : Hds → List (Value × (Addr → Value → Option Addr → TS)) → Prop where
  | nil : HdR R C .nil []
  | cons {n : Nat} {c : Addr} {e : Ex} {dst : Nat} {r : Hds} {l : List (Value × (Addr → Value → Option Addr → TS))} (hc : R.ca n = some c) (t : HdR R C r l) : HdR R C (.cons n none e dst r) (hdOf R C c dst e :: l)
theorem exh_post {K : PySem.W.Frag} (hx : ∀ n n' c c', R.ca n = some c → R.ca n' = some c' → PySem.W.exmOne K (.ref c) (.ref c') = some (decide (n = n'))) {n : Nat} : ∀ {hs : Hds} {l : List (Value × (Addr → Value → Option Addr → TS))}, HdR R C hs l → PostS R W ρ H D' (exh C hs n [] env m) →
    ∃ a, R.ca n = some a ∧ ∀ ρ' H' σ', Ext ρ H ρ' H' → SR R ρ' H' m env σ' → wMany K W D' l (.ref a) none σ' H'
  | _, _, .nil, p => p.2
  | _, _, @HdR.cons _ _ n' c e dst r l hc t, p => by
    simp only [exh] at p
    by_cases h : n = n'
    · rw [if_pos h] at p
      subst h
      refine ⟨c, hc, fun ρ' H' σ' e1 S1 => ⟨true, by rw [hx n n c c hc hc]; simp, fun _ a _ => ?_, fun z => by cases z⟩⟩
      refine ⟨ρ', m, env, S1, ?_⟩
      have p1 := p.ext e1 S1.mem
      simp only [ex]
      cases hr : ev C e env m with
      | ok d m2 =>
        rw [hr] at p1
        dsimp only at p1 ⊢
        cases ha : asgT (.name dst) d env with
        | none => rw [ha] at p1; exact p1.elim
        | some env' =>
          rw [ha] at p1
          show PostS R W0 ρ' H' D' (match asgT (.name dst) d env with | some env' => SRes.ok .nx env' m2 | none => .bad)
          rw [ha]
          exact p1
      | exc c fs m2 => rw [hr] at p1; exact p1.elim
      | bad => rw [hr] at p1; exact p1.elim
    · rw [if_neg h] at p
      obtain ⟨a, h1, h2⟩ := exh_post hx t p
      refine ⟨a, h1, fun ρ' H' σ' e1 S1 => ⟨false, ?_, (fun z => by cases z), fun _ => h2 ρ' H' σ' e1 S1⟩⟩
      have := hx n n' a c h1 hc
      rw [decide_eq_false h] at this
      exact this
theorem ps_try1 (A : Ag G S R C W X) {body : List Stmt} {h₀ : ExceptHandler} {hds : List ExceptHandler} {x : MP.Sts} {hs : Hds} {l : List (Value × (Addr → Value → Option Addr → TS))} {p : Pos} (st : X.stack = X.env :: X.outer) (fr : X.env.frame = some X.env.locals) (hh : HdsOk X (h₀ :: hds) l) (hr : HdR R C hs l)
    (hb : ∀ (W : WX) (pn : List (Addr × Obj)) (xe : Value → Shared → Prop), Takes (X.tr pn xe) W → PassesOwn (model X.prog X.w) X.A X.env xe → PSs (X.tr pn xe) body (tSts R C W x)) : PS X (.Try body (h₀ :: hds) [] [] p) (tSt R C W (.tryS x hs)) := by
  refine ps_imp (ps_try_many (tb := fun W => tSts R C W x) st fr A.tk hb hh) fun D' σ H q => ?_
  obtain ⟨ρ, m, env, S, p⟩ := q
  simp only [ex] at p
  refine ⟨ρ, m, env, S, ?_⟩
  cases hr2 : exs C x env m with
  | ok f env' m' => rw [hr2] at p; cases f <;> exact p
  | bad => rw [hr2] at p; exact p
  | exc c fs env' m' =>
    rw [hr2] at p
    dsimp only at p
    split at p
    · rename_i he
      have : fs = [] := List.isEmpty_iff.mp he
      subst this
      exact ⟨rfl, exh_post A.er.exm hr p⟩
    · exact p.elim
end
/-! ### several targets -/
def isLoc (ns : List (Str × NameKind)) (l : Nat) : Expr → Option Str
  | .Name x p => if (ns.lookup x == some .local && p.line == l) = true then some x else none
  | _ => none
def lineOf (ts : List Expr) : Nat := (ts.head?.map (·.pos.line)).getD 0
/-- the stores are in their order -/
def swNo (ns : List (Str × NameKind)) (ts vs : List Expr) : Bool :=
  !(ts.length == 2 || ts.length == 3) || vs.length != ts.length || vs.any isStar || (ts.filterMap (isLoc ns (lineOf ts))).length != ts.length || (ts.filterMap (isLoc ns (lineOf ts))).eraseDups.length != (ts.filterMap (isLoc ns (lineOf ts))).length || vs.all (foldedForSure 8)
theorem blk_fn {env : PySem.Env} (h : env.scope.kind = .function) : env.blockKind = .function := by
  unfold Env.blockKind
  rw [h]
  rfl
theorem star_fun : (fun (e : Expr) => match e with | .Starred .. => true | _ => false) = isStar := by
  funext e
  cases e <;> rfl
theorem sw_none {env : PySem.Env} {ts vs : List Expr} {k k2 : Nat} {p p2 : Pos} (hk : env.scope.kind = .function) (h : swNo env.scope.names ts vs = true) : swappedStores [.Tuple ts k p] (.Tuple vs k2 p2) env = pure none := by
  have hb := blk_fn hk
  unfold swappedStores
  simp only [hb]
  change (if (!(ts.length == 2 || ts.length == 3) || vs.length != ts.length || ScopeKind.function != ScopeKind.function) = true then pure none else if vs.any isStar = true then pure none else
    if ((ts.filterMap (isLoc env.scope.names (lineOf ts))).length != ts.length || (ts.filterMap (isLoc env.scope.names (lineOf ts))).eraseDups.length != (ts.filterMap (isLoc env.scope.names (lineOf ts))).length) = true then pure none else
    if vs.all (foldedForSure 8) = true then pure none else _) = (pure none : Sem (Option (List Str)))
  unfold swNo at h
  generalize ((ts.filterMap (isLoc env.scope.names (lineOf ts))).eraseDups.length != (ts.filterMap (isLoc env.scope.names (lineOf ts))).length) = c5 at h ⊢
  generalize ((ts.filterMap (isLoc env.scope.names (lineOf ts))).length != ts.length) = c4 at h ⊢
  generalize vs.any isStar = c3 at h ⊢
  generalize vs.all (foldedForSure 8) = c6 at h ⊢
  generalize (vs.length != ts.length) = c2 at h ⊢
  generalize (!(ts.length == 2 || ts.length == 3)) = c1 at h ⊢
  cases c1 <;> cases c2 <;> cases c3 <;> cases c4 <;> cases c5 <;> cases c6 <;> first | rfl | (cases h)
theorem sw_two {env : PySem.Env} {x y : Str} {a b : Expr} {k k2 : Nat} {px py p p2 : Pos} (hk : env.scope.kind = .function) (hx : env.scope.names.lookup x = some .local) (hy : env.scope.names.lookup y = some .local) (hl : px.line = py.line) (hxy : x ≠ y) (hsa : isStar a = false) (hsb : isStar b = false)
    (hf : (foldedForSure 8 a && foldedForSure 8 b) = false) (hc : (constantsAlone 8 a && constantsAlone 8 b) = false) : swappedStores [.Tuple [.Name x px, .Name y py] k p] (.Tuple [a, b] k2 p2) env = pure (some [x, y]) := by
  have hb := blk_fn hk
  have kx : env.kindOf x = some .local := hx
  have ky : env.kindOf y = some .local := hy
  unfold swappedStores
  simp only [hb]
  change (if (false || false || false) = true then pure none else if [a, b].any isStar = true then pure none else
    if (([Expr.Name x px, Expr.Name y py].filterMap (isLoc env.scope.names px.line)).length != 2 || ([Expr.Name x px, Expr.Name y py].filterMap (isLoc env.scope.names px.line)).eraseDups.length != ([Expr.Name x px, Expr.Name y py].filterMap (isLoc env.scope.names px.line)).length) = true then pure none else
    if [a, b].all (foldedForSure 8) = true then pure none else if [a, b].all (constantsAlone 8) = true then _ else pure (some ([Expr.Name x px, Expr.Name y py].filterMap (isLoc env.scope.names px.line)))) = (pure (some [x, y]) : Sem (Option (List Str)))
  have e : [Expr.Name x px, Expr.Name y py].filterMap (isLoc env.scope.names px.line) = [x, y] := by
    simp [isLoc, hx, hy, hl]
  have e2 : ([x, y] : List Str).eraseDups.length = 2 := by
    have : (y == x) = false := beq_eq_false_iff_ne.mpr (Ne.symm hxy)
    simp [List.eraseDups_cons, this]
  rw [e, e2]
  have e3 : [a, b].any isStar = false := by simp [hsa, hsb]
  have e4 : [a, b].all (foldedForSure 8) = false := by simpa using hf
  have e5 : [a, b].all (constantsAlone 8) = false := by simpa using hc
  rw [e3, e4, e5]
  rfl
/-! ### the translator of statements -/
/-- the value of a name whose list may change -/
def cM (G : Gt) (f : Expr → Ex) (mu : List Str) (x : Str) (e : Expr) : Ex := if decide (x ∈ mu) = true then (match e with
    | .List es _ => .newL (cLs f es)
    | e => if fre G.ff (f e) = true then .thaw (f e) else f e) else f e
def cLM (G : Gt) (f : Expr → Ex) (mu : List Str) : List Expr → List Expr → Exs
  | .Name x _ :: ts, e :: es => .cons (cM G f mu x e) (cLM G f mu ts es)
  | _ :: ts, e :: es => .cons (f e) (cLM G f mu ts es)
  | [], e :: es => .cons (f e) (cLM G f mu [] es)
  | _, [] => .nil
def cAsg (G : Gt) (S : Sc) (f : Expr → Ex) (mu : List Str) (tg e : Expr) : MP.St := match tg with
  | .Name x px => if decide (S.st.lookup x = some .local ∨ S.st.lookup x = some .cell) = true then (match S.slot x with
      | some i => (match e with
        | .ListComp _ _ _ _ => .asg (.name i) (cM G f mu x e)
        | e => if isComp e = true then .bad else .asg (.name i) (cM G f mu x e))
      | none => .bad) else .bad
  | .Tuple ts _ _ => if ts.any isStar = true then .bad else (match cTg S 8 tg with
    | some t => (match e with
      | .Tuple vs _ _ => if vs.any isStar = true then .bad else if swNo S.sc.names ts vs = true then .asg t (.tup (cLM G f mu ts vs)) else (match ts, vs with
        | [.Name x px, .Name y py], [a, b] => (match S.slot x, S.slot y with
          | some i, some j => if (decide (S.sc.names.lookup x = some .local) && decide (S.sc.names.lookup y = some .local) && (px.line == py.line) && decide (x ≠ y) && decide (i ≠ j) && !(foldedForSure 8 a && foldedForSure 8 b) && !(constantsAlone 8 a && constantsAlone 8 b)) = true then .par i j (cM G f mu x a) (cM G f mu y b) else .bad
          | _, _ => .bad)
        | _, _ => .bad)
      | .List _ _ => .bad
      | e => if isComp e = true then (match e with | .ListComp _ _ _ _ => .asg t (f e) | _ => .bad) else .asg t (f e))
    | none => .bad)
  | .Subscript a i _ => if (isComp e || isSlice i) = true then .bad else .setIx (f a) (f i) (f e)
  | _ => .bad
def cSL (f : Stmt → MP.St) : List Stmt → MP.Sts
  | [] => .nil
  | s :: ss => .cons (f s) (cSL f ss)
/-- a constant, a list of constants -/
def cLit : Expr → Ex
  | .Constant c _ _ => cConst c
  | .List es _ => .lst (cLs (fun e => match e with | .Constant c _ _ => cConst c | _ => .bad) es)
  | _ => .bad
def cH (G : Gt) (S : Sc) : List ExceptHandler → Option Hds
  | [] => some .nil
  | .ExceptHandler (some (.Name x _)) none [.Assign [.Name y _] e _] _ :: hs => (match G.excs.lookup x, S.slot y, cH G S hs with
    | some n, some i, some r => if (decide (S.sc.names.lookup x = some .globalImplicit) && nmOk x && decide (S.st.lookup y = some .local ∨ S.st.lookup y = some .cell) && !isComp e) = true then some (.cons n none (cLit e) i r) else none
    | _, _, _ => none)
  | _ :: _ => none
/-- a statement -/
def cS (G : Gt) (mu : List Str) : Nat → Sc → Stmt → MP.St
  | 0, _, _ => .bad
  | n + 1, S, st => match st with
    | .Expr e _ => if isComp e = true then .bad else .expr (cE G n S e)
    | .Pass _ => .pass
    | .Return (some e) _ => .ret (fre G.ff (cE G n S e)) (cE G n S e)
    | .Return none _ => .ret true (.lit .non)
    | .If c a b _ => .ifS (cT G n S c) (cSL (cS G mu n S) a) (cSL (cS G mu n S) b)
    | .While c b [] _ => .whileS (cT G n S c) (cSL (cS G mu n S) b)
    | .For tg it b [] _ => if isSet it = true then .bad else (match cTg S 8 tg with
      | some t => .forS t (cSr G S (cE G n S) tg it) (cSL (cS G mu n S) b)
      | none => .bad)
    | .Assign [tg] e _ => cAsg G S (cE G n S) mu tg e
    | .AugAssign (.Name x _) .Add e _ => (match S.slot x with
      | some i => if decide (S.st.lookup x = some .local ∨ S.st.lookup x = some .cell) = true then .aug i .add (cE G n S e) else .bad
      | none => .bad)
    | .Delete [.Subscript a i _] _ => .delIx (cE G n S a) (cE G n S i)
    | .Raise (some (.Call (.Name x _) [] [] _)) none _ => (match G.excs.lookup x with
      | some k => if (nmOk x && decide (S.sc.names.lookup x = some .globalImplicit)) = true then .raise k .nil else .bad
      | none => .bad)
    | .Try body (h :: hs) [] [] _ => (match cH G S (h :: hs) with
      | some r => .tryS (cSL (cS G mu n S) body) r
      | none => .bad)
    | _ => .bad
end MP

namespace MP
open PySem L2 PySem.Spec PyProof.Rows
section
variable {G : Gt} {S : Sc} {R : Rc} {C : Nat → List D → Mem → Res D} {W : WX} {X : Cx} {mu : List Str}
theorem pe_cM (A : Ag G S R C W X) {f : Expr → Ex} (hf : ∀ e, PE X e (tE R C W (f e))) (x : Str) (e : Expr) : PE X e (tE R C W (cM G f mu x e)) := by
  unfold cM
  split
  · split
    · exact pe_newL (pa_cLs hf)
    · split
      · rename_i h
        exact pe_thaw (by rw [A.hff]; exact h) (hf _)
      · exact hf _
  · exact hf _
theorem pa_cLM (A : Ag G S R C W X) {f : Expr → Ex} (hf : ∀ e, PE X e (tE R C W (f e))) : ∀ (es ts : List Expr), es.any isStar = false → PA X es (MP.tA R C W (cLM G f mu ts es))
  | [], ts, _ => by
    have : cLM G f mu ts [] = .nil := by
      cases ts with
      | nil => rfl
      | cons t ts => cases t <;> rfl
    rw [this]
    exact pa_nil0
  | e :: es, ts, h => by
    rw [List.any_cons, Bool.or_eq_false_iff] at h
    cases ts with
    | nil => exact pa_cons1 h.1 (hf e) (pa_cLM A hf es [] h.2)
    | cons t ts =>
      cases t with
      | Name x p => exact pa_cons1 h.1 (pe_cM A hf x e) (pa_cLM A hf es ts h.2)
      | _ => exact pa_cons1 h.1 (hf e) (pa_cLM A hf es ts h.2)
theorem stores1 {x : Str} {p : Pos} {e : Expr} {env : PySem.Env} : swappedStores [.Name x p] e env = pure none := by cases e <;> rfl
theorem sw_comp {elt : Expr} {gs : List Comprehension} {sc : Scope} {pos py : Pos} {y : Str} {l : Nat} {env : PySem.Env} (hk : env.scope.kind = .function) :
    swapsWith (.ListComp elt gs sc pos) (some (.Name y py)) l env = pure (env.scope.names.lookup y == some .local && py.line == pos.line && !(sc.names.any fun (n, k) => n == y && (k == .local || k == .cell))) := by
  unfold swapsWith
  simp only [blk_fn hk]
  rfl
theorem bad_thaw {σ : L2.St} {H : Hp} {D' : Ends} {t : Tg} (h : tSt R C W (.asg t (.thaw .bad)) D' σ H ∨ tSt R C W (.asg t .bad) D' σ H) : False := by
  rcases h with h | h
  · obtain ⟨ρ, m, env, _, p⟩ := h
    exact p.elim
  · obtain ⟨ρ, m, env, _, p⟩ := h
    exact p.elim
/-- name = [..] on one line -/
theorem ps_setc (A : Ag G S R C W X) (n : Nat) {x : Str} {i : Nat} {px p pos : Pos} {elt : Expr} {gs : List Comprehension} {sc : Scope} (hst : S.st.lookup x = some .local ∨ S.st.lookup x = some .cell) (hi : S.slot x = some i) :
    PS X (.Assign [.Name x px] (.ListComp elt gs sc pos) p) (tSt R C W (.asg (.name i) (cM G (cE G n S) mu x (.ListComp elt gs sc pos)))) := by
  have hk : X.env.scope.kind = .function := by rw [A.sc]; exact A.kd
  cases hsw : (X.env.scope.names.lookup x == some .local && px.line == pos.line && !(sc.names.any fun (n, k) => n == x && (k == .local || k == .cell))) with
  | false =>
    refine ps_asg1 ?_ stores1 rfl (pe_cM A (cE_ok A n) x _) (pg_nm A hi hst)
    unfold swapsWithSole
    dsimp only
    rw [sw_comp hk, hsw]
  | true =>
    have hyl : X.env.scope.names.lookup x = some .local := by
      simp only [Bool.and_eq_true] at hsw
      exact eq_of_beq hsw.1.1
    have hsw' : swapsWith (.ListComp elt gs sc pos) (some (.Name x px)) p.line X.env = pure true := by rw [sw_comp hk, hsw]
    -- the reading of the comprehension itself
    have go : ∀ (y : Ex) (σ : L2.St) (H : Hp) (D' : Ends), (∀ Q, tE R C W y σ H Q → tE R C W (cE G n S (.ListComp elt gs sc pos)) σ H Q) → tSt R C W (.asg (.name i) y) D' σ H → tE R C W (cE G n S (.ListComp elt gs sc pos)) σ H (fun v H1 => gName i v σ H1 D'.nx) := by
      intro y σ H D' hy q
      obtain ⟨ρ, m, env, S', p⟩ := q
      simp only [ex] at p
      refine hy _ ⟨ρ, m, env, S', (of_post S' p).mp fun d m' _ p1 ρ1 H1 v e1 M1 r1 _ => ?_⟩
      split at p1
      · rename_i env' ha
        simp only [asgT] at ha
        split at ha
        · cases ha
          exact p1 ρ1 H1 _ e1 ((S'.ext e1 M1).set r1)
        · cases ha
      · exact p1.elim
    have main : ∀ y : Ex, (∀ (σ : L2.St) (H : Hp) Q, tE R C W y σ H Q → tE R C W (cE G n S (.ListComp elt gs sc pos)) σ H Q) → PS X (.Assign [.Name x px] (.ListComp elt gs sc pos) p) (tSt R C W (.asg (.name i) y)) := by
      intro y hy
      have never : (∀ (σ : L2.St) (H : Hp) Q, ¬ tE R C W (cE G n S (.ListComp elt gs sc pos)) σ H Q) → PS X (.Assign [.Name x px] (.ListComp elt gs sc pos) p) (tSt R C W (.asg (.name i) y)) := fun hn =>
        ⟨fun _ _ σ H D' _ q => (hn σ H _ (go y σ H D' (hy σ H) q)).elim⟩
      have isBad : cE G n S (.ListComp elt gs sc pos) = .bad → PS X (.Assign [.Name x px] (.ListComp elt gs sc pos) p) (tSt R C W (.asg (.name i) y)) := fun e => never fun σ H Q q => by
        rw [e] at q
        obtain ⟨ρ, m, env, _, p⟩ := q
        exact p.elim
      cases n with
      | zero => exact isBad rfl
      | succ n =>
        have ih2 : ∀ (S : Sc) (W : WX) (X : Cx), Ag G S R C W X → (∀ e, PE X e (tE R C W (cE G n S e))) ∧ (∀ e, PT X e (tT R C W (cT G n S e))) := fun S W X A => ⟨(cE_ok3 n S W X A).1, (cE_ok3 n S W X A).2.1⟩
        have e0 : cE G (n + 1) S (.ListComp elt gs sc pos) = cComp G S (cE G n) (cT G n) elt gs sc := rfl
        rw [e0] at isBad go
        unfold cComp at isBad go
        split at isBad
        · rename_i tg it ifs
          split at isBad
          · rename_i hb
            have hb' := hb
            rw [Bool.and_eq_true, Bool.not_eq_true'] at hb'
            split at isBad
            · rename_i t xs ht hx
              split at isBad
              · rename_i hall
                obtain ⟨p1, p2, p3⟩ := comp_parts A ih2 (blkOk_by hb'.1).kind ht hx elt
                have bo : BlkOk X.N X.env.scope sc (ownOf S sc) := by
                  rw [A.N, A.sc]
                  exact blkOk_by hb'.1
                refine ps_imp (ps_setLc A.calm (by rw [A.N]; exact A.nd) (i := i) (by rw [A.N]; exact slot_ok hi) hyl hsw' (pi_cSr A (ih2 S W X A).1) bo p1 p2 p3 (fold_ok hb'.2)) fun D' σ H q => ?_
                simp only [hb, ht, hx, hall, if_true] at go
                refine comp_ok (fun j hj => ?_) (go y σ H D' (fun Q q => ?_) q)
                · exact of_decide_eq_true (List.all_eq_true.mp hall j hj)
                · have := hy σ H Q q
                  rw [e0] at this
                  unfold cComp at this
                  simp only [hb, ht, hx, hall, if_true] at this
                  exact this
              · exact isBad rfl
            · exact isBad rfl
          · exact isBad rfl
        · rename_i tg it ifs tg2 it2 ifs2
          split at isBad
          · rename_i hb
            have hb' := hb
            simp only [Bool.and_eq_true, Bool.not_eq_true'] at hb'
            split at isBad
            · rename_i t xs t2 xs2 ht hx ht2 hx2
              split at isBad
              · rename_i hall
                have hall' := hall
                rw [Bool.and_eq_true] at hall'
                have hk2 := (blkOk_by hb'.1.1).kind
                obtain ⟨p1, p2, p3⟩ := comp_parts A ih2 hk2 ht hx elt
                obtain ⟨q1, q2, _⟩ := comp_parts A ih2 hk2 ht2 hx2 elt
                have bo : BlkOk X.N X.env.scope sc (ownOf S sc) := by
                  rw [A.N, A.sc]
                  exact blkOk_by hb'.1.1
                refine ps_imp (ps_setLc2 A.calm (by rw [A.N]; exact A.nd) (i := i) (by rw [A.N]; exact slot_ok hi) hyl hsw' (pi_cSr A (ih2 S W X A).1) bo (vs1 := tgS t2) (fun j hj => of_decide_eq_true (List.all_eq_true.mp hall'.2 j hj)) p1 p2 (fun s H c cl fp => pi_cSr (A.blk sc hk2 s H c cl fp) (ih2 _ _ _ (A.blk sc hk2 s H c cl fp)).1) q1 q2 p3 (fold_ok hb'.1.2) (fun _ => fold_ok hb'.2)) fun D' σ H q => ?_
                simp only [hb, ht, hx, ht2, hx2, hall, if_true] at go
                refine comp_ok2 (fun j hj => ?_) (fun j hj => hj) (go y σ H D' (fun Q q => ?_) q)
                · exact of_decide_eq_true (List.all_eq_true.mp hall'.1 j hj)
                · have := hy σ H Q q
                  rw [e0] at this
                  unfold cComp at this
                  simp only [hb, ht, hx, ht2, hx2, hall, if_true] at this
                  exact this
              · exact isBad rfl
            · exact isBad rfl
          · exact isBad rfl
        · exact isBad rfl
    unfold cM
    split
    · dsimp only
      split
      · rename_i h
        exact main _ fun σ H Q q => thaw_tE (by rw [A.hff]; exact h) q
      · exact main _ fun σ H Q q => q
    · exact main _ fun σ H Q q => q
/-! ### a target and a value -/
theorem tup_ne {ts : List Expr} {k : Nat} {p : Pos} {e : Expr} {env : PySem.Env} (h1 : ∀ vs k2 p2, e ≠ .Tuple vs k2 p2) (h2 : ∀ vs p2, e ≠ .List vs p2) : swappedStores [.Tuple ts k p] e env = pure none := by
  cases e with
  | Tuple vs k2 p2 => exact absurd rfl (h1 vs k2 p2)
  | List vs p2 => exact absurd rfl (h2 vs p2)
  | _ => rfl
theorem sw_tup {ts : List Expr} {k : Nat} {p : Pos} {e : Expr} {l : Nat} {env : PySem.Env} : swapsWithSole [.Tuple ts k p] e l env = pure false := by
  unfold swapsWithSole
  dsimp only
  cases e <;> rfl
theorem ps_cAsg (A : Ag G S R C W X) (n : Nat) {tg e : Expr} {p : Pos} : PS X (.Assign [tg] e p) (tSt R C W (cAsg G S (cE G n S) mu tg e)) := by
  have hf := cE_ok A n
  have hkd : X.env.scope.kind = .function := by rw [A.sc]; exact A.kd
  unfold cAsg
  split
  · rename_i x px
    split
    · rename_i hl
      have hl := of_decide_eq_true hl
      split
      · rename_i i hi
        split
        · exact ps_setc A n hl hi
        · split
          · exact ps_bad
          · rename_i hc
            exact ps_asg1 (sw_sole (by simpa using hc)) stores1 rfl (pe_cM A hf x _) (pg_nm A hi hl)
      · exact ps_bad
    · exact ps_bad
  · rename_i ts k tp
    split
    · exact ps_bad
    · rename_i hst
      split
      · rename_i t ht
        have hg := (pg_cTg A 8).1 _ t ht
        split
        · rename_i vs k2 p2
          split
          · exact ps_bad
          · rename_i hvs
            have hvs : vs.any isStar = false := by simpa using hvs
            split
            · rename_i hsw
              exact ps_asg1 sw_tup (sw_none hkd (by rw [A.sc]; exact hsw)) rfl (pe_tup1 (pa_cLM A hf vs ts hvs)) hg
            · split
              · rename_i x px y py a b _ _
                split
                · rename_i i j hi hj
                  split
                  · rename_i hc
                    simp only [Bool.and_eq_true, Bool.not_eq_true', decide_eq_true_eq] at hc
                    obtain ⟨⟨⟨⟨⟨⟨h1, h2⟩, h3⟩, h4⟩, h5⟩, h6⟩, h7⟩ := hc
                    have hs2 : isStar a = false ∧ isStar b = false := by simpa using hvs
                    exact ps_par1 A hi hj h5 h1 h2 hs2.1 hs2.2 (pe_cM A hf x a) (pe_cM A hf y b) (sw_two hkd (by rw [A.sc]; exact h1) (by rw [A.sc]; exact h2) (eq_of_beq h3) h4 hs2.1 hs2.2 h6 h7)
                  · exact ps_bad
                · exact ps_bad
              · exact ps_bad
        · exact ps_bad
        · rename_i h1 h2
          split
          · split
            · exact ps_asg1 sw_tup (tup_ne (by intros; simp) (by intros; simp)) rfl (hf _) hg
            · exact ps_bad
          · exact ps_asg1 sw_tup (tup_ne (fun vs k2 p2 h => h1 vs k2 p2 h) (fun vs p2 h => h2 vs p2 h)) rfl (hf _) hg
      · exact ps_bad
  · rename_i a i tp
    split
    · exact ps_bad
    · rename_i hc
      have hc : isComp e = false ∧ isSlice i = false := by simpa using hc
      exact ps_setIx1 A hc.1 hc.2 (hf _) (hf _) (hf _)
  · exact ps_bad
/-! ### except clauses -/
theorem pe_cLit {e : Expr} : PE X e (tE R C W (cLit e)) := by
  unfold cLit
  split
  · exact pe_const
  · refine pe_lst1 (pa_cLs fun e => ?_)
    split
    · exact pe_const
    · exact pe_bad
  · exact pe_bad
theorem hds_ok (A : Ag G S R C W X) : ∀ {hs : List ExceptHandler} {r : Hds}, cH G S hs = some r → ∃ l, HdsOk X hs l ∧ HdR R C r l
  | [], r, h => by
    cases h
    exact ⟨[], .nil, .nil⟩
  | hd :: hs, r, h => by
    unfold cH at h
    split at h
    · rename_i he; cases he
    · rename_i x np y py e p pos hs' he
      cases he
      split at h
      · rename_i n i r' h1 h2 h3
        split at h
        · rename_i hc
          simp only [Bool.and_eq_true, Bool.not_eq_true', decide_eq_true_eq] at hc
          obtain ⟨⟨⟨g1, g2⟩, g3⟩, g4⟩ := hc
          cases h
          obtain ⟨l, k1, k2⟩ := hds_ok A h3
          obtain ⟨c, c1, c2, _⟩ := A.er.ex x n h1
          refine ⟨hdOf R C c i (cLit e) :: l, .cons ⟨A.gl g1, (nm_ok g2).1, .inl c2⟩ (fun a oe cls d pn _ _ => ?_) k1, .cons c1 k2⟩
          refine pss_one (ps_asg1 (sw_sole g4) stores1 rfl pe_cLit (pg_nm0 (by show X.N.Nodup; rw [A.N]; exact A.nd) (by show X.N[i]? = some y; rw [A.N]; exact slot_ok h2) ?_ ?_))
          · show Loc X.env.scope y
            rw [A.sc]
            exact (A.loc y g3).1
          · show X.fn y = true ∨ X.env.scope.names.lookup y = some .local
            rw [A.sc]
            exact (A.loc y g3).2
        · cases h
      · cases h
    · cases h
theorem Ag.tr (A : Ag G S R C W X) {W' : WX} {pn : List (Addr × Obj)} {xe : Value → Shared → Prop} (tk : Takes (X.tr pn xe) W') : Ag G S R C W' (X.tr pn xe) :=
  ⟨A.hK, A.calm, A.N, A.nd, A.sc, A.kd, A.hff, A.hu, tk, A.bl, A.co, A.fn, A.er, A.loc⟩
theorem pss_cSL {f : Stmt → MP.St} (hf : ∀ st, PS X st (tSt R C W (f st))) : ∀ sts : List Stmt, PSs X sts (tSts R C W (cSL f sts))
  | [] => pss_nil0
  | s :: ss => pss_cons1 (hf s) (pss_cSL hf ss)
theorem cS_ok : ∀ (n : Nat) (S : Sc) (W : WX) (X : Cx), Ag G S R C W X → PassesOwn (model X.prog X.w) X.A X.env X.xe → X.stack = X.env :: X.outer → X.env.frame = some X.env.locals → ∀ st, PS X st (tSt R C W (cS G mu n S st))
  | 0, S, W, X, _, _, _, _ => fun st => ps_bad
  | n + 1, S, W, X, A, hp, hs, hf => fun st => by
    have hE := cE_ok A n
    have hT := cT_ok A n
    have hS := pss_cSL (cS_ok n S W X A hp hs hf)
    simp only [cS]
    split
    · split
      · exact ps_bad
      · rename_i hc
        exact ps_ex1 (by simpa using hc) (hE _)
    · exact ps_pass0
    · rename_i e p
      have := ps_ret1 (p := p) (hE e)
      rw [A.hff] at this
      exact this
    · exact ps_ret0
    · exact ps_if1 (hT _) (hS _) (hS _)
    · exact ps_wh1 hp (hT _) (hS _)
    · split
      · exact ps_bad
      · rename_i hset
        split
        · rename_i t ht
          exact ps_for1 A hp (by simpa using hset) (pi_cSr A hE) ((pg_cTg A 8).1 _ t ht) (hS _)
        · exact ps_bad
    · exact ps_cAsg A n
    · split
      · rename_i i hi
        split
        · rename_i hc
          have hc := of_decide_eq_true hc
          refine ps_augA A hi ?_ ?_ (hE _)
          · rw [A.sc]
            exact (A.loc _ hc).1
          · rw [A.sc]
            exact (A.loc _ hc).2
        · exact ps_bad
      · exact ps_bad
    · exact ps_del1 (hE _) (hE _)
    · split
      · rename_i k hk
        split
        · rename_i hc
          simp only [Bool.and_eq_true, decide_eq_true_eq] at hc
          exact ps_raise1 A hk hc.1 hc.2
        · exact ps_bad
      · exact ps_bad
    · split
      · rename_i r hr
        obtain ⟨l, k1, k2⟩ := hds_ok A hr
        exact ps_try1 A hs hf k1 k2 fun W' pn xe tk hp' => pss_cSL (cS_ok n S W' (X.tr pn xe) (A.tr tk) hp' hs hf) _
      · exact ps_bad
    · exact ps_bad
end
end MP

namespace MP
open PySem L2 PySem.Spec PyProof.Rows
/-! ### defs -/
theorem clean_non {k : Nat} {m : Mem} : (clean k .non m).1 = .non := by
  unfold clean
  split
  · dsimp only
    split <;> rfl
  · rfl
/-- a def: the text, the slots' names, the parameters, the names whose lists may change -/
structure DefC where
  d : He.DefD
  N : List Str
  ps : List Str
  mu : List Str
  ff : Bool
def DefC.sc (x : DefC) : Sc := ⟨x.N, x.d.scope, x.d.scope.names⟩
def BindOk (x : DefC) : Prop := (∀ (kV doc pm : Value) (an : Option Addr) (cdv ct : Value) (us : List Value), us.length = x.ps.length → bindArgs (PySem.W.fnOf x.d.name x.d.qual x.d.params x.d.body x.d.scope .none kV doc pm an cdv ct) ⟨us, []⟩ = pure (x.ps.zip us)) ∧
  (∀ q, x.ps = [q] → ∀ (kV doc pm : Value) (an : Option Addr) (cdv ct : Value) (u : Value), bindArgs (PySem.W.fnOf x.d.name x.d.qual x.d.params x.d.body x.d.scope .none kV doc pm an cdv ct) ⟨[], [(q, u)]⟩ = pure [(q, u)])
/-- the same of every heap: by the one parameter's name -/
theorem FunD_binds1 {K : PySem.W.Frag} {x qual q : Str} {params : Arguments} {body : List Stmt} {scope : Scope} {kws : List (Str × V)} {f : Addr} {fd : FuncData} (F : FunD K x qual params body scope [] kws f fd)
    (h : ∀ (kV doc pm : Value) (an : Option Addr) (cdv ct : Value) (u : Value), bindArgs (PySem.W.fnOf x qual params body scope .none kV doc pm an cdv ct) ⟨[], [(q, u)]⟩ = pure [(q, u)]) (s : Shared) (u : Value) : BindsTo s fd ⟨[], [(q, u)]⟩ [(q, u)] := by
  obtain ⟨oc, od, dV, kV, doc, pm, an, cdv, ct, osl, rfl, lk, hcd, hD, hK⟩ := F.ex
  rcases hD with ⟨_, rfl⟩ | ⟨e, _⟩
  · exact .of_eq (h kV doc pm an cdv ct u)
  · exact absurd rfl e
def DefC.ok (x : DefC) : Bool := decide (x.d.scope.kind = .function) && !x.d.scope.isCoroutine && !x.d.scope.isGenerator && decide x.N.Nodup && decide (x.N.take x.ps.length = x.ps) &&
  (x.ps.all fun p => decide (x.d.scope.names.lookup p = some .local ∨ x.d.scope.names.lookup p = some .cell)) && (x.d.scope.names.all fun y => decide (y.2 ≠ .free)) && decide (x.ps.length ≤ x.N.length)
theorem DefC.scope {x : DefC} (h : x.ok = true) : FnScope x.N x.ps x.d.scope ∧ x.ps.length ≤ x.N.length := by
  unfold DefC.ok at h
  simp only [Bool.and_eq_true, decide_eq_true_eq, Bool.not_eq_true', List.all_eq_true] at h
  obtain ⟨⟨⟨⟨⟨⟨⟨h1, h2⟩, h3⟩, h4⟩, h5⟩, h6⟩, h7⟩, h8⟩ := h
  exact ⟨⟨h1, h2, h3, h4, h5, h6, h7⟩, h8⟩
/-- a program: its defs, classes of errors, constants, the built-ins it takes -/
structure PgD where
  pr : List DefC
  excs : List Str
  ci : List (Str × Int)
  cs : List (Str × Str)
  free : List Str
namespace PgD
variable (p : PgD)
def fa : List He.Fa := p.pr.map (fun d => He.Fa.glo d.d.name) ++ (p.excs.map He.Fa.glo ++ (p.excs.map He.Fa.exc ++ (p.excs.flatMap (fun x => p.excs.map fun y => He.Fa.exm x y (x == y)) ++ (p.ci.map (fun q => He.Fa.int q.1 q.2) ++ (p.cs.map (fun q => He.Fa.str q.1 q.2) ++ p.free.map He.Fa.free)))))
def fn : List He.DefD := p.pr.map (·.d)
def num {α : Type} (f : α → Str) (k : Nat) : List α → List (Str × Nat)
  | [] => []
  | a :: l => (f a, k) :: num f (k + 1) l
def G : Gt := ⟨num (fun d : DefC => d.d.name) 0 p.pr, fun n => match p.pr[n]? with | some d => d.ff | none => false, p.ci.map (fun q => (q.1, D.int q.2)) ++ p.cs.map (fun q => (q.1, D.str q.2)), num id 0 p.excs, p.free, fun n => match p.pr[n]? with | some d => (match d.ps with | [q] => some q | _ => none) | none => none⟩
def body (d : DefC) : MP.Sts := cSL (cS p.G d.mu 60 d.sc) d.d.body
def P (n : Nat) : Option DefI := match p.pr[n]? with
  | some d => some ⟨d.ps.length, d.N.length, d.ff, p.body d⟩
  | none => none
def R (K : PySem.W.Frag) : Rc := ⟨K, fun n => (p.pr[n]?).map fun d => He.ga K d.d.name, fun n => (p.excs[n]?).map fun x => He.ga K x, fun _ => [], p.G.ff⟩
end PgD
theorem num_ok {α : Type} {f : α → Str} {x : Str} {n : Nat} : ∀ {l : List α} {k : Nat}, (PgD.num f k l).lookup x = some n → ∃ a, k ≤ n ∧ l[n - k]? = some a ∧ f a = x
  | [], _, h => by cases h
  | a :: l, k, h => by
    unfold PgD.num at h
    rw [List.lookup_cons] at h
    split at h
    · rename_i hx
      cases h
      exact ⟨a, Nat.le_refl _, by simp, (eq_of_beq hx).symm⟩
    · obtain ⟨b, h1, h2, h3⟩ := num_ok h
      refine ⟨b, by omega, ?_, h3⟩
      have : n - k = (n - (k + 1)) + 1 := by omega
      rw [this]
      exact h2
theorem look_map {α : Type} {f : α → D} {x : Str} {d : D} : ∀ {l : List (Str × α)}, (l.map fun q => (q.1, f q.2)).lookup x = some d → ∃ a, (x, a) ∈ l ∧ f a = d
  | [], h => by cases h
  | q :: l, h => by
    rw [List.map_cons, List.lookup_cons] at h
    split at h
    · rename_i hx
      cases h
      refine ⟨q.2, ?_, rfl⟩
      have : x = q.1 := eq_of_beq hx
      rw [this]
      exact List.mem_cons_self
    · obtain ⟨a, h1, h2⟩ := look_map h
      exact ⟨a, List.mem_cons_of_mem _ h1, h2⟩
theorem look_app {β : Type} {x : Str} {d : β} : ∀ {l l' : List (Str × β)}, (l ++ l').lookup x = some d → l.lookup x = some d ∨ l'.lookup x = some d
  | [], _, h => .inr h
  | q :: l, l', h => by
    rw [List.cons_append, List.lookup_cons] at h
    rw [List.lookup_cons]
    split at h
    · exact .inl h
    · exact look_app h
theorem fact_mem {fa : List He.Fa} {fn : List He.DefD} {K : PySem.W.Frag} (c : He.SaysD fa fn K) {f : He.Fa} (h : f ∈ fa) : f.ok K = true := by
  obtain ⟨i, hi⟩ := List.mem_iff_getElem?.mp h
  exact c.fact i hi
section
variable {p : PgD} {K : PySem.W.Frag} {h : Heap} {mg : Str → Option Value} {P : Program} {w : World} {base : Heap}
/-- all that a def needs -/
theorem prog_ok (hok : (p.pr.all DefC.ok) = true) (hb : ∀ d ∈ p.pr, BindOk d) (hat : ∀ d ∈ p.pr, d.d.at_ = (d.d.name, none) ∧ (∀ K, d.d.dvs K = []) ∧ (∀ K, d.d.kws K = [])) (hnd : p.excs.Nodup) (KX : K.In h) (GX : h.Ns mainGlobals mg) (c : He.SaysD p.fa p.fn K) :
    ∀ (L n : Nat) (d : DefC), p.pr[n]? = some d → ∃ fd, (∃ (oc : Value) (od : Option Addr) (osl : Array (Option Value)), K.lookup (He.ga K d.d.name) = some ⟨oc, od, .func fd, osl⟩) ∧ mg d.d.name = some (.ref (He.ga K d.d.name)) ∧ PySem.W.keepIn K (.ref (He.ga K d.d.name)) = true ∧ Binds K fd d.ps [] ∧ (∀ (s : Shared) (us : List Value), us.length = d.ps.length → BindsTo s fd ⟨us, []⟩ (d.ps.zip us)) ∧ (∀ q, d.ps = [q] → ∀ (s : Shared) (u : Value), BindsTo s fd ⟨[], [(q, u)]⟩ [(q, u)]) ∧ FnOk P w K mg base (L2.CX P w) L (He.ga K d.d.name) fd d.ps (CallOk (p.R K) (run p.P L) n)
  | 0, n, d, hd => by
    obtain ⟨fd, F⟩ := c.def_ n (d := d.d) (by unfold PgD.fn; rw [List.getElem?_map, hd]; rfl)
    have hm := List.mem_of_getElem? hd
    obtain ⟨a1, a2, a3⟩ := hat d hm
    rw [a2 K, a3 K, a1] at F
    have hg : mg d.d.name = some (.ref (He.ga K d.d.name)) := He.glo_ok KX GX (fact_mem c (by unfold PgD.fa; exact List.mem_append_left _ (List.mem_map.mpr ⟨d, hm, rfl⟩)))
    have lk : ∃ (oc : Value) (od : Option Addr) (osl : Array (Option Value)), K.lookup (He.ga K d.d.name) = some ⟨oc, od, .func fd, osl⟩ := by
      obtain ⟨oc, od, dV, kV, doc, pm, an, cdv, ct, osl, _, lk, _⟩ := F.ex
      exact ⟨oc, od, osl, lk⟩
    refine ⟨fd, lk, hg, F.kp, F.bindsN (hb d hm).1, fun s us hl => FunD.bindsA (ps := d.ps) F (hb d hm).1 s us hl, fun q hq => FunD_binds1 F ((hb d hm).2 q hq), ⟨fun vs H Q E q => ?_, fun A outer s H args us vs Q E hr he hbt hv q => ?_⟩⟩
    · obtain ⟨ρ, m, ds, _, _, q⟩ := q
      exact q.elim
    · obtain ⟨ρ, m, ds, _, _, q⟩ := q
      exact q.elim
  | L + 1, n, d, hd => by
    obtain ⟨fd, F⟩ := c.def_ n (d := d.d) (by unfold PgD.fn; rw [List.getElem?_map, hd]; rfl)
    have hm := List.mem_of_getElem? hd
    obtain ⟨a1, a2, a3⟩ := hat d hm
    rw [a2 K, a3 K, a1] at F
    have hg : mg d.d.name = some (.ref (He.ga K d.d.name)) := He.glo_ok KX GX (fact_mem c (by unfold PgD.fa; exact List.mem_append_left _ (List.mem_map.mpr ⟨d, hm, rfl⟩)))
    have hdo : d.ok = true := List.all_eq_true.mp hok d hm
    obtain ⟨FS, hle⟩ := d.scope hdo
    have hP : p.P n = some ⟨d.ps.length, d.N.length, d.ff, p.body d⟩ := by unfold PgD.P; rw [hd]
    have lk : ∃ (oc : Value) (od : Option Addr) (osl : Array (Option Value)), K.lookup (He.ga K d.d.name) = some ⟨oc, od, .func fd, osl⟩ := by
      obtain ⟨oc, od, dV, kV, doc, pm, an, cdv, ct, osl, _, lk, _⟩ := F.ex
      exact ⟨oc, od, osl, lk⟩
    refine ⟨fd, lk, hg, F.kp, F.bindsN (hb d hm).1, fun s us hl => FunD.bindsA (ps := d.ps) F (hb d hm).1 s us hl, fun q hq => FunD_binds1 F ((hb d hm).2 q hq), FunD.ok F FS (fun vs H Q E q => ?_) fun cdv A outer s H vs Q E hr q => ?_⟩
    · obtain ⟨ρ, m, ds, M, rs, q⟩ := q
      simp only [run, callD, hP] at q
      by_cases hl : ds.length = d.ps.length
      · rw [← rs.length, hl]
      · rw [if_neg hl] at q
        exact q.elim
    · obtain ⟨ρ, m, ds, M, rs, q⟩ := q
      simp only [run, callD, hP] at q
      have hlen : ds.length = d.ps.length := by
        by_cases hl : ds.length = d.ps.length
        · exact hl
        · rw [if_neg hl] at q
          exact q.elim
      rw [if_pos hlen] at q
      have ag : Ag p.G d.sc (p.R K) (run p.P L) (fun cls dd _ H => E cls dd H) (cxOf (L2.CX P w) P w K mg base d.N d.d.qual d.d.scope (He.ga K d.d.name) cdv A outer s H E) := {
        hK := rfl
        calm := rfl
        N := rfl
        nd := FS.nd
        sc := rfl
        kd := FS.kind
        hff := rfl
        hu := by
          have := hr.un
          show (A.deeper _).units + 70 < cLine
          omega
        tk := takes_of rfl rfl rfl rfl
        bl := fun x hx => He.free_ok KX GX (fact_mem c (by
          unfold PgD.fa
          refine List.mem_append_right _ (List.mem_append_right _ (List.mem_append_right _ (List.mem_append_right _ (List.mem_append_right _ (List.mem_append_right _ (List.mem_map.mpr ⟨x, hx, rfl⟩))))))))
        co := fun x dv hx => by
          rcases look_app hx with hx | hx
          · obtain ⟨i, h1, rfl⟩ := look_map (f := D.int) hx
            obtain ⟨t, ht⟩ := He.int_ok KX GX (fact_mem c (f := .int x i) (by
              unfold PgD.fa
              refine List.mem_append_right _ (List.mem_append_right _ (List.mem_append_right _ (List.mem_append_right _ (List.mem_append_left _ (List.mem_map.mpr ⟨(x, i), h1, rfl⟩)))))))
            exact ⟨.int i t, .int i, ht, ⟨t, rfl⟩, fun _ _ => by simp [VR]⟩
          · obtain ⟨i, h1, rfl⟩ := look_map (f := D.str) hx
            obtain ⟨t, ht⟩ := He.str_ok KX GX (fact_mem c (f := .str x i) (by
              unfold PgD.fa
              refine List.mem_append_right _ (List.mem_append_right _ (List.mem_append_right _ (List.mem_append_right _ (List.mem_append_right _ (List.mem_append_left _ (List.mem_map.mpr ⟨(x, i), h1, rfl⟩))))))))
            exact ⟨.str i t, .str i, ht, ⟨t, rfl⟩, fun _ _ => by simp [VR]⟩
        fn := fun x k hx => by
          obtain ⟨d2, _, h2, h3⟩ := num_ok hx
          rw [Nat.sub_zero] at h2
          obtain ⟨fd2, _, g1, g2, g3, _, g5, g4⟩ := prog_ok hok hb hat hnd KX GX c L k d2 h2
          subst h3
          refine ⟨He.ga K d2.d.name, fd2, d2.ps, L, ?_, g1, g2, g3, hr, g4, fun q hq => ?_⟩
          · show (p.pr[k]?).map _ = _
            rw [h2]
            rfl
          · have hq : (match p.pr[k]? with | some d => (match d.ps with | [q] => some q | _ => none) | none => none) = some q := hq
            rw [h2] at hq
            have hq : (match d2.ps with | [q] => some q | _ => none) = some q := hq
            have hps : d2.ps = [q] := by
              cases hp : d2.ps with
              | nil => rw [hp] at hq; cases hq
              | cons a as => cases as with
                | nil => rw [hp] at hq; cases hq; rfl
                | cons _ _ => rw [hp] at hq; cases hq
            exact ⟨hps, g5 q hps⟩
        er := {
          ex := fun x k hx => by
            obtain ⟨y, _, h2, h3⟩ := num_ok hx
            rw [Nat.sub_zero] at h2
            have h3 : y = x := h3
            subst h3
            have hy := List.mem_of_getElem? h2
            have f1 := He.glo_ok KX GX (fact_mem c (f := .glo y) (by unfold PgD.fa; exact List.mem_append_right _ (List.mem_append_left _ (List.mem_map.mpr ⟨y, hy, rfl⟩))))
            have f2 := He.exc_ok (fact_mem c (f := .exc y) (by unfold PgD.fa; exact List.mem_append_right _ (List.mem_append_right _ (List.mem_append_left _ (List.mem_map.mpr ⟨y, hy, rfl⟩)))))
            refine ⟨He.ga K y, ?_, f1, f2.1, f2.2.1, f2.2.2.1, f2.2.2.2⟩
            show (p.excs[k]?).map _ = _
            rw [h2]
            rfl
          exm := fun k k' a a' h1 h2 => by
            obtain ⟨y, e1, rfl⟩ := Option.map_eq_some_iff.mp (show (p.excs[k]?).map (fun x => He.ga K x) = some a from h1)
            obtain ⟨y', e2, rfl⟩ := Option.map_eq_some_iff.mp (show (p.excs[k']?).map (fun x => He.ga K x) = some a' from h2)
            have f3 := He.exm_ok (fact_mem c (f := .exm y y' (y == y')) (by
              unfold PgD.fa
              exact List.mem_append_right _ (List.mem_append_right _ (List.mem_append_right _ (List.mem_append_left _ (List.mem_flatMap.mpr ⟨y, List.mem_of_getElem? e1, List.mem_map.mpr ⟨y', List.mem_of_getElem? e2, rfl⟩⟩))))))
            refine f3.trans (congrArg some ?_)
            by_cases hk : k = k'
            · subst hk
              rw [e1] at e2
              cases e2
              simp
            · have : y ≠ y' := fun e => hk (by
                subst e
                obtain ⟨i1, i2⟩ := List.getElem?_eq_some_iff.mp e1
                obtain ⟨j1, j2⟩ := List.getElem?_eq_some_iff.mp e2
                exact (List.getElem_inj hnd).mp (i2.trans j2.symm))
              rw [beq_eq_false_iff_ne.mpr this, decide_eq_false hk] }
        loc := fun x hx => ⟨hx, .inl rfl⟩ }
      refine ⟨_, pss_cSL (cS_ok (mu := d.mu) 60 d.sc _ _ ag (passes_of (K := fun e s'' => L2.CX P w outer H s E e s'') rfl) rfl rfl) d.d.body, ρ, m, ds.map some ++ List.replicate (d.N.length - ds.length) none, ⟨M, ?_, fun i dv hi => ?_⟩, ?_⟩
      · unfold L2.start
        simp [rs.length]
      · unfold L2.start
        by_cases hi2 : i < ds.length
        · rw [List.getElem?_append_left (by simpa using hi2), List.getElem?_map] at hi
          obtain ⟨d0, h1, h2⟩ := Option.map_eq_some_iff.mp hi
          cases h2
          obtain ⟨v, g1, g2⟩ := rs.get h1
          refine ⟨v, ?_, g2⟩
          rw [List.getElem?_append_left (by rw [List.length_map, ← rs.length]; exact hi2), List.getElem?_map, g1]
          rfl
        · rw [List.getElem?_append_right (by simpa using hi2), List.getElem?_replicate] at hi
          split at hi <;> cases hi
      · show PostS _ _ ρ H _ (exs (run p.P L) (p.body d) _ m)
        cases hr2 : exs (run p.P L) (p.body d) (ds.map some ++ List.replicate (d.N.length - ds.length) none) m with
        | ok f env' m' =>
          rw [hr2] at q
          cases f with
          | nx =>
            dsimp only at q
            intro ρ' H' σ' e1 S1
            obtain ⟨ρ2, c1, c2, c3, _, _⟩ := clean_ok (d := .non) (v := .non) e1 S1.mem (by simp [VR])
            rw [M.len] at c2
            exact q ρ2 H' .non c1 c2 (by simp [VR]) fun _ ds e => by cases e
          | rt fr dv =>
            dsimp only at q
            by_cases hff : (d.ff && !fr && isL dv) = true
            · rw [if_pos hff] at q
              exact q.elim
            · rw [if_neg hff] at q
              intro ρ' H' v e1 M1 r1 n1
              obtain ⟨ρ2, c1, c2, c3, c4, c5⟩ := clean_ok e1 M1 r1
              rw [M.len] at c2 c3 c4 c5
              refine q ρ2 H' v c1 c2 c3 fun hR => ?_
              have hdf : d.ff = true := by
                have : p.G.ff n = true := hR
                unfold PgD.G at this
                simp only [hd] at this
                exact this
              cases hL : isL dv with
              | false => exact c4 hL
              | true =>
                rw [c5 hL]
                refine n1 ?_
                cases hfr : fr with
                | true => rfl
                | false =>
                  rw [hdf, hL, hfr] at hff
                  exact absurd rfl hff
        | exc cc fs env' m' =>
          rw [hr2] at q
          dsimp only at q
          obtain ⟨q1, a, q2, q3⟩ := q
          refine ⟨q1, a, q2, fun ρ' H' σ' e1 S1 => ?_⟩
          obtain ⟨ρ2, c1, c2, c3, _, _⟩ := clean_ok (d := .non) (v := .non) e1 S1.mem (by simp [VR])
          rw [M.len] at c2
          exact q3 ρ2 H' c1 c2
        | bad =>
          rw [hr2] at q
          exact q.elim
end
end MP

namespace MP
open PySem L2 PySem.Spec PyProof.Rows
/-- THE END: a law that our evaluator answers with True -/
theorem law_walk {l : PySem.W.OpenLaw} {q : Program} {loose : List Str} {XP : (Str → Option Value) → Heap → Prop} {YP : World → Heap → Prop} {d : DefRec} {p : PgD} {L nl : Nat} {dl : DefC}
    (hn : l.most = some 63) (hdf : d.params.defaults = []) (hr : Room L callerA) (hY : ∀ w h, YP w h → ∃ K : PySem.W.Frag, K.In h ∧ He.SaysD p.fa p.fn K) (hdl : p.pr[nl]? = some dl) (hps : dl.ps = [("script" : Str)]) (hnm : d.name = dl.d.name)
    (hok : (p.pr.all DefC.ok) = true) (hb : ∀ d ∈ p.pr, BindOk d) (hat : ∀ d ∈ p.pr, d.d.at_ = (d.d.name, none) ∧ (∀ K, d.d.dvs K = []) ∧ (∀ K, d.d.kws K = [])) (hnd : p.excs.Nodup)
    (law : ∀ ns : List Int, ns.length ≤ 63 → (∀ z ∈ ns, Builtin.Int.intBits z ≤ 1048576) → ∃ m, run p.P L nl [.scr ns] [] = .ok (.bl true) m) :
    PySem.W.WalkO q loose XP YP l.row.toRowW d [] (fun f vs => PySem.call f vs) := by
  refine Att.attach_callB hn hdf fun w s₀ s₁ mg mb fa o pm cd doc a vs ns GR Y ho hd hcd hmg hobj hints hlen hbits hg => ?_
  obtain ⟨K, KX, c⟩ := hY w _ Y
  have all := fun base => prog_ok (P := l.prog) (w := w) (base := base) hok hb hat hnd KX GR.T.g c L nl dl hdl
  obtain ⟨fd0, ⟨oc, od, osl, lk0⟩, e1, _, _, bA, _, F0⟩ := all s₁.heap
  rw [hnm, e1] at hmg
  cases hmg
  -- the function object is the same over every base
  have F : ∀ base : Heap, K.In base → base.Ns mainGlobals mg → FnOk l.prog w K mg base (L2.CX l.prog w) L (He.ga K dl.d.name) fd0 [("script" : Str)] (CallOk (p.R K) (run p.P L) nl) := fun base _ _ => by
    obtain ⟨fd1, ⟨oc1, od1, osl1, lk1⟩, _, _, _, _, _, F1⟩ := all base
    have : fd1 = fd0 := by
      rw [lk0] at lk1
      cases lk1
      rfl
    subst this
    rw [hps] at F1
    exact F1
  rw [hps] at bA
  refine law_call KX GR.T.g GR.T.b GR.T.builtins GR.T.nolimit hg hobj hints (Nat.le_trans hlen (by rw [sizeLine_eq]; omega)) hr F (fun s u => bA s [u] rfl) (fun H hO hS => ?_) fun H e s' hx => ?_
  · obtain ⟨m, hm⟩ := law ns hlen hbits
    refine ⟨[], [], [.scr ns], ⟨rfl, List.nodup_nil, fun n o h => by simp at h⟩, ?_, ?_⟩
    · simp only [VRs, VR]
      refine ⟨⟨a, rfl, ?_⟩, trivial⟩
      rcases hS with h | h
      · exact .inl ⟨by simp, h⟩
      · exact .inr h
    · rw [hm]
      exact fun ρ' H' v _ _ r _ => vr_bl r
  · obtain ⟨_, _, _, _, _, _, _, _, _, _, _, _, z⟩ := hx
    exact z.elim
end MP

/-! Stepping through the evaluator by simp. -/
namespace MP
open PySem L2 PySem.Spec PyProof.Rows
theorem Res.bnd_congr {α β : Type} {r r' : Res α} {k : α → Mem → Res β} (h : r = r') : r.bnd k = r'.bnd k := by rw [h]
theorem Res.bndN_congr {α β : Type} {r r' : Res α} {k : α → Mem → Res β} (h : r = r') : r.bndN k = r'.bndN k := by rw [h]
theorem SRes.of_congr {r r' : Res D} {env : Env} {k : D → Mem → SRes} (h : r = r') : SRes.of r env k = SRes.of r' env k := by rw [h]
theorem SRes.thn_congr {r r' : SRes} {k : Env → Mem → SRes} (h : r = r') : r.thn k = r'.thn k := by rw [h]
theorem bnd_ok {α β : Type} (a : α) (m : Mem) (k : α → Mem → Res β) : (Res.ok a m).bnd k = k a m := rfl
theorem bndN_ok {α β : Type} (a : α) (m : Mem) (k : α → Mem → Res β) : (Res.ok a m).bndN k = k a m := rfl
theorem of_ok (a : D) (m : Mem) (env : Env) (k : D → Mem → SRes) : SRes.of (.ok a m) env k = k a m := rfl
theorem thn_nx (env : Env) (m : Mem) (k : Env → Mem → SRes) : (SRes.ok .nx env m).thn k = k env m := rfl
theorem thn_rt (f : Bool) (d : D) (env : Env) (m : Mem) (k : Env → Mem → SRes) : (SRes.ok (.rt f d) env m).thn k = .ok (.rt f d) env m := rfl
/-- a value or nothing -/
def optR {α : Type} (o : Option α) (m : Mem) : Res α := match o with
  | some d => .ok d m
  | none => .bad
theorem optR_congr {α : Type} {o o' : Option α} {m : Mem} (h : o = o') : optR o m = optR o' m := by rw [h]
theorem optR_some {α : Type} (d : α) (m : Mem) : optR (some d) m = .ok d m := rfl
/-- by a truth -/
def cond3 {α : Type} (o : Option Bool) (a b : α) (c : α) : α := match o with
  | some true => a
  | some false => b
  | none => c
theorem cond3_congr {α : Type} {o o' : Option Bool} {a b c : α} (h : o = o') : cond3 o a b c = cond3 o' a b c := by rw [h]
theorem cond3_t {α : Type} (a b c : α) : cond3 (some true) a b c = a := rfl
theorem cond3_f {α : Type} (a b c : α) : cond3 (some false) a b c = b := rfl
section
variable (C : Nat → List D → Mem → Res D) (env : Env) (m : Mem)
theorem ev_var (i : Nat) : ev C (.var i) env m = optR (envGet env i) m := by
  rw [ev]
  cases envGet env i <;> rfl
theorem ev_lit (d : D) : ev C (.lit d) env m = .ok d m := by rw [ev]
theorem ev_bin (o : BO) (a b : Ex) : ev C (.bin o a b) env m = (ev C a env m).bnd fun x m1 => (ev C b env m1).bnd fun y m2 => optR (binV o m2 x y) m2 := by
  rw [ev]
  refine congrArg _ (funext fun x => funext fun m1 => congrArg _ (funext fun y => funext fun m2 => ?_))
  cases binV o m2 x y <;> rfl
theorem ev_neg (a : Ex) : ev C (.neg a) env m = (ev C a env m).bnd fun x m1 => match x with
    | .int i => .ok (.int (-i)) m1
    | _ => .bad := by rw [ev] <;> rfl
theorem ev_cmp (o : CO) (a b : Ex) : ev C (.cmp o a b) env m = (ev C a env m).bnd fun x m1 => (ev C b env m1).bnd fun y m2 => optR ((cmpV o m2 x y).map D.bl) m2 := by
  rw [ev]
  refine congrArg _ (funext fun x => funext fun m1 => congrArg _ (funext fun y => funext fun m2 => ?_))
  cases cmpV o m2 x y <;> rfl
theorem ev_cmp2 (o o' : CO) (a b c : Ex) : ev C (.cmp2 o o' a b c) env m = (ev C a env m).bnd fun x m1 => (ev C b env m1).bnd fun y m2 => cond3 (cmpV o m2 x y) ((ev C c env m2).bnd fun z m3 => optR ((cmpV o' m3 y z).map D.bl) m3) (.ok (.bl false) m2) .bad := by
  rw [ev]
  refine congrArg _ (funext fun x => funext fun m1 => congrArg _ (funext fun y => funext fun m2 => ?_))
  rcases cmpV o m2 x y with _ | _ | _
  · rfl
  · rfl
  · show (ev C c env m2).bnd _ = (ev C c env m2).bnd _
    refine congrArg _ (funext fun z => funext fun m3 => ?_)
    cases cmpV o' m3 y z <;> rfl
theorem ev_and (a b : Ex) : ev C (.andE a b) env m = (ev C a env m).bnd fun x m1 => cond3 (truV m1 x) (ev C b env m1) (.ok x m1) .bad := by rw [ev] <;> rfl
theorem ev_or (a b : Ex) : ev C (.orE a b) env m = (ev C a env m).bnd fun x m1 => cond3 (truV m1 x) (.ok x m1) (ev C b env m1) .bad := by rw [ev] <;> rfl
theorem ev_not (a : Ex) : ev C (.notE a) env m = (ev C a env m).bnd fun x m1 => optR ((truV m1 x).map fun b => D.bl (!b)) m1 := by
  rw [ev]
  refine congrArg _ (funext fun x => funext fun m1 => ?_)
  cases truV m1 x <;> rfl
theorem ev_ite (c a b : Ex) : ev C (.ite c a b) env m = (ev C c env m).bnd fun x m1 => cond3 (truV m1 x) (ev C a env m1) (ev C b env m1) .bad := by rw [ev] <;> rfl
theorem ev_tup (es : Exs) : ev C (.tup es) env m = (evs C es env m).bnd fun ds m1 => if ds.length ≤ sizeLine then .ok (.tup ds) m1 else .bad := by rw [ev]
theorem ev_lst (es : Exs) : ev C (.lst es) env m = (evs C es env m).bnd fun ds m1 => if ds.length ≤ sizeLine then .ok (.lst ds) m1 else .bad := by rw [ev]
theorem ev_newL (es : Exs) : ev C (.newL es) env m = (evs C es env m).bnd fun ds m1 => if ds.length ≤ sizeLine then .ok (.ref m1.length) (m1 ++ [.lst ds]) else .bad := by rw [ev]
theorem ev_ix (a i : Ex) : ev C (.ix a i) env m = (ev C a env m).bnd fun x m1 => (ev C i env m1).bnd fun y m2 => optR (ixV m2 x y) m2 := by
  rw [ev]
  refine congrArg _ (funext fun x => funext fun m1 => congrArg _ (funext fun y => funext fun m2 => ?_))
  cases ixV m2 x y <;> rfl
theorem ev_callB (b : B) (es : Exs) : ev C (.callB b es) env m = (evs C es env m).bnd fun ds m1 => match callV b m1 ds with
    | some (d, m2) => .ok d m2
    | none => .bad := by rw [ev] <;> rfl
theorem ev_callF (x : Nat) (es : Exs) : ev C (.callF x es) env m = (evs C es env m).bnd fun ds m1 => C x ds m1 := by rw [ev]
theorem ev_isi (a : Ex) (ts : List Ty) : ev C (.isi a ts) env m = (ev C a env m).bnd fun x m1 => optR ((isAny m1 x ts).map D.bl) m1 := by
  rw [ev]
  refine congrArg _ (funext fun x => funext fun m1 => ?_)
  cases isAny m1 x ts <;> rfl
theorem ev_thaw (a : Ex) : ev C (.thaw a) env m = (ev C a env m).bnd fun x m1 => match x with
    | .lst ds => if noLs ds && m1.all noO then .ok (.ref m1.length) (m1 ++ [.lst ds]) else .bad
    | _ => .ok x m1 := by rw [ev] <;> rfl
theorem evs_nil : evs C .nil env m = .ok [] m := by rw [evs]
theorem evs_cons (e : Ex) (es : Exs) : evs C (.cons e es) env m = (ev C e env m).bnd fun x m1 => (evs C es env m1).bnd fun xs m2 => .ok (x :: xs) m2 := by rw [evs]
theorem ev_sl (a : Ex) (lo hi : Exs) : ev C (.sl a lo hi) env m = (ev C a env m).bnd fun x m1 => (evs C lo env m1).bnd fun l m2 => (optR (ints? l) m2).bnd fun l m2 => (evs C hi env m2).bnd fun h m3 => (optR (ints? h) m3).bnd fun h m3 => optR (slV m3 x l.head? h.head?) m3 := by
  rw [ev]
  refine congrArg _ (funext fun x => funext fun m1 => congrArg _ (funext fun l => funext fun m2 => ?_))
  cases ints? l with
  | none => rfl
  | some l =>
    show (evs C hi env m2).bnd _ = (evs C hi env m2).bnd _
    refine congrArg _ (funext fun h => funext fun m3 => ?_)
    cases ints? h with
    | none => rfl
    | some h =>
      show _ = optR (slV m3 x l.head? h.head?) m3
      show (match slV m3 x l.head? h.head? with | some d => _ | none => _) = _
      cases slV m3 x l.head? h.head? <;> rfl
/-! statements -/
/-- go on with an environment -/
def optS (o : Option Env) (m : Mem) : SRes := match o with
  | some e => .ok .nx e m
  | none => .bad
def optM (o : Option Mem) (env : Env) : SRes := match o with
  | some m => .ok .nx env m
  | none => .bad
theorem optS_some (e : Env) : optS (some e) m = .ok .nx e m := rfl
theorem optM_some : optM (some m) env = .ok .nx env m := rfl
theorem ex_expr (e : Ex) : ex C (.expr e) env m = SRes.of (ev C e env m) env fun _ m1 => .ok .nx env m1 := by rw [ex]
theorem ex_asg (t : Tg) (e : Ex) : ex C (.asg t e) env m = SRes.of (ev C e env m) env fun x m1 => optS (asgT t x env) m1 := by rw [ex] <;> rfl
theorem ex_setIx (a i e : Ex) : ex C (.setIx a i e) env m = SRes.of (ev C e env m) env fun v m1 => SRes.of (ev C a env m1) env fun x m2 => SRes.of (ev C i env m2) env fun y m3 => optM (setV m3 x y v) env := by rw [ex] <;> rfl
theorem ex_ret (fr : Bool) (e : Ex) : ex C (.ret fr e) env m = SRes.of (ev C e env m) env fun x m1 => .ok (.rt fr x) env m1 := by rw [ex]
theorem ex_if (c : Ex) (a b : Sts) : ex C (.ifS c a b) env m = SRes.of (ev C c env m) env fun x m1 => cond3 (truV m1 x) (exs C a env m1) (exs C b env m1) .bad := by rw [ex] <;> rfl
theorem exs_nil : exs C .nil env m = .ok .nx env m := by rw [exs]
theorem exs_cons (s : MP.St) (ss : Sts) : exs C (.cons s ss) env m = (ex C s env m).thn fun env' m' => exs C ss env' m' := by rw [exs]
end
theorem optS_congr {o o' : Option Env} {m : Mem} (h : o = o') : optS o m = optS o' m := by rw [h]
theorem optM_congr {o o' : Option Mem} {e : Env} (h : o = o') : optM o e = optM o' e := by rw [h]
/-! values -/
section
variable (m : Mem)
theorem ixV_lst {n : Nat} {ds : List D} (i : Int) (h : m[n]? = some (.lst ds)) : ixV m (.ref n) (.int i) = atI ds i := by simp [ixV, h]
theorem setV_lst {n : Nat} {ds : List D} (i : Int) (v : D) (h : m[n]? = some (.lst ds)) : setV m (.ref n) (.int i) v = (ixN ds.length i).map fun j => m.set n (.lst (ds.set j v)) := by
  simp only [setV, h]
  cases ixN ds.length i <;> rfl
theorem bin_add (i j : Int) : binV .add m (.int i) (.int j) = some (.int (i + j)) := rfl
theorem bin_sub (i j : Int) : binV .sub m (.int i) (.int j) = some (.int (i - j)) := rfl
theorem bin_mul {i j : Int} (h : mulOk i j = true) : binV .mul m (.int i) (.int j) = some (.int (i * j)) := by simp [binV, h]
theorem bin_mod {i j : Int} (h : 0 < j) : binV .mod m (.int i) (.int j) = some (.int (i % j)) := by simp [binV, h]
theorem bin_fdiv {i j : Int} (h : 0 < j) (h2 : j.natAbs.log2 < 9000) : binV .fdiv m (.int i) (.int j) = some (.int (i / j)) := by simp [binV, h, h2]
theorem cmp_gt (i j : Int) : cmpV .gt m (.int i) (.int j) = some (decide (j < i)) := rfl
theorem cmp_lt (i j : Int) : cmpV .lt m (.int i) (.int j) = some (decide (i < j)) := rfl
theorem cmp_ge (i j : Int) : cmpV .ge m (.int i) (.int j) = some (decide (j ≤ i)) := rfl
theorem cmp_le (i j : Int) : cmpV .le m (.int i) (.int j) = some (decide (i ≤ j)) := rfl
theorem tru_bl (b : Bool) : truV m (.bl b) = some b := rfl
theorem call_int (i : Int) : callV .int m [.int i] = some (.int i, m) := rfl
theorem call_intB (b : Bool) : callV .int m [.bl b] = some (.int (if b then 1 else 0), m) := rfl
theorem call_abs (i : Int) : callV .abs m [.int i] = some (.int (if i < 0 then -i else i), m) := rfl
end
theorem at0 (x y z : D) : atI [x, y, z] 0 = some x := rfl
theorem at1 (x y z : D) : atI [x, y, z] 1 = some y := rfl
theorem at2 (x y z : D) : atI [x, y, z] 2 = some z := rfl
theorem ixn0 : ixN 3 0 = some 0 := rfl
theorem ixn2 : ixN 3 2 = some 2 := rfl
theorem clean_keep {k : Nat} {d : D} {m : Mem} (hm : m.length ≤ k) (hd : ∀ n, d ≠ .ref n) : clean k d m = (d, m) := by
  unfold clean
  rw [List.take_of_length_le hm]
  split
  · cases d <;> first | exact absurd rfl (hd _) | (simp only []; split <;> rfl)
  · rfl
theorem ge0 (x : Option D) (l : List (Option D)) : envGet (x :: l) 0 = x := by
  cases x <;> rfl
theorem geS (x : Option D) (l : List (Option D)) (i : Nat) : envGet (x :: l) (i + 1) = envGet l i := by
  simp [envGet]
end MP

/-! What the laws' drawing helpers give. -/
namespace MP
open PySem L2 PySem.Spec PyProof.Rows
/-- the drawing state: at most B draws so far -/
def Tin (B : Nat) (a b c : Int) : Prop := 0 ≤ a ∧ 0 ≤ b ∧ b < 2 ^ 70 ∧ 0 ≤ c ∧ c < (B : Int)
def takeI : DefI := ⟨2, 6, false, .cons (.ifS (.cmp .gt (.ix (.var 0) (.lit (.int 0))) (.lit (.int 0))) (.cons (.asg (.name 5) (.bin .mod (.callB .int (.cons (.ix (.var 0) (.lit (.int 0))) .nil)) (.var 1))) (.cons (.setIx (.var 0) (.lit (.int 0)) (.bin .fdiv (.ix (.var 0) (.lit (.int 0))) (.var 1))) (.cons (.ret false (.var 5)) .nil))) .nil)
  (.cons (.setIx (.var 0) (.lit (.int 2)) (.bin .add (.ix (.var 0) (.lit (.int 2))) (.lit (.int 1))))
  (.cons (.asg (.name 2) (.bin .mod (.callB .int (.cons (.bin .mul (.bin .add (.ix (.var 0) (.lit (.int 1))) (.bin .mul (.lit (.int 48271)) (.ix (.var 0) (.lit (.int 2))))) (.bin .add (.lit (.int 39373)) (.ix (.var 0) (.lit (.int 2))))) .nil)) (.lit (.int 2147483647))))
  (.cons (.asg (.name 3) (.bin .add (.bin .mod (.callB .int (.cons (.var 2) .nil)) (.lit (.int 40009))) (.lit (.int 7))))
  (.cons (.asg (.name 4) (.bin .mod (.callB .int (.cons (.bin .mul (.bin .add (.bin .add (.var 2) (.ix (.var 0) (.lit (.int 2)))) (.bin .fdiv (.ix (.var 0) (.lit (.int 1))) (.lit (.int 1000003)))) (.var 3)) .nil)) (.lit (.int 2147483629))))
  (.cons (.ret true (.bin .mod (.callB .int (.cons (.bin .fdiv (.bin .mod (.callB .int (.cons (.bin .add (.bin .mul (.var 4) (.lit (.int 48271))) (.var 2)) .nil)) (.lit (.int 2147483587))) (.lit (.int 64))) .nil)) (.var 1))) .nil)))))⟩
theorem log2_lt {i : Int} {k : Nat} (h0 : 0 ≤ i) (h : i < 2 ^ k) (hk : 0 < k) : i.natAbs.log2 < k := by
  by_cases hz : i.natAbs = 0
  · rw [hz]; simpa using hk
  · rw [Nat.log2_lt hz]
    have : ((i.natAbs : Nat) : Int) < ((2 ^ k : Nat) : Int) := by
      rw [Int.natAbs_of_nonneg h0]; push_cast; exact h
    exact Int.ofNat_lt.mp this
theorem mulOk_of {i j : Int} {k l : Nat} (hi0 : 0 ≤ i) (hi : i < 2 ^ k) (hj0 : 0 ≤ j) (hj : j < 2 ^ l) (hk : 0 < k) (hl : 0 < l) (h : k + l ≤ 100000000) : mulOk i j = true := by
  have := log2_lt hi0 hi hk
  have := log2_lt hj0 hj hl
  unfold mulOk
  exact decide_eq_true (by omega)
theorem take_ok {P : Nat → Option DefI} {x L n B : Nat} {m : Mem} {a b c k : Int} (hP : P x = some takeI) (hm : m[n]? = some (.lst [.int a, .int b, .int c])) (t : Tin B a b c) (hB : B ≤ 2 ^ 200) (hk : 0 < k) (hk2 : k < 2 ^ 62) :
    ∃ v a' c', run P (L + 1) x [.ref n, .int k] m = .ok (.int v) (m.set n (.lst [.int a', .int b, .int c'])) ∧ 0 ≤ v ∧ v < k ∧ Tin (B + 1) a' b c' := by
  obtain ⟨ha, hb, hb2, hc, hc2⟩ := t
  have hn : n < m.length := (List.getElem?_eq_some_iff.mp hm).1
  have hl : k.natAbs.log2 < 9000 := by
    have := log2_lt (by omega : (0 : Int) ≤ k) hk2 (by decide)
    omega
  by_cases h : 0 < a
  · refine ⟨a % k, a / k, c, ?_, Int.emod_nonneg _ (by omega), Int.emod_lt_of_pos _ hk, Int.ediv_nonneg ha (by omega), hb, hb2, hc, by omega⟩
    have d1 : decide (0 < a) = true := decide_eq_true h
    simp only [run, callD, hP, takeI, List.length_cons, List.length_nil, if_true, List.map_cons, List.map_nil, List.replicate, List.cons_append, List.nil_append]
    simp only [bnd_ok, bndN_ok, of_ok, thn_nx, thn_rt, optR_some, cond3_t, cond3_f, ev_var, ev_lit, ev_bin, ev_cmp, ev_cmp2, ev_and, ev_or, ev_not, ev_ite, ev_tup, ev_lst, ev_ix, ev_callB, ev_callF, ev_isi, evs_nil, evs_cons, ev_sl, optS_some, optM_some, ex_expr, ex_asg, ex_setIx, ex_ret, ex_if, exs_nil, exs_cons,
  bin_add, bin_sub, cmp_gt, cmp_lt, cmp_ge, cmp_le, tru_bl, call_int, call_intB, call_abs, Option.map_some, asgT, List.length_cons, List.length_nil, Nat.zero_add, Nat.reduceAdd, Nat.reduceLT, if_true, List.set_cons_zero, List.set_cons_succ, ge0, geS, ixV_lst m _ hm, at0, d1, bin_mod _ hk, bin_fdiv _ hk hl, setV_lst m _ _ hm, ixn0]
    rw [clean_keep (by simp) (by simp)]
    rfl
  · have d1 : decide (0 < a) = false := decide_eq_false h
    have hm2 : (m.set n (.lst [.int a, .int b, .int (c + 1)]))[n]? = some (.lst [.int a, .int b, .int (c + 1)]) := by simp [hn]
    have B1 : c < 2 ^ 200 := by omega
    have o1 : mulOk 48271 (c + 1) = true := mulOk_of (k := 16) (l := 201) (by omega) (by decide) (by omega) (by omega) (by decide) (by decide) (by decide)
    have o2 : mulOk (b + 48271 * (c + 1)) (39373 + (c + 1)) = true := mulOk_of (k := 220) (l := 220) (by omega) (by omega) (by omega) (by omega) (by decide) (by decide) (by decide)
    have z1 : (0 : Int) < 2147483647 := by decide
    have z2 : (0 : Int) < 2147483629 := by decide
    have z3 : (0 : Int) < 2147483587 := by decide
    have z4 : (0 : Int) < 40009 := by decide
    have z5 : (0 : Int) < 64 := by decide
    have z6 : (0 : Int) < 1000003 := by decide
    have l5 : ((64 : Int)).natAbs.log2 < 9000 := by decide
    have l6 : ((1000003 : Int)).natAbs.log2 < 9000 := by decide
    obtain ⟨once, eo⟩ : ∃ z, (b + 48271 * (c + 1)) * (39373 + (c + 1)) % 2147483647 = z := ⟨_, rfl⟩
    obtain ⟨wide, ew⟩ : ∃ z, once % 40009 = z := ⟨_, rfl⟩
    have g1 : 0 ≤ once ∧ once < 2147483647 := by
      rw [← eo]
      exact ⟨Int.emod_nonneg _ (by decide), Int.emod_lt_of_pos _ (by decide)⟩
    have g2 : 0 ≤ wide ∧ wide < 40009 := by
      rw [← ew]
      exact ⟨Int.emod_nonneg _ (by decide), Int.emod_lt_of_pos _ (by decide)⟩
    have g3 : 0 ≤ b / 1000003 ∧ b / 1000003 ≤ b := by omega
    have o3 : mulOk (once + (c + 1) + b / 1000003) (wide + 7) = true := mulOk_of (k := 220) (l := 40) (by omega) (by omega) (by omega) (by omega) (by decide) (by decide) (by decide)
    obtain ⟨twice, et⟩ : ∃ z, (once + (c + 1) + b / 1000003) * (wide + 7) % 2147483629 = z := ⟨_, rfl⟩
    have g4 : 0 ≤ twice ∧ twice < 2147483629 := by
      rw [← et]
      exact ⟨Int.emod_nonneg _ (by decide), Int.emod_lt_of_pos _ (by decide)⟩
    have o4 : mulOk twice 48271 = true := mulOk_of (k := 40) (l := 20) (by omega) (by omega) (by omega) (by omega) (by decide) (by decide) (by decide)
    refine ⟨(twice * 48271 + once) % 2147483587 / 64 % k, a, c + 1, ?_, Int.emod_nonneg _ (by omega), Int.emod_lt_of_pos _ hk, ha, hb, hb2, by omega, by push_cast; omega⟩
    simp only [run, callD, hP, takeI, List.length_cons, List.length_nil, if_true, List.map_cons, List.map_nil, List.replicate, List.cons_append, List.nil_append]
    simp only [bnd_ok, bndN_ok, of_ok, thn_nx, thn_rt, optR_some, cond3_t, cond3_f, ev_var, ev_lit, ev_bin, ev_cmp, ev_cmp2, ev_and, ev_or, ev_not, ev_ite, ev_tup, ev_lst, ev_ix, ev_callB, ev_callF, ev_isi, evs_nil, evs_cons, ev_sl, optS_some, optM_some, ex_expr, ex_asg, ex_setIx, ex_ret, ex_if, exs_nil, exs_cons,
  bin_add, bin_sub, cmp_gt, cmp_lt, cmp_ge, cmp_le, tru_bl, call_int, call_intB, call_abs, Option.map_some, asgT, List.length_cons, List.length_nil, Nat.zero_add, Nat.reduceAdd, Nat.reduceLT, if_true, List.set_cons_zero, List.set_cons_succ, ge0, geS, ixV_lst _ _ hm, ixV_lst _ _ hm2, at0, at1, at2, d1, setV_lst m _ _ hm, ixn2, bin_mul _ o1, bin_mul _ o2, bin_mul _ o3, bin_mul _ o4, bin_mod _ z1, bin_mod _ z2, bin_mod _ z3, bin_mod _ z4, bin_fdiv _ z5 l5, bin_fdiv _ z6 l6, bin_mod _ hk, eo, ew, et]
    rw [clean_keep (by simp) (by simp)]
    rfl
end MP

/-! What the laws make of their script. -/
namespace MP
open PySem L2 PySem.Spec PyProof.Rows
/-- a loop by what holds between its turns -/
theorem for_inv {src : SrcV} {tg : Tg} {body : Env → Mem → SRes} (N : Nat) (I : Nat → Env → Mem → Prop)
    (h1 : ∀ i env m, i < N → I i env m → ∃ d env1 env2 m2, src.at m i = some (some d) ∧ asgT tg d env = some env1 ∧ body env1 m = .ok .nx env2 m2 ∧ I (i + 1) env2 m2)
    (h2 : ∀ env m, I N env m → src.at m N = some none) : ∀ (n i : Nat) (env : Env) (m : Mem), i ≤ N → N - i < n → I i env m → ∃ env2 m2, forLoop src tg body n i env m = .ok .nx env2 m2 ∧ I N env2 m2 := by
  intro n
  induction n with
  | zero => intro i env m h hn; omega
  | succ n ih =>
    intro i env m h hn hI
    by_cases hi : i < N
    · obtain ⟨d, env1, env2, m2, e1, e2, e3, hI2⟩ := h1 i env m hi hI
      obtain ⟨env3, m3, e4, hI3⟩ := ih (i + 1) env2 m2 (by omega) (by omega) hI2
      refine ⟨env3, m3, ?_, hI3⟩
      simp only [forLoop, e1, e2, e3, thn_nx, e4]
    · have : i = N := by omega
      subst this
      exact ⟨env, m, by simp only [forLoop, h2 env m hI], hI⟩
def cellsI : DefI := ⟨2, 6, false, .cons (.asg (.name 2) (.thaw (.orE (.callB .list (.cons (.sl (.var 0) .nil (.cons (.var 1) .nil)) .nil)) (.lst (.cons (.lit (.int 0)) .nil)))))
  (.cons (.forS (.pair (.cons (.name 3) (.cons (.name 4) .nil))) (.enum (.sl (.var 0) (.cons (.var 1) .nil) (.cons (.lit (.int 63)) .nil))) (.cons (.asg (.name 5) (.bin .mod (.callB .int (.cons (.var 3) .nil)) (.var 1))) (.cons (.setIx (.var 2) (.var 5) (.bin .add (.ix (.var 2) (.var 5)) (.bin .mul (.var 4) (.bin .add (.var 3) (.lit (.int 2)))))) .nil)))
  (.cons (.ret false (.var 2)) .nil))⟩
theorem bits_lt {z : Int} (h : Builtin.Int.intBits z ≤ 1048576) : z.natAbs < 2 ^ 1048576 := by
  unfold Builtin.Int.intBits at h
  by_cases hz : z = 0
  · subst hz
    exact Nat.pow_pos (by decide)
  · have hz2 : z.natAbs ≠ 0 := by omega
    rw [if_neg (by simpa using hz)] at h
    exact (Nat.log2_lt hz2).mp (by omega)
theorem cut_mem {α : Type} {xs : List α} {lo hi : Option Int} {y : α} (h : y ∈ cutD xs lo hi) : y ∈ xs := List.mem_of_mem_drop (List.mem_of_mem_take h)
theorem cut_len {α : Type} (xs : List α) (lo hi : Option Int) : (cutD xs lo hi).length ≤ xs.length := by
  unfold cutD
  rw [List.length_take, List.length_drop]
  omega
theorem mulOk_abs {i j : Int} {k l : Nat} (hi : i.natAbs < 2 ^ k) (hj : j.natAbs < 2 ^ l) (hk : 0 < k) (hl : 0 < l) (h : k + l ≤ 100000000) : mulOk i j = true := by
  have f : ∀ {i : Int} {k : Nat}, i.natAbs < 2 ^ k → 0 < k → i.natAbs.log2 < k := fun {i k} h hk => by
    by_cases hz : i.natAbs = 0
    · rw [hz]; simpa using hk
    · exact (Nat.log2_lt hz).mpr h
  have := f hi hk
  have := f hj hl
  unfold mulOk
  exact decide_eq_true (by omega)
theorem at00 (x : D) : atI [x] 0 = some x := rfl
theorem ixn10 : ixN 1 0 = some 0 := rfl
theorem cells_ok {P : Nat → Option DefI} {x L : Nat} {ns : List Int} (hP : P x = some cellsI) (hn : ns.length ≤ 63) (hb : ∀ z ∈ ns, Builtin.Int.intBits z ≤ 1048576) :
    ∃ z : Int, run P (L + 1) x [.scr ns, .int 1] [] = .ok (.lst [.int z]) [] ∧ z.natAbs < 2 ^ 1048600 := by
  have hb2 : ∀ z ∈ ns, z.natAbs < 2 ^ 1048576 := fun z h => bits_lt (hb z h)
  have hpow : (2 : Nat) ^ 1048600 = 2 ^ 1048576 * 2 ^ 24 := by rw [← Nat.pow_add]
  obtain ⟨M, hM⟩ : ∃ M, (2 : Nat) ^ 1048576 = M := ⟨_, rfl⟩
  have hM1 : 0 < M := by rw [← hM]; exact Nat.pow_pos (by decide)
  obtain ⟨z0, hz0, hl0⟩ : ∃ z0 : Int, z0.natAbs ≤ M ∧ ev (run P L) (.thaw (.orE (.callB .list (.cons (.sl (.var 0) .nil (.cons (.var 1) .nil)) .nil)) (.lst (.cons (.lit (.int 0)) .nil)))) [some (.scr ns), some (.int 1), none, none, none, none] [] = .ok (.ref 0) [.lst [.int z0]] := by
    cases ns with
    | nil => exact ⟨0, by simp, rfl⟩
    | cons z zs => exact ⟨z, by have := hb2 z (by simp); omega, rfl⟩
  obtain ⟨ys, hys⟩ : ∃ ys, cutD ns (some 1) (some 63) = ys := ⟨_, rfl⟩
  have y1 : ys.length ≤ 63 := by rw [← hys]; exact Nat.le_trans (cut_len _ _ _) hn
  have y2 : ∀ y ∈ ys, y.natAbs < M := fun y h => hM ▸ hb2 y (cut_mem (by rw [hys]; exact h))
  have hsr : evSr (run P L) (.enum (.sl (.var 0) (.cons (.var 1) .nil) (.cons (.lit (.int 63)) .nil))) [some (.scr ns), some (.int 1), some (.ref 0), none, none, none] [.lst [.int z0]] = .ok (.en (.lst (ys.map D.int))) [.lst [.int z0]] := by
    rw [← hys]
    rfl
  obtain ⟨env2, m2, hf, e3, e4, e5, z, he2, hm2, hz⟩ := for_inv (src := .en (.lst (ys.map D.int))) (tg := .pair (.cons (.name 3) (.cons (.name 4) .nil))) (body := fun env' m' => exs (run P L) (.cons (.asg (.name 5) (.bin .mod (.callB .int (.cons (.var 3) .nil)) (.var 1))) (.cons (.setIx (.var 2) (.var 5) (.bin .add (.ix (.var 2) (.var 5)) (.bin .mul (.var 4) (.bin .add (.var 3) (.lit (.int 2)))))) .nil)) env' m')
    ys.length (fun i env m => ∃ e3 e4 e5 z, env = [some (.scr ns), some (.int 1), some (.ref 0), e3, e4, e5] ∧ m = [.lst [.int z]] ∧ z.natAbs ≤ M + i * (M * 128))
    (fun i env m hi hI => by
      obtain ⟨e3, e4, e5, z, rfl, rfl, hz⟩ := hI
      have hy : ys[i]? = some ys[i] := List.getElem?_eq_getElem hi
      have hyM := y2 ys[i] (List.getElem_mem hi)
      obtain ⟨y, hy0⟩ : ∃ y, ys[i] = y := ⟨_, rfl⟩
      rw [hy0] at hy hyM
      have ok : mulOk y ((i : Int) + 2) = true := mulOk_abs (k := 1048576) (l := 8) (hM ▸ hyM) (by omega) (by decide) (by decide) (by decide)
      have z1 : (0 : Int) < 1 := by decide
      have hm : ([.lst [.int z]] : Mem)[0]? = some (.lst [.int z]) := rfl
      refine ⟨.wtup [.int i, .int y], [some (.scr ns), some (.int 1), some (.ref 0), some (.int i), some (.int y), e5], [some (.scr ns), some (.int 1), some (.ref 0), some (.int i), some (.int y), some (.int 0)], [.lst [.int (z + y * ((i : Int) + 2))]], ?_, rfl, ?_, _, _, _, _, rfl, rfl, ?_⟩
      · simp only [SrcV.at, List.getElem?_map, hy, Option.map_some]
      · have ze : (i : Int) % 1 = 0 := by omega
        simp only [bnd_ok, bndN_ok, of_ok, thn_nx, thn_rt, optR_some, cond3_t, cond3_f, ev_var, ev_lit, ev_bin, ev_cmp, ev_cmp2, ev_and, ev_or, ev_not, ev_ite, ev_tup, ev_lst, ev_ix, ev_callB, ev_callF, ev_isi, evs_nil, evs_cons, ev_sl, optS_some, optM_some, ex_expr, ex_asg, ex_setIx, ex_ret, ex_if, exs_nil, exs_cons,
  bin_add, bin_sub, cmp_gt, cmp_lt, cmp_ge, cmp_le, tru_bl, call_int, call_intB, call_abs, Option.map_some, asgT, List.length_cons, List.length_nil, Nat.zero_add, Nat.reduceAdd, Nat.reduceLT, if_true, List.set_cons_zero, List.set_cons_succ, ge0, geS, bin_mod _ z1, ze, ixV_lst _ _ hm, at00, setV_lst _ _ _ hm, ixn10, bin_mul _ ok]
      · have : (y * ((i : Int) + 2)).natAbs ≤ M * 128 := by
          rw [Int.natAbs_mul]
          exact Nat.mul_le_mul (by omega) (by omega)
        have := Int.natAbs_add_le z (y * ((i : Int) + 2))
        rw [Nat.add_mul]
        omega)
    (fun env m hI => by simp [SrcV.at]) turnsMax 0 [some (.scr ns), some (.int 1), some (.ref 0), none, none, none] [.lst [.int z0]] (Nat.zero_le _) (by unfold turnsMax; omega) ⟨none, none, none, z0, rfl, rfl, by omega⟩
  refine ⟨z, ?_, ?_⟩
  · simp only [run, callD, hP, cellsI, List.length_cons, List.length_nil, if_true, List.map_cons, List.map_nil, List.replicate, List.cons_append, List.nil_append]
    simp only [bnd_ok, bndN_ok, of_ok, thn_nx, thn_rt, optR_some, cond3_t, cond3_f, ev_var, ev_lit, ev_bin, ev_cmp, ev_cmp2, ev_and, ev_or, ev_not, ev_ite, ev_tup, ev_lst, ev_ix, ev_callB, ev_callF, ev_isi, evs_nil, evs_cons, ev_sl, optS_some, optM_some, ex_expr, ex_asg, ex_setIx, ex_ret, ex_if, exs_nil, exs_cons,
  bin_add, bin_sub, cmp_gt, cmp_lt, cmp_ge, cmp_le, tru_bl, call_int, call_intB, call_abs, Option.map_some, asgT, List.length_cons, List.length_nil, Nat.zero_add, Nat.reduceAdd, Nat.reduceLT, if_true, List.set_cons_zero, List.set_cons_succ, ge0, geS, hl0]
    have hfor : ex (run P L) (.forS (.pair (.cons (.name 3) (.cons (.name 4) .nil))) (.enum (.sl (.var 0) (.cons (.var 1) .nil) (.cons (.lit (.int 63)) .nil))) (.cons (.asg (.name 5) (.bin .mod (.callB .int (.cons (.var 3) .nil)) (.var 1))) (.cons (.setIx (.var 2) (.var 5) (.bin .add (.ix (.var 2) (.var 5)) (.bin .mul (.var 4) (.bin .add (.var 3) (.lit (.int 2)))))) .nil))) [some (.scr ns), some (.int 1), some (.ref 0), none, none, none] [.lst [.int z0]] = .ok .nx env2 m2 := by
      rw [ex, hsr]
      exact hf
    simp only [hfor]
    subst he2 hm2
    simp only [bnd_ok, bndN_ok, of_ok, thn_nx, thn_rt, optR_some, cond3_t, cond3_f, ev_var, ev_lit, ev_bin, ev_cmp, ev_cmp2, ev_and, ev_or, ev_not, ev_ite, ev_tup, ev_lst, ev_ix, ev_callB, ev_callF, ev_isi, evs_nil, evs_cons, ev_sl, optS_some, optM_some, ex_expr, ex_asg, ex_setIx, ex_ret, ex_if, exs_nil, exs_cons,
  bin_add, bin_sub, cmp_gt, cmp_lt, cmp_ge, cmp_le, tru_bl, call_int, call_intB, call_abs, Option.map_some, asgT, List.length_cons, List.length_nil, Nat.zero_add, Nat.reduceAdd, Nat.reduceLT, if_true, List.set_cons_zero, List.set_cons_succ, ge0, geS, hfor]
    rfl
  · have : ys.length * (M * 128) ≤ 63 * (M * 128) := Nat.mul_le_mul_right _ y1
    rw [hpow, hM]
    omega
def boxI (w : Int) : DefI := ⟨2, 3, true, .cons (.asg (.name 2) (.ite (.cmp .lt (.var 1) (.callB .len (.cons (.var 0) .nil))) (.ix (.var 0) (.var 1)) (.lit (.int 0))))
  (.cons (.ret true (.lst (.cons (.bin .mul (.callB .abs (.cons (.var 2) .nil)) (.callB .int (.cons (.cmp .ge (.callB .abs (.cons (.var 2) .nil)) (.bin .pow (.lit (.int 10)) (.lit (.int 18)))) .nil))) (.cons (.bin .add (.bin .add (.bin .mod (.callB .int (.cons (.var 2) .nil)) (.lit (.int 2305843009213693951))) (.bin .mul (.lit (.int 39373)) (.var 1))) (.lit (.int w))) (.cons (.lit (.int 0)) .nil))))) .nil)⟩
theorem box_ok {P : Nat → Option DefI} {x L : Nat} {w z : Int} (hP : P x = some (boxI w)) (hw : 0 ≤ w) (hw2 : w < 2 ^ 60) (hz : z.natAbs < 2 ^ 1048600) :
    ∃ a b, run P (L + 1) x [.lst [.int z], .int 0] [] = .ok (.lst [.int a, .int b, .int 0]) [] ∧ Tin 1 a b 0 := by
  obtain ⟨u, hu⟩ : ∃ u : Int, (if z < 0 then -z else z) = u := ⟨_, rfl⟩
  have hu0 : 0 ≤ u := by rw [← hu]; split <;> omega
  have hu1 : u.natAbs = z.natAbs := by rw [← hu]; split <;> omega
  obtain ⟨g, hg⟩ : ∃ g : Int, (if decide ((1000000000000000000 : Int) ≤ u) = true then 1 else 0) = g := ⟨_, rfl⟩
  have hg0 : g = 0 ∨ g = 1 := by rw [← hg]; split <;> simp
  have ok : mulOk u g = true := mulOk_abs (k := 1048600) (l := 1) (by rw [hu1]; exact hz) (by rcases hg0 with rfl | rfl <;> decide) (by decide) (by decide) (by decide)
  have okz : mulOk 39373 0 = true := by decide
  have z1 : (0 : Int) < 2305843009213693951 := by decide
  have hpw : ∀ m, binV .pow m (.int 10) (.int 18) = some (.int 1000000000000000000) := fun m => rfl
  have hlen : ∀ m, callV .len m [.lst [.int z]] = some (.int 1, m) := fun m => rfl
  have hix : ∀ m, ixV m (.lst [.int z]) (.int 0) = some (.int z) := fun m => rfl
  have h01 : decide ((0 : Int) < 1) = true := rfl
  have hs : (0 + 1 + 1 + 1 : Nat) ≤ sizeLine := by decide
  refine ⟨u * g, z % 2305843009213693951 + 39373 * 0 + w, ?_, ?_⟩
  · simp only [run, callD, hP, boxI, List.length_cons, List.length_nil, if_true, List.map_cons, List.map_nil, List.replicate, List.cons_append, List.nil_append]
    simp only [bnd_ok, bndN_ok, of_ok, thn_nx, thn_rt, optR_some, cond3_t, cond3_f, ev_var, ev_lit, ev_bin, ev_cmp, ev_cmp2, ev_and, ev_or, ev_not, ev_ite, ev_tup, ev_lst, ev_ix, ev_callB, ev_callF, ev_isi, evs_nil, evs_cons, ev_sl, optS_some, optM_some, ex_expr, ex_asg, ex_setIx, ex_ret, ex_if, exs_nil, exs_cons,
  bin_add, bin_sub, cmp_gt, cmp_lt, cmp_ge, cmp_le, tru_bl, call_int, call_intB, call_abs, Option.map_some, asgT, List.length_cons, List.length_nil, Nat.zero_add, Nat.reduceAdd, Nat.reduceLT, if_true, List.set_cons_zero, List.set_cons_succ, ge0, geS, hlen, hix, h01, hu, hpw, hg, bin_mul _ ok, bin_mul _ okz, bin_mod _ z1]
    rfl
  · have := Int.emod_nonneg z (b := 2305843009213693951) (by decide)
    have := Int.emod_lt_of_pos z z1
    have : 0 ≤ u * g := by rcases hg0 with rfl | rfl <;> omega
    exact ⟨this, by omega, by omega, by omega, by decide⟩
/-- how a law starts: its first line -/
theorem start_ok {P : Nat → Option DefI} {xb xc L : Nat} {w : Int} {ns : List Int} {r : List (Option D)} (hc : P xc = some cellsI) (hb : P xb = some (boxI w)) (hw : 0 ≤ w) (hw2 : w < 2 ^ 60) (hn : ns.length ≤ 63) (hz : ∀ z ∈ ns, Builtin.Int.intBits z ≤ 1048576) :
    ∃ a b, Tin 1 a b 0 ∧ ex (run P (L + 1)) (.asg (.name 1) (.thaw (.callF xb (.cons (.callF xc (.cons (.var 0) (.cons (.lit (.int 1)) .nil))) (.cons (.lit (.int 0)) .nil))))) (some (.scr ns) :: none :: r) [] = .ok .nx (some (.scr ns) :: some (.ref 0) :: r) [.lst [.int a, .int b, .int 0]] := by
  obtain ⟨z, e1, hz1⟩ := cells_ok (L := L) hc hn hz
  obtain ⟨a, b, e2, t⟩ := box_ok (L := L) hb hw hw2 hz1
  refine ⟨a, b, t, ?_⟩
  rw [ex_asg, ev_thaw, ev_callF, evs_cons, ev_callF, evs_cons, ev_var, ge0, optR_some, bnd_ok, evs_cons, ev_lit, bnd_ok, evs_nil, bnd_ok, bnd_ok, bnd_ok, e1, bnd_ok, evs_cons, ev_lit, bnd_ok, evs_nil, bnd_ok, bnd_ok, bnd_ok, e2, bnd_ok]
  show optS (asgT (.name 1) (.ref 0) (some (.scr ns) :: none :: r)) _ = _
  simp only [asgT, List.length_cons, List.set_cons_succ, List.set_cons_zero]
  rw [if_pos (by omega)]
  rfl
/-- a draw, by its place in the law -/
theorem take_ev {P : Nat → Option DefI} {x L n B : Nat} {m : Mem} {a b c k : Int} (hP : P x = some takeI) (hm : m[n]? = some (.lst [.int a, .int b, .int c])) (t : Tin B a b c) (hB : B ≤ 2 ^ 200) (hk : 0 < k) (hk2 : k < 2 ^ 62) :
    ∃ (v : Nat) (a' c' : Int), run P (L + 1) x [.ref n, .int k] m = .ok (.int (v : Int)) (m.set n (.lst [.int a', .int b, .int c'])) ∧ (v : Int) < k ∧ Tin (B + 1) a' b c' := by
  obtain ⟨v, a', c', e, h1, h2, t2⟩ := take_ok (L := L) hP hm t hB hk hk2
  refine ⟨v.toNat, a', c', ?_, by omega, t2⟩
  rw [e, Int.toNat_of_nonneg h1]
def ofI (x : Nat) : DefI := ⟨2, 2, false, .cons (.ret false (.ix (.var 1) (.callF x (.cons (.var 0) (.cons (.callB .len (.cons (.var 1) .nil)) .nil))))) .nil⟩
/-- one of a list -/
theorem of_ok2 {P : Nat → Option DefI} {x y L n B : Nat} {m : Mem} {a b c : Int} {ds : List D} (hP : P x = some takeI) (hQ : P y = some (ofI x)) (hm : m[n]? = some (.lst [.int a, .int b, .int c])) (t : Tin B a b c) (hB : B ≤ 2 ^ 200) (hk : 0 < ds.length) (hk2 : ds.length < 2 ^ 60) (hd : ∀ d ∈ ds, ∀ n, d ≠ .ref n) :
    ∃ (v : Nat) (hv : v < ds.length) (a' c' : Int), run P (L + 2) y [.ref n, .lst ds] m = .ok ds[v] (m.set n (.lst [.int a', .int b, .int c'])) ∧ Tin (B + 1) a' b c' := by
  obtain ⟨v, a', c', e, h2, t2⟩ := take_ev (L := L) hP hm t hB (k := (ds.length : Int)) (by omega) (by omega)
  have hv : v < ds.length := by omega
  refine ⟨v, hv, a', c', ?_, t2⟩
  have hlen : ∀ m, callV .len m [.lst ds] = some (.int (ds.length : Nat), m) := fun m => rfl
  have hix : ∀ m, ixV m (.lst ds) (.int (v : Int)) = some ds[v] := fun m => by
    show atI ds (v : Int) = _
    simp [atI, ixN, hv]
  rw [show L + 2 = (L + 1) + 1 from rfl, run, callD, hQ]
  simp only [ofI, List.length_cons, List.length_nil, if_true, List.map_cons, List.map_nil, List.replicate, List.cons_append, List.nil_append, List.append_nil, Nat.sub_self]
  rw [exs_cons, ex_ret, ev_ix, ev_var, geS, ge0, optR_some, bnd_ok, ev_callF, evs_cons, ev_var, ge0, optR_some, bnd_ok, evs_cons, ev_callB, evs_cons, ev_var, geS, ge0, optR_some, bnd_ok, evs_nil, bnd_ok, bnd_ok, hlen]
  simp only [bnd_ok, evs_nil, e, hix, optR_some, of_ok, thn_rt]
  rw [clean_keep (by simp) (hd _ (List.getElem_mem hv))]
  rfl
end MP

/-! What a def gives, at any memory: the steps for it. -/
namespace MP
open PySem L2 PySem.Spec PyProof.Rows
variable {κ : Bool}
/-- no thing here leads out -/
def WF (κ : Bool) (m : Mem) : Prop := m.all (bndO m.length) = true ∧ (κ = true → m.all noO = true)
/-- nothing in it may change -/
def Fx (d : D) : Prop := ∀ k, bndD k d = true
mutual
theorem bndD_mono {k l : Nat} (h : k ≤ l) : ∀ d, bndD k d = true → bndD l d = true
  | .ref n => fun e => by simp only [bndD, decide_eq_true_eq] at e ⊢; omega
  | .tup ds => fun e => by simp only [bndD] at e ⊢; exact bndDs_mono h ds e
  | .wtup ds => fun e => by simp only [bndD] at e ⊢; exact bndDs_mono h ds e
  | .lst ds => fun e => by simp only [bndD] at e ⊢; exact bndDs_mono h ds e
  | .non | .bl _ | .int _ | .str _ | .scr _ | .fn _ | .ty _ => fun _ => by simp [bndD]
theorem bndDs_mono {k l : Nat} (h : k ≤ l) : ∀ ds, bndDs k ds = true → bndDs l ds = true
  | [] => fun _ => by simp [bndDs]
  | d :: ds => fun e => by
    simp only [bndDs, Bool.and_eq_true] at e ⊢
    exact ⟨bndD_mono h d e.1, bndDs_mono h ds e.2⟩
end
theorem bndO_mono {k l : Nat} (h : k ≤ l) : ∀ o, bndO k o = true → bndO l o = true
  | .lst ds => bndDs_mono h ds
  | .dic kvs => bndDs_mono h _
  | .fdic kvs => bndDs_mono h _
  | .acc ds => bndDs_mono h ds
theorem bndDs_iff {k : Nat} : ∀ {ds : List D}, bndDs k ds = true ↔ ∀ d ∈ ds, bndD k d = true
  | [] => by simp [bndDs]
  | d :: ds => by simp [bndDs, bndDs_iff (ds := ds)]
theorem WF.push {m : Mem} (w : WF κ m) {o : O} (h : ∀ k, bndO k o = true) (h2 : κ = true → noO o = true) : WF κ (m ++ [o]) := by
  refine ⟨?_, fun hk => ?_⟩
  · rw [List.all_append, Bool.and_eq_true]
    refine ⟨List.all_eq_true.mpr fun x hx => ?_, by simp [h]⟩
    exact bndO_mono (by simp) x (List.all_eq_true.mp w.1 x hx)
  · rw [List.all_append, Bool.and_eq_true]
    exact ⟨w.2 hk, by simp [h2 hk]⟩
theorem Fx.int (i : Int) : Fx (.int i) := fun _ => by simp [bndD]
theorem Fx.bl (i : Bool) : Fx (.bl i) := fun _ => by simp [bndD]
theorem Fx.non : Fx .non := fun _ => by simp [bndD]
theorem Fx.str (x : Str) : Fx (.str x) := fun _ => by simp [bndD]
theorem Fx.tup {ds : List D} (h : ∀ d ∈ ds, Fx d) : Fx (.tup ds) := fun k => by
  simp only [bndD]
  exact bndDs_iff.mpr fun d hd => h d hd k
theorem Fx.lst {ds : List D} (h : ∀ d ∈ ds, Fx d) : Fx (.lst ds) := fun k => by
  simp only [bndD]
  exact bndDs_iff.mpr fun d hd => h d hd k
theorem Fx.noref {d : D} (h : Fx d) : ∀ n, d ≠ .ref n := fun n e => by
  subst e
  have := h 0
  simp [bndD] at this
/-- nothing in it may change, and it has no list within where that is asked -/
def Fk (κ : Bool) (d : D) : Prop := Fx d ∧ (κ = true → noL d = true)
theorem Fk.int (i : Int) : Fk κ (.int i) := ⟨Fx.int i, fun _ => by simp [noL]⟩
theorem Fk.bl (i : Bool) : Fk κ (.bl i) := ⟨Fx.bl i, fun _ => by simp [noL]⟩
theorem noLs_iff : ∀ {ds : List D}, noLs ds = true ↔ ∀ d ∈ ds, noL d = true
  | [] => by simp [noLs]
  | d :: ds => by simp [noLs, noLs_iff (ds := ds)]
theorem Fk.tup {ds : List D} (h : ∀ d ∈ ds, Fk κ d) : Fk κ (.tup ds) := ⟨Fx.tup fun d hd => (h d hd).1, fun hk => by
  simp only [noL]
  exact noLs_iff.mpr fun d hd => (h d hd).2 hk⟩
/-- the def x, given ds, gives r and changes nothing -/
def Gv (κ : Bool) (P : Nat → Option DefI) (L x : Nat) (ds : List D) (r : D) : Prop := ∀ m, WF κ m → run P L x ds m = .ok r m
/-- e gives r and changes nothing -/
def Ev (κ : Bool) (C : Nat → List D → Mem → Res D) (e : Ex) (env : Env) (r : D) : Prop := ∀ m, WF κ m → ev C e env m = .ok r m
def Evs (κ : Bool) (C : Nat → List D → Mem → Res D) (e : Exs) (env : Env) (r : List D) : Prop := ∀ m, WF κ m → evs C e env m = .ok r m
/-- a source of known items -/
def SrL (κ : Bool) (C : Nat → List D → Mem → Res D) (s : Sr) (env : Env) (xs : List D) : Prop := ∀ m, WF κ m → ∃ v, evSr C s env m = .ok v m ∧ ∀ m' i, v.at m' i = some xs[i]?
section
variable {C : Nat → List D → Mem → Res D} {env : Env}
theorem loopC {α : Type} {g f : α → D} {p : α → Bool} {tg : Tg} {own : List Nat} {ifs : Exs} {elt : Ex} {v : SrcV} {m : Mem} (ys : List α)
    (hv : ∀ acc i, v.at (m ++ [O.acc acc]) i = some (ys.map g)[i]?)
    (h : ∀ y ∈ ys, ∃ env', asgT tg (g y) (wipeE env own) = some env' ∧ (∀ m', WF κ m' → evTs C ifs env' m' = .ok (p y) m') ∧ (p y = true → Ev κ C elt env' (f y) ∧ Fk κ (f y)))
    (w : WF κ m) (hl : ys.length ≤ sizeLine) : ∀ (n i : Nat) (acc : List D), i ≤ ys.length → ys.length - i < n → acc.length ≤ i → (∀ d ∈ acc, Fk κ d) →
    compLoop m.length v tg own env (fun env' m' => evTs C ifs env' m') (fun env' m' => ev C elt env' m') n i (m ++ [.acc acc]) = .ok () (m ++ [.acc ((((ys.drop i).filter p).map f).reverse ++ acc)]) := by
  intro n
  induction n with
  | zero => intro i acc h1 h2; omega
  | succ n ih =>
    intro i acc h1 h2 h3 h4
    unfold compLoop
    have wa : WF κ (m ++ [.acc acc]) := w.push (fun k => bndDs_iff.mpr fun d hd => (h4 d hd).1 k) fun hk => noLs_iff.mpr fun d hd => (h4 d hd).2 hk
    rw [hv, List.getElem?_map]
    by_cases hi : i < ys.length
    · rw [List.getElem?_eq_getElem hi]
      obtain ⟨env', e1, e2, e3⟩ := h ys[i] (List.getElem_mem hi)
      simp only [Option.map_some, e1]
      have hdr : ys.drop i = ys[i] :: ys.drop (i + 1) := List.drop_eq_getElem_cons hi
      rw [e2 _ wa, bndN_ok]
      by_cases hp : p ys[i] = true
      · obtain ⟨e4, e5⟩ := e3 hp
        have hg : (m ++ [O.acc acc])[m.length]? = some (.acc acc) := by simp
        simp only [hp, if_true, e4 _ wa, bndN_ok, hg]
        rw [if_pos (by omega)]
        have : (m ++ [O.acc acc]).set m.length (.acc (f ys[i] :: acc)) = m ++ [O.acc (f ys[i] :: acc)] := by
          rw [List.set_append_right _ _ (Nat.le_refl _), Nat.sub_self, List.set_cons_zero]
        rw [this, ih (i + 1) _ (by omega) (by omega) (by simp; omega) (by
          intro d hd
          rcases List.mem_cons.mp hd with rfl | hd
          · exact e5
          · exact h4 d hd), hdr, List.filter_cons, if_pos hp]
        simp only [List.map_cons, List.reverse_cons, List.append_assoc, List.singleton_append]
      · simp only [hp, if_neg, Bool.false_eq_true]
        rw [if_neg (by simp), ih (i + 1) acc (by omega) (by omega) (by omega) h4, hdr, List.filter_cons, if_neg hp]
    · have : ys.length = i := by omega
      rw [List.getElem?_eq_none (by omega), List.drop_eq_nil_of_le (by omega)]
      simp
/-- a comprehension, at one memory -/
theorem comp_at {α : Type} {g f : α → D} {p : α → Bool} {tg : Tg} {src : Sr} {own : List Nat} {ifs : Exs} {elt : Ex} {v : SrcV} {m : Mem} (ys : List α)
    (e1 : evSr C src env m = .ok v m) (e2 : ∀ acc i, v.at (m ++ [O.acc acc]) i = some (ys.map g)[i]?)
    (h : ∀ y ∈ ys, ∃ env', asgT tg (g y) (wipeE env own) = some env' ∧ (∀ m', WF κ m' → evTs C ifs env' m' = .ok (p y) m') ∧ (p y = true → Ev κ C elt env' (f y) ∧ Fk κ (f y)))
    (hl : ys.length ≤ sizeLine) (hl2 : ys.length < turnsMax) (w : WF κ m) : ev C (.comp tg src ifs elt own) env m = .ok (.lst ((ys.filter p).map f)) m := by
  rw [ev, e1, bnd_ok]
  have hfx : ∀ d ∈ (ys.filter p).map f, Fx d := fun d hd => by
    obtain ⟨y, hy, rfl⟩ := List.mem_map.mp hd
    obtain ⟨hy1, hy2⟩ := List.mem_filter.mp hy
    obtain ⟨_, _, _, e3⟩ := h y hy1
    exact (e3 hy2).2.1
  rw [loopC ys e2 h w hl turnsMax 0 [] (Nat.zero_le _) (by omega) (Nat.zero_le _) (by simp), bndN_ok]
  unfold compEnd
  have hg : ∀ o : O, (m ++ [o])[m.length]? = some o := fun o => by simp
  rw [hg]
  simp only [List.append_nil, List.reverse_reverse, List.drop_zero]
  have : ∀ o : O, (m ++ [o]).set m.length (.lst ((ys.filter p).map f)) = m ++ [.lst ((ys.filter p).map f)] := fun o => by
    rw [List.set_append_right _ _ (Nat.le_refl _), Nat.sub_self, List.set_cons_zero]
  rw [this]
  unfold clean
  have ht : (m ++ [O.lst ((ys.filter p).map f)]).take m.length = m := by simp
  rw [ht]
  rw [if_pos w.1]
  simp only [hg, Nat.lt_irrefl, if_false]
  rw [if_pos (bndDs_iff.mpr fun d hd => hfx d hd _)]
/-- a comprehension -/
theorem Ev.comp {α : Type} {g f : α → D} {p : α → Bool} {tg : Tg} {src : Sr} {own : List Nat} {ifs : Exs} {elt : Ex} (ys : List α)
    (hs : SrL κ C src env (ys.map g))
    (h : ∀ y ∈ ys, ∃ env', asgT tg (g y) (wipeE env own) = some env' ∧ (∀ m', WF κ m' → evTs C ifs env' m' = .ok (p y) m') ∧ (p y = true → Ev κ C elt env' (f y) ∧ Fk κ (f y)))
    (hl : ys.length ≤ sizeLine) (hl2 : ys.length < turnsMax) : Ev κ C (.comp tg src ifs elt own) env (.lst ((ys.filter p).map f)) := by
  intro m w
  obtain ⟨v, e1, e2⟩ := hs m w
  exact comp_at ys e1 (fun acc i => e2 _ i) h hl hl2 w
end
end MP

/-! What an expression gives, at any memory. -/
namespace MP
open PySem L2 PySem.Spec PyProof.Rows
variable {κ : Bool}
section
variable {C : Nat → List D → Mem → Res D} {env : Env}
theorem Ev.var {i : Nat} {d : D} (h : envGet env i = some d) : Ev κ C (.var i) env d := fun m _ => by rw [ev_var, h, optR_some]
theorem Ev.lit (d : D) : Ev κ C (.lit d) env d := fun m _ => ev_lit ..
theorem Ev.bin {o : BO} {a b : Ex} {x y d : D} (ha : Ev κ C a env x) (hb : Ev κ C b env y) (h : ∀ m, binV o m x y = some d) : Ev κ C (.bin o a b) env d := fun m w => by
  rw [ev_bin, ha m w, bnd_ok, hb m w, bnd_ok, h, optR_some]
theorem Ev.cmp {o : CO} {a b : Ex} {x y : D} {c : Bool} (ha : Ev κ C a env x) (hb : Ev κ C b env y) (h : ∀ m, cmpV o m x y = some c) : Ev κ C (.cmp o a b) env (.bl c) := fun m w => by
  rw [ev_cmp, ha m w, bnd_ok, hb m w, bnd_ok, h, Option.map_some, optR_some]
theorem Ev.notE {a : Ex} {x : D} {c : Bool} (ha : Ev κ C a env x) (h : ∀ m, truV m x = some c) : Ev κ C (.notE a) env (.bl (!c)) := fun m w => by
  rw [ev_not, ha m w, bnd_ok, h, Option.map_some, optR_some]
theorem Ev.ite {c a b : Ex} {x d : D} {t : Bool} (hc : Ev κ C c env x) (h : ∀ m, truV m x = some t) (ha : t = true → Ev κ C a env d) (hb : t = false → Ev κ C b env d) : Ev κ C (.ite c a b) env d := fun m w => by
  rw [ev_ite, hc m w, bnd_ok, h]
  cases t with
  | true => exact ha rfl m w
  | false => exact hb rfl m w
theorem Ev.andE {a b : Ex} {x d : D} {t : Bool} (ha : Ev κ C a env x) (h : ∀ m, truV m x = some t) (h1 : t = true → Ev κ C b env d) (h2 : t = false → x = d) : Ev κ C (.andE a b) env d := fun m w => by
  rw [ev_and, ha m w, bnd_ok, h]
  cases t with
  | true => exact h1 rfl m w
  | false => rw [cond3_f, h2 rfl]
theorem Ev.orE {a b : Ex} {x d : D} {t : Bool} (ha : Ev κ C a env x) (h : ∀ m, truV m x = some t) (h1 : t = true → x = d) (h2 : t = false → Ev κ C b env d) : Ev κ C (.orE a b) env d := fun m w => by
  rw [ev_or, ha m w, bnd_ok, h]
  cases t with
  | true => rw [cond3_t, h1 rfl]
  | false => exact h2 rfl m w
theorem Evs.nil : Evs κ C .nil env [] := fun m _ => evs_nil ..
theorem Evs.cons {e : Ex} {es : Exs} {d : D} {ds : List D} (h : Ev κ C e env d) (hs : Evs κ C es env ds) : Evs κ C (.cons e es) env (d :: ds) := fun m w => by
  rw [evs_cons, h m w, bnd_ok, hs m w, bnd_ok]
theorem Ev.tup {es : Exs} {ds : List D} (h : Evs κ C es env ds) (hl : ds.length ≤ sizeLine) : Ev κ C (.tup es) env (.tup ds) := fun m w => by
  rw [ev_tup, h m w, bnd_ok, if_pos hl]
theorem Ev.lst {es : Exs} {ds : List D} (h : Evs κ C es env ds) (hl : ds.length ≤ sizeLine) : Ev κ C (.lst es) env (.lst ds) := fun m w => by
  rw [ev_lst, h m w, bnd_ok, if_pos hl]
theorem Ev.ix {a i : Ex} {x y d : D} (ha : Ev κ C a env x) (hi : Ev κ C i env y) (h : ∀ m, ixV m x y = some d) : Ev κ C (.ix a i) env d := fun m w => by
  rw [ev_ix, ha m w, bnd_ok, hi m w, bnd_ok, h, optR_some]
theorem Ev.sl {a : Ex} {lo hi : Exs} {x d : D} {l h : List D} {l' h' : List Int} (ha : Ev κ C a env x) (h1 : Evs κ C lo env l) (h2 : Evs κ C hi env h) (i1 : ints? l = some l') (i2 : ints? h = some h') (hd : ∀ m, slV m x l'.head? h'.head? = some d) : Ev κ C (.sl a lo hi) env d := fun m w => by
  rw [ev_sl, ha m w, bnd_ok, h1 m w, bnd_ok, i1, optR_some, bnd_ok, h2 m w, bnd_ok, i2, optR_some, bnd_ok, hd, optR_some]
theorem Ev.callB {b : B} {es : Exs} {ds : List D} {d : D} (h : Evs κ C es env ds) (hd : ∀ m, callV b m ds = some (d, m)) : Ev κ C (.callB b es) env d := fun m w => by
  rw [ev_callB, h m w, bnd_ok, hd]
theorem Ev.callF {P : Nat → Option DefI} {L x : Nat} {es : Exs} {ds : List D} {d : D} (h : Evs κ (run P L) es env ds) (g : Gv κ P L x ds d) : Ev κ (run P L) (.callF x es) env d := fun m w => by
  rw [ev_callF, h m w, bnd_ok, g m w]
theorem Ev.meth {k : M} {o : Ex} {es : Exs} {x d : D} {ds : List D} {T : String} (ho : Ev κ C o env x) (hT : ∀ m, mCls m x = some T) (hk : methOk k T = true) (h : Evs κ C es env ds) (hd : ∀ m, methV k m x ds = some (d, m)) : Ev κ C (.meth k o es) env d := fun m w => by
  rw [ev, ho m w, bnd_ok, hT]
  simp only [hk, if_true, h m w, bnd_ok, hT, hd]
theorem SrL.tup {e : Ex} {ds : List D} (h : Ev κ C e env (.tup ds)) : SrL κ C (.of e) env ds := fun m w => ⟨.tup ds, by rw [evSr, h m w, bnd_ok]; rfl, fun _ _ => rfl⟩
theorem SrL.lst {e : Ex} {ds : List D} (h : Ev κ C e env (.lst ds)) : SrL κ C (.of e) env ds := fun m w => ⟨.lst ds, by rw [evSr, h m w, bnd_ok]; rfl, fun _ _ => rfl⟩
theorem SrL.rng1 {e : Ex} {n : Nat} (h : Ev κ C e env (.int n)) (hn : n < 2 ^ 60) : SrL κ C (.rng1 e) env ((List.range n).map fun i => D.int (i : Nat)) := fun m w => ⟨.rng 0 n, by
  rw [evSr, h m w, bnd_ok]
  have : rngOk 0 (n : Int) = true := by
    unfold rngOk
    simp only [Bool.and_eq_true, decide_eq_true_eq]
    omega
  simp only [this, if_true]
  rfl, fun m' i => by
  simp only [SrcV.at]
  by_cases hi : i < n
  · simp [hi]
  · simp [hi]⟩
theorem Evt.nil {m : Mem} : evTs C .nil env m = .ok true m := by rw [evTs]
theorem Evt.one {e : Ex} {x : D} {c : Bool} (h : Ev κ C e env x) (ht : ∀ m, truV m x = some c) : ∀ m, WF κ m → evTs C (.cons e .nil) env m = .ok c m := fun m w => by
  rw [evTs, h m w, bnd_ok, ht]
  cases c with
  | true => exact Evt.nil
  | false => rfl
end
/-- a def that is one return -/
theorem Gv.ret {P : Nat → Option DefI} {L x a s : Nat} {ff fr : Bool} {e : Ex} {ds : List D} {d : D} (hP : P x = some ⟨a, s, ff, .cons (.ret fr e) .nil⟩) (ha : ds.length = a) (h : Ev κ (run P L) e (ds.map some ++ List.replicate (s - ds.length) none) d) (hd : Fx d) (hf : (ff && !fr && isL d) = false) : Gv κ P (L + 1) x ds d := fun m w => by
  rw [run, callD, hP]
  simp only [ha, if_true]
  rw [exs_cons, ex_ret, ← ha, h m w, of_ok, thn_rt]
  simp only [hf, Bool.false_eq_true, if_false]
  rw [clean_keep (Nat.le_refl _) hd.noref]
/-! ### rows of numbers -/
/-- a row of numbers -/
def tN (xs : List Nat) : D := .tup (xs.map fun (n : Nat) => D.int (n : Nat))
theorem Fx.tN (xs : List Nat) : Fx (tN xs) := Fx.tup fun d hd => by
  obtain ⟨n, _, rfl⟩ := List.mem_map.mp hd
  exact Fx.int _
theorem len_tN (xs : List Nat) (m : Mem) : callV .len m [tN xs] = some (.int (xs.length : Nat), m) := by
  show some (D.int ((xs.map fun (n : Nat) => D.int (n : Nat)).length : Nat), m) = _
  rw [List.length_map]
theorem ix_tN {xs : List Nat} {i : Nat} (hi : i < xs.length) (m : Mem) : ixV m (tN xs) (.int (i : Nat)) = some (.int (xs[i] : Nat)) := by
  show atI (xs.map fun (n : Nat) => D.int (n : Nat)) (i : Int) = _
  simp [atI, ixN, hi]
theorem ints_tN (xs : List Nat) : ints? (xs.map fun (n : Nat) => D.int (n : Nat)) = some (xs.map fun (n : Nat) => (n : Int)) := by
  induction xs with
  | nil => rfl
  | cons x xs ih =>
    simp only [List.map_cons, ints?, ih, Option.map_some]
theorem findIdx_lt {xs : List Nat} {y : Nat} (h : y ∈ xs) : (xs.map fun (n : Nat) => (n : Int)).findIdx? (· == (y : Int)) = some (xs.idxOf y) := by
  induction xs with
  | nil => simp at h
  | cons x xs ih =>
    rw [List.map_cons, List.findIdx?_cons]
    by_cases hx : x = y
    · subst hx
      simp
    · have h2 : y ∈ xs := by
        rcases List.mem_cons.mp h with rfl | h
        · exact absurd rfl hx
        · exact h
      have hne : ((x : Int) == (y : Int)) = false := by
        simp only [beq_eq_false_iff_ne, ne_eq]
        omega
      rw [if_neg (by simp [hne]), ih h2, Option.map_some, List.idxOf_cons]
      have : (x == y) = false := by simpa using hx
      rw [this]
      rfl
theorem index_tN {xs : List Nat} {y : Nat} (h : y ∈ xs) (m : Mem) : methV .index m (tN xs) [.int (y : Nat)] = some (.int (xs.idxOf y : Nat), m) := by
  show (match ints? (xs.map fun (n : Nat) => D.int (n : Nat)) with | some ns => (ns.findIdx? (· == ((y : Nat) : Int))).map fun j => (D.int (j : Nat), m) | _ => none) = _
  rw [ints_tN]
  simp only [findIdx_lt h, Option.map_some]
end MP

/-! Small defs of many laws. -/
namespace MP
open PySem L2 PySem.Spec PyProof.Rows
variable {κ : Bool}
/-- a comprehension with no test -/
theorem Ev.comp0 {C : Nat → List D → Mem → Res D} {env : Env} {α : Type} {g f : α → D} {tg : Tg} {src : Sr} {own : List Nat} {elt : Ex} (ys : List α)
    (hs : SrL κ C src env (ys.map g)) (h : ∀ y ∈ ys, ∃ env', asgT tg (g y) (wipeE env own) = some env' ∧ Ev κ C elt env' (f y) ∧ Fk κ (f y))
    (hl : ys.length ≤ 1000000) : Ev κ C (.comp tg src .nil elt own) env (.lst (ys.map f)) := by
  have := Ev.comp (C := C) (env := env) (p := fun _ => true) (g := g) (f := f) (ifs := .nil) (own := own) (tg := tg) (elt := elt) ys hs (fun y hy => by
    obtain ⟨env', e1, e2⟩ := h y hy
    exact ⟨env', e1, fun m w => Evt.nil, fun _ => e2⟩) (Nat.le_trans hl (by rw [sizeLine_eq]; omega)) (by unfold turnsMax; omega)
  rw [List.filter_eq_self.mpr fun _ _ => rfl] at this
  exact this
theorem tuple_lst (ds : List D) (m : Mem) : callV .tuple m [.lst ds] = some (.tup ds, m) := rfl
def behindI : DefI := ⟨2, 3, false, (.cons (.ret true (.callB .tuple (.cons (.comp (.name 2) (.of (.var 0)) .nil (.ix (.var 1) (.var 2)) [2]) .nil))) .nil)⟩
def backI : DefI := ⟨1, 2, false, (.cons (.ret true (.callB .tuple (.cons (.comp (.name 1) (.rng1 (.callB .len (.cons (.var 0) .nil))) .nil (.meth .index (.var 0) (.cons (.var 1) .nil)) [1]) .nil))) .nil)⟩
def turnedI (x y : Nat) : DefI := ⟨2, 2, false, (.cons (.ret false (.callF x (.cons (.callF x (.cons (.callF y (.cons (.var 1) .nil)) (.cons (.var 0) .nil))) (.cons (.var 1) .nil)))) .nil)⟩
/-- one behind the other -/
def behind (one two : List Nat) : List Nat := one.map fun i => two.getD i 0
def back (o : List Nat) : List Nat := (List.range o.length).map fun i => o.idxOf i
def turned (o p : List Nat) : List Nat := behind (behind (back p) o) p
theorem behind_gv {P : Nat → Option DefI} {L x : Nat} {one two : List Nat} (hP : P x = some behindI) (h : ∀ i ∈ one, i < two.length) (hl : one.length ≤ 1000) : Gv κ P (L + 1) x [tN one, tN two] (tN (behind one two)) := by
  refine Gv.ret hP rfl (Ev.callB (Evs.cons (Ev.comp0 (g := fun (n : Nat) => D.int n) (f := fun (n : Nat) => D.int (two.getD n 0 : Nat)) one (SrL.tup (Ev.var rfl)) (fun y hy => ⟨_, rfl, Ev.ix (Ev.var rfl) (Ev.var rfl) (fun m => ?_), Fk.int _⟩) (by omega)) Evs.nil) (fun m => ?_)) (Fx.tN _) rfl
  · rw [ix_tN (h y hy)]
    simp [List.getD, h y hy]
  · rw [tuple_lst]
    simp [behind, tN]
theorem back_gv {P : Nat → Option DefI} {L x : Nat} {o : List Nat} (hP : P x = some backI) (h : ∀ i, i < o.length → i ∈ o) (hl : o.length ≤ 1000) : Gv κ P (L + 1) x [tN o] (tN (back o)) := by
  refine Gv.ret hP rfl (Ev.callB (Evs.cons (Ev.comp0 (g := fun (n : Nat) => D.int n) (f := fun (n : Nat) => D.int (o.idxOf n : Nat)) (List.range o.length) (SrL.rng1 (Ev.callB (Evs.cons (Ev.var rfl) Evs.nil) (len_tN o)) (by omega)) (fun y hy => ⟨_, rfl, Ev.meth (Ev.var rfl) (fun m => rfl) rfl (Evs.cons (Ev.var rfl) Evs.nil) (index_tN (h y (List.mem_range.mp hy))), Fk.int _⟩) (by simp; omega)) Evs.nil) (fun m => ?_)) (Fx.tN _) rfl
  rw [tuple_lst]
  simp [back, tN]
/-- an order of n things -/
def isOrd (n : Nat) (o : List Nat) : Prop := o.length = n ∧ (∀ i ∈ o, i < n) ∧ (∀ i, i < n → i ∈ o) ∧ o.Nodup
theorem isOrd.back {n : Nat} {o : List Nat} (h : isOrd n o) : (MP.back o).length = n ∧ ∀ i ∈ MP.back o, i < n := by
  obtain ⟨rfl, h1, h2⟩ := h
  refine ⟨by simp [MP.back], fun i hi => ?_⟩
  obtain ⟨j, hj, rfl⟩ := List.mem_map.mp hi
  exact List.idxOf_lt_length_of_mem (h2.1 j (List.mem_range.mp hj))
theorem behind_lt {n : Nat} {one two : List Nat} (h : ∀ i ∈ one, i < two.length) (h2 : ∀ i ∈ two, i < n) : ∀ i ∈ behind one two, i < n := fun i hi => by
  obtain ⟨j, hj, rfl⟩ := List.mem_map.mp hi
  have : two.getD j 0 = two[j]'(h j hj) := by simp [List.getD, h j hj]
  rw [this]
  exact h2 _ (List.getElem_mem _)
theorem behind_len (one two : List Nat) : (behind one two).length = one.length := by simp [behind]
theorem turned_gv {P : Nat → Option DefI} {L x y z n : Nat} {o p : List Nat} (hB : P x = some behindI) (hK : P y = some backI) (hP : P z = some (turnedI x y)) (ho : isOrd n o) (hp : isOrd n p) (hn : n ≤ 1000) : Gv κ P (L + 2) z [tN o, tN p] (tN (turned o p)) := by
  obtain ⟨l1, l2⟩ := hp.back
  have g1 : ∀ i ∈ MP.back p, i < o.length := fun i hi => by rw [ho.1]; exact l2 i hi
  have g2 : ∀ i ∈ behind (MP.back p) o, i < p.length := by
    rw [hp.1]
    exact behind_lt g1 ho.2.1
  exact Gv.ret hP rfl (Ev.callF (Evs.cons (Ev.callF (Evs.cons (Ev.callF (Evs.cons (Ev.var rfl) Evs.nil) (back_gv hK (fun i hi => hp.2.2.1 i (hp.1 ▸ hi)) (by rw [hp.1]; exact hn))) (Evs.cons (Ev.var rfl) Evs.nil)) (behind_gv hB g1 (by omega))) (Evs.cons (Ev.var rfl) Evs.nil)) (behind_gv hB g2 (by rw [behind_len]; omega))) (Fx.tN _) rfl
end MP

/-! What statements do, at any memory; the laws' own comparison. -/
namespace MP
open PySem L2 PySem.Spec PyProof.Rows
variable {κ : Bool}
/-- the suite returns d and changes nothing -/
def Xr (κ : Bool) (C : Nat → List D → Mem → Res D) (ss : Sts) (env : Env) (fr : Bool) (d : D) : Prop := ∀ m, WF κ m → ∃ env', exs C ss env m = .ok (.rt fr d) env' m
/-- the suite goes on and changes nothing but names -/
def Xn (κ : Bool) (C : Nat → List D → Mem → Res D) (ss : Sts) (env env' : Env) : Prop := ∀ m, WF κ m → exs C ss env m = .ok .nx env' m
section
variable {C : Nat → List D → Mem → Res D} {env env' : Env}
theorem Xn.nil : Xn κ C .nil env env := fun m w => exs_nil ..
theorem Xn.asg {t : Tg} {e : Ex} {ss : Sts} {d : D} {env1 : Env} (h : Ev κ C e env d) (ha : asgT t d env = some env1) (hs : Xn κ C ss env1 env') : Xn κ C (.cons (.asg t e) ss) env env' := fun m w => by
  rw [exs_cons, ex_asg, h m w, of_ok, ha, optS_some, thn_nx, hs m w]
theorem Xr.ret {fr : Bool} {e : Ex} {ss : Sts} {d : D} (h : Ev κ C e env d) : Xr κ C (.cons (.ret fr e) ss) env fr d := fun m w => ⟨env, by
  rw [exs_cons, ex_ret, h m w, of_ok, thn_rt]⟩
theorem Xr.asg {t : Tg} {e : Ex} {ss : Sts} {d r : D} {fr : Bool} {env1 : Env} (h : Ev κ C e env d) (ha : asgT t d env = some env1) (hs : Xr κ C ss env1 fr r) : Xr κ C (.cons (.asg t e) ss) env fr r := fun m w => by
  rw [exs_cons, ex_asg, h m w, of_ok, ha, optS_some, thn_nx]
  exact hs m w
theorem Xr.ifT {c : Ex} {a b ss : Sts} {x r : D} {fr : Bool} (h : Ev κ C c env x) (ht : ∀ m, truV m x = some true) (ha : Xr κ C a env fr r) : Xr κ C (.cons (.ifS c a b) ss) env fr r := fun m w => by
  obtain ⟨env1, e⟩ := ha m w
  refine ⟨env1, ?_⟩
  rw [exs_cons, ex_if, h m w, of_ok, ht, cond3_t, e, thn_rt]
theorem Xr.ifF {c : Ex} {a b ss : Sts} {x r : D} {fr : Bool} (h : Ev κ C c env x) (ht : ∀ m, truV m x = some false) (hb : Xr κ C b env fr r) : Xr κ C (.cons (.ifS c a b) ss) env fr r := fun m w => by
  obtain ⟨env1, e⟩ := hb m w
  refine ⟨env1, ?_⟩
  rw [exs_cons, ex_if, h m w, of_ok, ht, cond3_f, e, thn_rt]
theorem Xr.skT {c : Ex} {a b ss : Sts} {x r : D} {fr : Bool} {env1 : Env} (h : Ev κ C c env x) (ht : ∀ m, truV m x = some true) (ha : Xn κ C a env env1) (hs : Xr κ C ss env1 fr r) : Xr κ C (.cons (.ifS c a b) ss) env fr r := fun m w => by
  rw [exs_cons, ex_if, h m w, of_ok, ht, cond3_t, ha m w, thn_nx]
  exact hs m w
theorem Xr.skF {c : Ex} {a b ss : Sts} {x r : D} {fr : Bool} {env1 : Env} (h : Ev κ C c env x) (ht : ∀ m, truV m x = some false) (hb : Xn κ C b env env1) (hs : Xr κ C ss env1 fr r) : Xr κ C (.cons (.ifS c a b) ss) env fr r := fun m w => by
  rw [exs_cons, ex_if, h m w, of_ok, ht, cond3_f, hb m w, thn_nx]
  exact hs m w
theorem Ev.isi {a : Ex} {ts : List Ty} {x : D} {c : Bool} (h : Ev κ C a env x) (ht : ∀ m, isAny m x ts = some c) : Ev κ C (.isi a ts) env (.bl c) := fun m w => by
  rw [ev_isi, h m w, bnd_ok, ht, Option.map_some, optR_some]
theorem zip_same {v u : SrcV} {ds : List D} (h1 : ∀ m' i, v.at m' i = some ds[i]?) (h2 : ∀ m' i, u.at m' i = some ds[i]?) (m' : Mem) (i : Nat) : (SrcV.zp v u).at m' i = some (ds.map fun d => D.wtup [d, d])[i]? := by
  simp only [SrcV.at, h1, h2, List.getElem?_map]
  cases ds[i]? <;> rfl
theorem SrL.zipT {a b : Ex} {ds : List D} (h1 : Ev κ C a env (.tup ds)) (h2 : Ev κ C b env (.tup ds)) : SrL κ C (.zip a b) env (ds.map fun d => D.wtup [d, d]) := fun m w => ⟨.zp (.tup ds) (.tup ds), by rw [evSr, h1 m w, bnd_ok, h2 m w, bnd_ok]; rfl, zip_same (fun _ _ => rfl) fun _ _ => rfl⟩
theorem SrL.zipL {a b : Ex} {ds : List D} (h1 : Ev κ C a env (.lst ds)) (h2 : Ev κ C b env (.lst ds)) : SrL κ C (.zip a b) env (ds.map fun d => D.wtup [d, d]) := fun m w => ⟨.zp (.lst ds) (.lst ds), by rw [evSr, h1 m w, bnd_ok, h2 m w, bnd_ok]; rfl, zip_same (fun _ _ => rfl) fun _ _ => rfl⟩
end
/-- a def by its suite -/
theorem Gv.of {P : Nat → Option DefI} {L x : Nat} {I : DefI} {fr : Bool} {ds : List D} {d : D} (hP : P x = some I) (ha : ds.length = I.arity) (h : Xr κ (run P L) I.body (ds.map some ++ List.replicate (I.slots - ds.length) none) fr d) (hd : Fx d) (hf : (I.ff && !fr && isL d) = false) : Gv κ P (L + 1) x ds d := fun m w => by
  obtain ⟨env', e⟩ := h m w
  rw [run, callD, hP]
  simp only [ha, if_true]
  rw [← ha, e]
  simp only [hf, Bool.false_eq_true, if_false]
  rw [clean_keep (Nat.le_refl _) hd.noref]
theorem eq_int (i j : Int) (m : Mem) : cmpV .eq m (.int i) (.int j) = some (i == j) := rfl
theorem ne_bl (i j : Bool) (m : Mem) : cmpV .ne m (.bl i) (.bl j) = some (i != j) := by
  cases i <;> cases j <;> rfl
theorem eq_bl (i j : Bool) (m : Mem) : cmpV .eq m (.bl i) (.bl j) = some (i == j) := by
  cases i <;> cases j <;> rfl
theorem all_true {α : Type} (ds : List α) (m : Mem) : callV .all m [.lst (ds.map fun _ => D.bl true)] = some (.bl true, m) := by
  have : bls? (ds.map fun _ => D.bl true) = some (ds.map fun _ => true) := by
    induction ds with
    | nil => rfl
    | cons d ds ih => simp only [List.map_cons, bls?, ih, Option.map_some]
  show (bls? (ds.map fun _ => D.bl true)).map (fun bs => (D.bl (bs.all id), m)) = _
  rw [this, Option.map_some]
  simp
/-- plain data, at most n deep -/
def pln : Nat → D → Bool
  | 0, d => match d with
    | .non | .bl _ | .int _ => true
    | .str x => (eqV2 [] (.str x) (.str x)) == some true
    | _ => false
  | n + 1, d => match d with
    | .tup ds => decide (ds.length ≤ 1000000) && ds.all (pln n)
    | .lst ds => decide (ds.length ≤ 1000000) && ds.all (pln n)
    | .non | .bl _ | .int _ => true
    | .str x => (eqV2 [] (.str x) (.str x)) == some true
    | _ => false
def sameI (x : Nat) : DefI := ⟨2, 4, false, (.cons (.ifS (.isi (.var 1) [.list, .tuple]) (.cons (.ifS (.orE (.cmp .ne (.isi (.var 0) [.list]) (.isi (.var 1) [.list])) (.cmp .ne (.isi (.var 0) [.tuple]) (.isi (.var 1) [.tuple]))) (.cons (.ret false (.lit (.bl false))) .nil) .nil) (.cons (.ret false (.andE (.cmp .eq (.callB .len (.cons (.var 0) .nil)) (.callB .len (.cons (.var 1) .nil))) (.callB .all (.cons (.comp (.pair (.cons (.name 2) (.cons (.name 3) .nil))) (.zip (.var 0) (.var 1)) .nil (.callF x (.cons (.var 2) (.cons (.var 3) .nil))) [2, 3]) .nil)))) .nil)) .nil) (.cons (.ifS (.cmp .isN (.var 1) (.lit (.non))) (.cons (.ret false (.cmp .isN (.var 0) (.lit (.non)))) .nil) .nil) (.cons (.ifS (.isi (.var 1) [.bool, .str]) (.cons (.ret false (.andE (.cmp .eq (.isi (.var 0) [.bool]) (.isi (.var 1) [.bool])) (.andE (.cmp .eq (.isi (.var 0) [.str]) (.isi (.var 1) [.str])) (.cmp .eq (.var 0) (.var 1))))) .nil) .nil) (.cons (.ret false (.andE (.isi (.var 0) [.int]) (.andE (.notE (.isi (.var 0) [.bool])) (.cmp .eq (.var 0) (.var 1))))) .nil))))⟩
section
variable {P : Nat → Option DefI} {x : Nat}
theorem same_non (hP : P x = some (sameI x)) (L : Nat) : Gv κ P (L + 1) x [.non, .non] (.bl true) :=
  Gv.of hP rfl (Xr.skF (Ev.isi (Ev.var rfl) fun m => rfl) (fun m => rfl) Xn.nil (Xr.ifT (Ev.cmp (Ev.var rfl) (Ev.lit _) fun m => rfl) (fun m => rfl) (Xr.ret (Ev.cmp (Ev.var rfl) (Ev.lit _) fun m => rfl)))) (Fx.bl _) rfl
theorem same_int (hP : P x = some (sameI x)) (L : Nat) (i : Int) : Gv κ P (L + 1) x [.int i, .int i] (.bl true) :=
  Gv.of hP rfl (Xr.skF (Ev.isi (Ev.var rfl) fun m => rfl) (fun m => rfl) Xn.nil (Xr.skF (Ev.cmp (Ev.var rfl) (Ev.lit _) fun m => rfl) (fun m => rfl) Xn.nil
    (Xr.skF (Ev.isi (Ev.var rfl) fun m => rfl) (fun m => rfl) Xn.nil (Xr.ret (Ev.andE (Ev.isi (Ev.var rfl) fun m => rfl) (fun m => rfl) (fun _ => Ev.andE (Ev.notE (Ev.isi (Ev.var rfl) fun m => rfl) fun m => rfl) (fun m => rfl) (fun _ => Ev.cmp (Ev.var rfl) (Ev.var rfl) fun m => by rw [eq_int, beq_self_eq_true]) (fun h => nomatch h)) (fun h => nomatch h)))))) (Fx.bl _) rfl
theorem same_bl (hP : P x = some (sameI x)) (L : Nat) (b : Bool) : Gv κ P (L + 1) x [.bl b, .bl b] (.bl true) :=
  Gv.of hP rfl (Xr.skF (Ev.isi (Ev.var rfl) fun m => rfl) (fun m => rfl) Xn.nil (Xr.skF (Ev.cmp (Ev.var rfl) (Ev.lit _) fun m => rfl) (fun m => rfl) Xn.nil
    (Xr.ifT (Ev.isi (Ev.var rfl) fun m => rfl) (fun m => rfl) (Xr.ret (Ev.andE (Ev.cmp (Ev.isi (Ev.var rfl) fun m => rfl) (Ev.isi (Ev.var rfl) fun m => rfl) fun m => rfl) (fun m => rfl) (fun _ => Ev.andE (Ev.cmp (Ev.isi (Ev.var rfl) fun m => rfl) (Ev.isi (Ev.var rfl) fun m => rfl) fun m => rfl) (fun m => rfl) (fun _ => Ev.cmp (Ev.var rfl) (Ev.var rfl) fun m => by rw [eq_bl, beq_self_eq_true]) (fun h => nomatch h)) (fun h => nomatch h)))))) (Fx.bl _) rfl
theorem same_str (hP : P x = some (sameI x)) (L : Nat) (z : Str) (h : eqV2 [] (.str z) (.str z) = some true) : Gv κ P (L + 1) x [.str z, .str z] (.bl true) :=
  Gv.of hP rfl (Xr.skF (Ev.isi (Ev.var rfl) fun m => rfl) (fun m => rfl) Xn.nil (Xr.skF (Ev.cmp (Ev.var rfl) (Ev.lit _) fun m => rfl) (fun m => rfl) Xn.nil
    (Xr.ifT (Ev.isi (Ev.var rfl) fun m => rfl) (fun m => rfl) (Xr.ret (Ev.andE (Ev.cmp (Ev.isi (Ev.var rfl) fun m => rfl) (Ev.isi (Ev.var rfl) fun m => rfl) fun m => rfl) (fun m => rfl) (fun _ => Ev.andE (Ev.cmp (Ev.isi (Ev.var rfl) fun m => rfl) (Ev.isi (Ev.var rfl) fun m => rfl) fun m => rfl) (fun m => rfl) (fun _ => Ev.cmp (Ev.var rfl) (Ev.var rfl) fun m => h) (fun h => nomatch h)) (fun h => nomatch h)))))) (Fx.bl _) rfl
theorem len_tup (ds : List D) (m : Mem) : callV .len m [.tup ds] = some (.int (ds.length : Nat), m) := rfl
theorem len_lst (ds : List D) (m : Mem) : callV .len m [.lst ds] = some (.int (ds.length : Nat), m) := rfl
theorem same_tup (hP : P x = some (sameI x)) {L : Nat} {ds : List D} (hl : ds.length ≤ 1000000) (h : ∀ d ∈ ds, Gv κ P L x [d, d] (.bl true)) : Gv κ P (L + 1) x [.tup ds, .tup ds] (.bl true) :=
  Gv.of hP rfl (Xr.ifT (Ev.isi (Ev.var rfl) fun m => rfl) (fun m => rfl) (Xr.skF (Ev.orE (d := .bl false) (Ev.cmp (c := false) (Ev.isi (Ev.var rfl) fun m => rfl) (Ev.isi (Ev.var rfl) fun m => rfl) fun m => rfl) (fun m => rfl) (fun h => nomatch h) (fun _ => Ev.cmp (c := false) (Ev.isi (Ev.var rfl) fun m => rfl) (Ev.isi (Ev.var rfl) fun m => rfl) fun m => rfl)) (fun m => rfl) Xn.nil
    (Xr.ret (Ev.andE (t := true) (Ev.cmp (Ev.callB (Evs.cons (Ev.var rfl) Evs.nil) (len_tup ds)) (Ev.callB (Evs.cons (Ev.var rfl) Evs.nil) (len_tup ds)) fun m => (eq_int _ _ m).trans (by rw [beq_self_eq_true])) (fun m => rfl) (fun _ => Ev.callB (Evs.cons (Ev.comp0 (g := fun d => D.wtup [d, d]) (f := fun _ => D.bl true) ds (SrL.zipT (Ev.var rfl) (Ev.var rfl)) (fun d hd => ⟨_, rfl, Ev.callF (Evs.cons (Ev.var rfl) (Evs.cons (Ev.var rfl) Evs.nil)) (h d hd), Fk.bl _⟩) hl) Evs.nil) (all_true ds)) (fun h => nomatch h))))) (Fx.bl _) rfl
theorem same_lst (hP : P x = some (sameI x)) {L : Nat} {ds : List D} (hl : ds.length ≤ 1000000) (h : ∀ d ∈ ds, Gv κ P L x [d, d] (.bl true)) : Gv κ P (L + 1) x [.lst ds, .lst ds] (.bl true) :=
  Gv.of hP rfl (Xr.ifT (Ev.isi (Ev.var rfl) fun m => rfl) (fun m => rfl) (Xr.skF (Ev.orE (d := .bl false) (Ev.cmp (c := false) (Ev.isi (Ev.var rfl) fun m => rfl) (Ev.isi (Ev.var rfl) fun m => rfl) fun m => rfl) (fun m => rfl) (fun h => nomatch h) (fun _ => Ev.cmp (c := false) (Ev.isi (Ev.var rfl) fun m => rfl) (Ev.isi (Ev.var rfl) fun m => rfl) fun m => rfl)) (fun m => rfl) Xn.nil
    (Xr.ret (Ev.andE (t := true) (Ev.cmp (Ev.callB (Evs.cons (Ev.var rfl) Evs.nil) (len_lst ds)) (Ev.callB (Evs.cons (Ev.var rfl) Evs.nil) (len_lst ds)) fun m => (eq_int _ _ m).trans (by rw [beq_self_eq_true])) (fun m => rfl) (fun _ => Ev.callB (Evs.cons (Ev.comp0 (g := fun d => D.wtup [d, d]) (f := fun _ => D.bl true) ds (SrL.zipL (Ev.var rfl) (Ev.var rfl)) (fun d hd => ⟨_, rfl, Ev.callF (Evs.cons (Ev.var rfl) (Evs.cons (Ev.var rfl) Evs.nil)) (h d hd), Fk.bl _⟩) hl) Evs.nil) (all_true ds)) (fun h => nomatch h))))) (Fx.bl _) rfl
/-- the same plain data -/
theorem same_gv (hP : P x = some (sameI x)) : ∀ (n L : Nat) (d : D), pln n d = true → Gv κ P (L + n + 1) x [d, d] (.bl true) := by
  intro n
  induction n with
  | zero =>
    intro L d h
    cases d with
    | non => exact same_non hP _
    | bl b => exact same_bl hP _ b
    | int i => exact same_int hP _ i
    | str z => exact same_str hP _ z (by simpa [pln] using h)
    | _ => simp [pln] at h
  | succ n ih =>
    intro L d h
    cases d with
    | non => exact same_non hP _
    | bl b => exact same_bl hP _ b
    | int i => exact same_int hP _ i
    | str z => exact same_str hP _ z (by simpa [pln] using h)
    | tup ds =>
      simp only [pln, Bool.and_eq_true, decide_eq_true_eq, List.all_eq_true] at h
      exact same_tup hP h.1 fun d hd => ih L d (h.2 d hd)
    | lst ds =>
      simp only [pln, Bool.and_eq_true, decide_eq_true_eq, List.all_eq_true] at h
      exact same_lst hP h.1 fun d hd => ih L d (h.2 d hd)
    | _ => simp [pln] at h
/-- a list that may change, and what it holds -/
theorem same_ref (hP : P x = some (sameI x)) {L k : Nat} {ds : List D} (hl : ds.length ≤ 1000000) (h : ∀ d ∈ ds, Gv κ P L x [d, d] (.bl true)) {m : Mem} (w : WF κ m) (hk : m[k]? = some (.lst ds)) : run P (L + 1) x [.ref k, .lst ds] m = .ok (.bl true) m := by
  have hlen : callV .len m [.ref k] = some (.int (ds.length : Nat), m) := by simp [callV, hk]
  have hlen2 : callV .len m [.lst ds] = some (.int (ds.length : Nat), m) := rfl
  have i0 : isAny m (.ref k) [.list] = some true := by simp [isAny, isOne, hk]
  have i1 : isAny m (.ref k) [.tuple] = some false := by simp [isAny, isOne, hk]
  have i2 : isAny m (.lst ds) [.list] = some true := rfl
  have i3 : isAny m (.lst ds) [.tuple] = some false := rfl
  have i4 : isAny m (.lst ds) [.list, .tuple] = some true := rfl
  have n1 : cmpV .ne m (.bl true) (.bl true) = some false := rfl
  have n2 : cmpV .ne m (.bl false) (.bl false) = some false := rfl
  have q1 : cmpV .eq m (.int (ds.length : Nat)) (.int (ds.length : Nat)) = some true := (eq_int _ _ m).trans (by rw [beq_self_eq_true])
  have hsz : ds.length ≤ sizeLine := Nat.le_trans hl (by rw [sizeLine_eq]; omega)
  have hkl : k < m.length := (List.getElem?_eq_some_iff.mp hk).1
  have hcomp := comp_at (C := run P L) (env := [some (.ref k), some (.lst ds), none, none]) (g := fun d => D.wtup [d, d]) (f := fun _ => D.bl true) (p := fun _ => true) (tg := .pair (.cons (.name 2) (.cons (.name 3) .nil))) (src := .zip (.var 0) (.var 1)) (own := [2, 3]) (ifs := .nil) (elt := .callF x (.cons (.var 2) (.cons (.var 3) .nil))) (v := .zp (.ref k) (.lst ds)) (m := m) ds
    (by
      rw [evSr, ev_var, ge0, optR_some, bnd_ok, ev_var, geS, ge0, optR_some, bnd_ok]
      simp [srcOf, hk, tupS])
    (fun acc i => by
      simp only [SrcV.at, List.getElem?_append_left hkl, hk, List.getElem?_map]
      cases ds[i]? <;> rfl)
    (fun d hd => ⟨_, rfl, fun m w => Evt.nil, fun _ => ⟨Ev.callF (Evs.cons (Ev.var rfl) (Evs.cons (Ev.var rfl) Evs.nil)) (h d hd), Fk.bl _⟩⟩)
    hsz (by unfold turnsMax; omega) w
  rw [List.filter_eq_self.mpr fun _ _ => rfl] at hcomp
  rw [run, callD, hP]
  simp only [sameI, List.length_cons, List.length_nil, if_true, List.map_cons, List.map_nil, List.replicate, List.cons_append, List.nil_append]
  simp only [bnd_ok, bndN_ok, of_ok, thn_nx, thn_rt, optR_some, cond3_t, cond3_f, ev_var, ev_lit, ev_bin, ev_cmp, ev_cmp2, ev_and, ev_or, ev_not, ev_ite, ev_tup, ev_lst, ev_ix, ev_callB, ev_callF, ev_isi, evs_nil, evs_cons, ev_sl, optS_some, optM_some, ex_expr, ex_asg, ex_setIx, ex_ret, ex_if, exs_nil, exs_cons,
  bin_add, bin_sub, cmp_gt, cmp_lt, cmp_ge, cmp_le, tru_bl, call_int, call_intB, call_abs, Option.map_some, asgT, List.length_cons, List.length_nil, Nat.zero_add, Nat.reduceAdd, Nat.reduceLT, if_true, List.set_cons_zero, List.set_cons_succ, ge0, geS, i0, i1, i2, i3, i4, n1, n2, hlen, hlen2, q1, hcomp, all_true]
  rw [clean_keep (Nat.le_refl _) (by simp)]
  rfl
end
end MP

/-! What the program asks of what is given. -/
namespace MP
open PySem L2 PySem.Spec PyProof.Rows
variable {κ : Bool}
theorem ne_int (i j : Int) (m : Mem) : cmpV .ne m (.int i) (.int j) = some (!(i == j)) := rfl
theorem Ev.cmp2 {C : Nat → List D → Mem → Res D} {env : Env} {o o' : CO} {a b c : Ex} {x y z : D} {t u : Bool} (ha : Ev κ C a env x) (hb : Ev κ C b env y) (hc : Ev κ C c env z) (h : ∀ m, cmpV o m x y = some t) (h' : ∀ m, cmpV o' m y z = some u) : Ev κ C (.cmp2 o o' a b c) env (.bl (t && u)) := fun m w => by
  rw [ev_cmp2, ha m w, bnd_ok, hb m w, bnd_ok, h]
  cases t with
  | true => rw [cond3_t, hc m w, bnd_ok, h', Option.map_some, optR_some, Bool.true_and]
  | false => rfl
theorem all_map {α : Type} (f : α → Bool) (ds : List α) (m : Mem) : callV .all m [.lst (ds.map fun y => D.bl (f y))] = some (.bl (ds.all f), m) := by
  have : bls? (ds.map fun y => D.bl (f y)) = some (ds.map f) := by
    induction ds with
    | nil => rfl
    | cons d ds ih => simp only [List.map_cons, bls?, ih, Option.map_some]
  show (bls? (ds.map fun y => D.bl (f y))).map (fun bs => (D.bl (bs.all id), m)) = _
  rw [this, Option.map_some, List.all_map]
  rfl
theorem dedup_nodup : ∀ {xs : List Int}, xs.Nodup → dedupI xs = xs
  | [], _ => rfl
  | x :: xs, h => by
    rw [List.nodup_cons] at h
    unfold dedupI
    rw [dedup_nodup h.2, if_neg (by simpa using h.1)]
theorem lenset_tN {xs : List Nat} (h : xs.Nodup) (hl : xs.length ≤ 4000) (m : Mem) : callV .lenset m [tN xs] = some (.int (xs.length : Nat), m) := by
  show (match ints? (xs.map fun (n : Nat) => D.int (n : Nat)) with | some ns => if ns.length ≤ 4000 then some (D.int ((dedupI ns).length : Nat), m) else none | _ => none) = _
  rw [ints_tN]
  have : (xs.map fun (n : Nat) => (n : Int)).Nodup := by
    rw [List.Nodup, List.pairwise_map]
    exact h.imp fun {a b} hab e => hab (by omega)
  simp only [dedup_nodup this, List.length_map, hl, if_true]
def isnumI : DefI := ⟨1, 1, false, (.cons (.ret false (.andE (.isi (.var 0) [.int]) (.notE (.isi (.var 0) [.bool])))) .nil)⟩
def withinI (n : Nat) : DefI := ⟨3, 3, false, (.cons (.ret false (.andE (.callF n (.cons (.var 0) .nil)) (.cmp2 .le .le (.var 1) (.var 0) (.var 2)))) .nil)⟩
def tupledI (t : Nat) : DefI := ⟨1, 2, false, (.cons (.ret false (.ite (.isi (.var 0) [.list, .tuple]) (.callB .tuple (.cons (.comp (.name 1) (.of (.var 0)) .nil (.callF t (.cons (.var 1) .nil)) [1]) .nil)) (.var 0))) .nil)⟩
def arewithinI (w : Nat) : DefI := ⟨3, 4, false, (.cons (.ret false (.andE (.isi (.var 0) [.tuple]) (.callB .all (.cons (.comp (.name 3) (.of (.var 0)) .nil (.callF w (.cons (.var 3) (.cons (.var 1) (.cons (.var 2) .nil)))) [3]) .nil)))) .nil)⟩
def isordI (a : Nat) : DefI := ⟨2, 2, false, (.cons (.ret false (.andE (.callF a (.cons (.var 1) (.cons (.lit (.int 0)) (.cons (.bin .sub (.var 0) (.lit (.int 1))) .nil)))) (.andE (.cmp .eq (.callB .len (.cons (.var 1) .nil)) (.var 0)) (.cmp .eq (.callB .lenset (.cons (.var 1) .nil)) (.var 0))))) .nil)⟩
def sureordI (t o c : Nat) : DefI := ⟨1, 2, false, (.cons (.asg (.name 1) (.callF t (.cons (.var 0) .nil))) (.cons (.ifS (.orE (.notE (.isi (.var 1) [.tuple])) (.orE (.notE (.cmp2 .le .le (.lit (.int 1)) (.callB .len (.cons (.var 1) .nil)) (.lit (.int 24)))) (.notE (.callF o (.cons (.callB .len (.cons (.var 1) .nil)) (.cons (.var 1) .nil)))))) (.cons (.raise c .nil) .nil) .nil) (.cons (.ret false (.var 1)) .nil)))⟩
def surelikeI (s c : Nat) : DefI := ⟨2, 3, false, (.cons (.asg (.name 2) (.callF s (.cons (.var 1) .nil))) (.cons (.ifS (.cmp .ne (.callB .len (.cons (.var 2) .nil)) (.callB .len (.cons (.var 0) .nil))) (.cons (.raise c .nil) .nil) .nil) (.cons (.ret false (.var 2)) .nil)))⟩
section
variable {P : Nat → Option DefI} {L n w t a o s c x : Nat}
theorem isnum_int (hP : P n = some isnumI) (i : Int) : Gv κ P (L + 1) n [.int i] (.bl true) :=
  Gv.ret hP rfl (Ev.andE (Ev.isi (Ev.var rfl) fun m => rfl) (fun m => rfl) (fun _ => Ev.notE (c := false) (Ev.isi (Ev.var rfl) fun m => rfl) fun m => rfl) (fun h => nomatch h)) (Fx.bl _) rfl
theorem within_int (hn : P n = some isnumI) (hP : P w = some (withinI n)) (i l u : Int) : Gv κ P (L + 2) w [.int i, .int l, .int u] (.bl (decide (l ≤ i) && decide (i ≤ u))) :=
  Gv.ret hP rfl (Ev.andE (Ev.callF (Evs.cons (Ev.var rfl) Evs.nil) (isnum_int hn i)) (fun m => rfl) (fun _ => Ev.cmp2 (Ev.var rfl) (Ev.var rfl) (Ev.var rfl) (fun m => rfl) (fun m => rfl)) (fun h => nomatch h)) (Fx.bl _) rfl
theorem tupled_int (hP : P t = some (tupledI t)) (i : Int) : Gv κ P (L + 1) t [.int i] (.int i) :=
  Gv.ret hP rfl (Ev.ite (t := false) (Ev.isi (Ev.var rfl) fun m => rfl) (fun m => rfl) (fun h => nomatch h) (fun _ => Ev.var rfl)) (Fx.int _) rfl
theorem tupled_tN (hP : P t = some (tupledI t)) (xs : List Nat) (hl : xs.length ≤ 1000) : Gv κ P (L + 2) t [tN xs] (tN xs) :=
  Gv.ret hP rfl (Ev.ite (t := true) (Ev.isi (Ev.var rfl) fun m => rfl) (fun m => rfl) (fun _ => Ev.callB (Evs.cons (Ev.comp0 (g := fun (n : Nat) => D.int n) (f := fun (n : Nat) => D.int n) xs (SrL.tup (Ev.var rfl)) (fun y hy => ⟨_, rfl, Ev.callF (Evs.cons (Ev.var rfl) Evs.nil) (tupled_int hP _), Fk.int _⟩) (by omega)) Evs.nil) (fun m => tuple_lst _ m)) (fun h => nomatch h)) (Fx.tN _) rfl
theorem arewithin_tN (hn : P n = some isnumI) (hw : P w = some (withinI n)) (hP : P a = some (arewithinI w)) (xs : List Nat) (hl : xs.length ≤ 1000) (l u : Int) : Gv κ P (L + 3) a [tN xs, .int l, .int u] (.bl (xs.all fun i => decide (l ≤ (i : Int)) && decide ((i : Int) ≤ u))) :=
  Gv.ret hP rfl (Ev.andE (Ev.isi (Ev.var rfl) fun m => rfl) (fun m => rfl) (fun _ => Ev.callB (Evs.cons (Ev.comp0 (g := fun (n : Nat) => D.int n) (f := fun (i : Nat) => D.bl (decide (l ≤ (i : Int)) && decide ((i : Int) ≤ u))) xs (SrL.tup (Ev.var rfl)) (fun y hy => ⟨_, rfl, Ev.callF (Evs.cons (Ev.var rfl) (Evs.cons (Ev.var rfl) (Evs.cons (Ev.var rfl) Evs.nil))) (within_int hn hw _ _ _), Fk.bl _⟩) (by omega)) Evs.nil) (fun m => all_map (fun (i : Nat) => decide (l ≤ (i : Int)) && decide ((i : Int) ≤ u)) xs m)) (fun h => nomatch h)) (Fx.bl _) rfl
theorem isord_gv (hn : P n = some isnumI) (hw : P w = some (withinI n)) (ha : P a = some (arewithinI w)) (hP : P o = some (isordI a)) {k : Nat} {xs : List Nat} (h : isOrd k xs) (hl : k ≤ 1000) : Gv κ P (L + 4) o [.int (k : Nat), tN xs] (.bl true) := by
  obtain ⟨rfl, h1, h2, h3⟩ := h
  have hall : (xs.all fun i => decide (0 ≤ (i : Int)) && decide ((i : Int) ≤ (xs.length : Int) - 1)) = true := List.all_eq_true.mpr fun i hi => by
    have := h1 i hi
    simp only [Bool.and_eq_true, decide_eq_true_eq]
    omega
  have g := arewithin_tN (κ := κ) (L := L) hn hw ha xs hl 0 ((xs.length : Int) - 1)
  rw [hall] at g
  exact Gv.ret hP rfl (Ev.andE (t := true) (Ev.callF (Evs.cons (Ev.var rfl) (Evs.cons (Ev.lit _) (Evs.cons (Ev.bin (Ev.var rfl) (Ev.lit _) fun m => rfl) Evs.nil))) g) (fun m => rfl) (fun _ => Ev.andE (t := true) (Ev.cmp (Ev.callB (Evs.cons (Ev.var rfl) Evs.nil) (len_tN xs)) (Ev.var rfl) fun m => (eq_int _ _ m).trans (by rw [beq_self_eq_true])) (fun m => rfl) (fun _ => Ev.cmp (Ev.callB (Evs.cons (Ev.var rfl) Evs.nil) (lenset_tN h3 (by omega))) (Ev.var rfl) fun m => (eq_int _ _ m).trans (by rw [beq_self_eq_true])) (fun h => nomatch h)) (fun h => nomatch h)) (Fx.bl _) rfl
theorem sureord_gv (hn : P n = some isnumI) (hw : P w = some (withinI n)) (ha : P a = some (arewithinI w)) (ho : P o = some (isordI a)) (ht : P t = some (tupledI t)) (hP : P s = some (sureordI t o c)) {k : Nat} {xs : List Nat} (h : isOrd k xs) (h1 : 1 ≤ k) (hl : k ≤ 24) : Gv κ P (L + 5) s [tN xs] (tN xs) := by
  have hk := h.1
  have e1 : decide ((1 : Int) ≤ (xs.length : Int)) = true := decide_eq_true (by omega)
  have e2 : decide ((xs.length : Int) ≤ 24) = true := decide_eq_true (by omega)
  have g := isord_gv (κ := κ) (L := L) hn hw ha ho h (by omega)
  rw [← hk] at g
  exact Gv.of hP rfl (Xr.asg (Ev.callF (Evs.cons (Ev.var rfl) Evs.nil) (tupled_tN ht xs (by omega))) rfl
    (Xr.skF (Ev.orE (t := false) (d := .bl false) (Ev.notE (c := true) (Ev.isi (Ev.var rfl) fun m => rfl) fun m => rfl) (fun m => rfl) (fun h => nomatch h) (fun _ => Ev.orE (t := false) (d := .bl false)
      (Ev.notE (c := true) (Ev.cmp2 (Ev.lit _) (Ev.callB (Evs.cons (Ev.var rfl) Evs.nil) (len_tN xs)) (Ev.lit _) (fun m => congrArg some e1) (fun m => congrArg some e2)) fun m => rfl) (fun m => rfl) (fun h => nomatch h)
      (fun _ => Ev.notE (c := true) (Ev.callF (Evs.cons (Ev.callB (Evs.cons (Ev.var rfl) Evs.nil) (len_tN xs)) (Evs.cons (Ev.var rfl) Evs.nil)) g) fun m => rfl))) (fun m => rfl) Xn.nil
    (Xr.ret (Ev.var rfl)))) (Fx.tN _) rfl
theorem surelike_gv {L x s c : Nat} (hP : P x = some (surelikeI s c)) {xs ys : List Nat} (g : Gv κ P L s [tN ys] (tN ys)) (h : ys.length = xs.length) : Gv κ P (L + 1) x [tN xs, tN ys] (tN ys) :=
  Gv.of hP rfl (Xr.asg (Ev.callF (Evs.cons (Ev.var rfl) Evs.nil) g) rfl (Xr.skF (Ev.cmp (c := false) (Ev.callB (Evs.cons (Ev.var rfl) Evs.nil) (len_tN ys)) (Ev.callB (Evs.cons (Ev.var rfl) Evs.nil) (len_tN xs)) fun m => by
    rw [ne_int, h, beq_self_eq_true]
    rfl) (fun m => rfl) Xn.nil (Xr.ret (Ev.var rfl)))) (Fx.tN _) rfl
end
end MP

/-! Rules, one a construct: what it gives at a memory. -/
namespace MP
open PySem L2 PySem.Spec PyProof.Rows
variable {κ : Bool}
section
variable {C : Nat → List D → Mem → Res D} {env : Env} {m m1 m2 m3 m4 : Mem}
theorem small {n : Nat} (h : Nat.ble n 1000 = true) : n ≤ sizeLine := by
  have := Nat.le_of_ble_eq_true h
  rw [sizeLine_eq]; omega
theorem a_var {i : Nat} {d : D} (h : envGet env i = some d) : ev C (.var i) env m = .ok d m := by rw [ev_var, h, optR_some]
theorem a_lit {d : D} : ev C (.lit d) env m = .ok d m := ev_lit ..
theorem a_bin {o : BO} {a b : Ex} {x y d : D} (ha : ev C a env m = .ok x m1) (hb : ev C b env m1 = .ok y m2) (h : binV o m2 x y = some d) : ev C (.bin o a b) env m = .ok d m2 := by
  rw [ev_bin, ha, bnd_ok, hb, bnd_ok, h, optR_some]
theorem a_neg {a : Ex} {i : Int} (ha : ev C a env m = .ok (.int i) m1) : ev C (.neg a) env m = .ok (.int (-i)) m1 := by
  rw [ev_neg, ha, bnd_ok]
theorem a_cmp {o : CO} {a b : Ex} {x y : D} {c : Bool} (ha : ev C a env m = .ok x m1) (hb : ev C b env m1 = .ok y m2) (h : cmpV o m2 x y = some c) : ev C (.cmp o a b) env m = .ok (.bl c) m2 := by
  rw [ev_cmp, ha, bnd_ok, hb, bnd_ok, h, Option.map_some, optR_some]
theorem a_cmp2 {o o' : CO} {a b c : Ex} {x y z : D} {t u : Bool} (ha : ev C a env m = .ok x m1) (hb : ev C b env m1 = .ok y m2) (h : cmpV o m2 x y = some t) (hc : ev C c env m2 = .ok z m2) (h' : cmpV o' m2 y z = some u) : ev C (.cmp2 o o' a b c) env m = .ok (.bl (t && u)) m2 := by
  rw [ev_cmp2, ha, bnd_ok, hb, bnd_ok, h]
  cases t with
  | true => rw [cond3_t, hc, bnd_ok, h', Option.map_some, optR_some, Bool.true_and]
  | false => rfl
theorem a_andB {a b : Ex} {t u : Bool} (ha : ev C a env m = .ok (.bl t) m1) (hb : t = true → ev C b env m1 = .ok (.bl u) m1) : ev C (.andE a b) env m = .ok (.bl (t && u)) m1 := by
  rw [ev_and, ha, bnd_ok, tru_bl]
  cases t with
  | true => rw [cond3_t, hb rfl, Bool.true_and]
  | false => rfl
theorem a_and2 {a b : Ex} {t u : Bool} (ha : ev C a env m = .ok (.bl t) m1) (hb : ev C b env m1 = .ok (.bl u) m1) : ev C (.andE a b) env m = .ok (.bl (t && u)) m1 := a_andB ha fun _ => hb
theorem a_or2 {a b : Ex} {t u : Bool} (ha : ev C a env m = .ok (.bl t) m1) (hb : ev C b env m1 = .ok (.bl u) m1) : ev C (.orE a b) env m = .ok (.bl (t || u)) m1 := by
  rw [ev_or, ha, bnd_ok, tru_bl]
  cases t with
  | true => rfl
  | false => rw [cond3_f, hb, Bool.false_or]
theorem a_notB {a : Ex} {t : Bool} (ha : ev C a env m = .ok (.bl t) m1) : ev C (.notE a) env m = .ok (.bl (!t)) m1 := by
  rw [ev_not, ha, bnd_ok, tru_bl, Option.map_some, optR_some]
theorem a_andT {a b : Ex} {x : D} {r : Res D} (ha : ev C a env m = .ok x m1) (ht : truV m1 x = some true) (hb : ev C b env m1 = r) : ev C (.andE a b) env m = r := by
  rw [ev_and, ha, bnd_ok, ht, cond3_t, hb]
theorem a_andF {a b : Ex} {x : D} (ha : ev C a env m = .ok x m1) (ht : truV m1 x = some false) : ev C (.andE a b) env m = .ok x m1 := by
  rw [ev_and, ha, bnd_ok, ht, cond3_f]
theorem a_orB {a b : Ex} {t u : Bool} (ha : ev C a env m = .ok (.bl t) m1) (hb : t = false → ev C b env m1 = .ok (.bl u) m1) : ev C (.orE a b) env m = .ok (.bl (t || u)) m1 := by
  rw [ev_or, ha, bnd_ok, tru_bl]
  cases t with
  | true => rfl
  | false => rw [cond3_f, hb rfl, Bool.false_or]
theorem a_orT {a b : Ex} {x : D} (ha : ev C a env m = .ok x m1) (ht : truV m1 x = some true) : ev C (.orE a b) env m = .ok x m1 := by
  rw [ev_or, ha, bnd_ok, ht, cond3_t]
theorem a_orF {a b : Ex} {x : D} {r : Res D} (ha : ev C a env m = .ok x m1) (ht : truV m1 x = some false) (hb : ev C b env m1 = r) : ev C (.orE a b) env m = r := by
  rw [ev_or, ha, bnd_ok, ht, cond3_f, hb]
theorem a_not {a : Ex} {x : D} {t : Bool} (ha : ev C a env m = .ok x m1) (ht : truV m1 x = some t) : ev C (.notE a) env m = .ok (.bl (!t)) m1 := by
  rw [ev_not, ha, bnd_ok, ht, Option.map_some, optR_some]
theorem a_iteT {c a b : Ex} {x : D} {r : Res D} (hc : ev C c env m = .ok x m1) (ht : truV m1 x = some true) (h : ev C a env m1 = r) : ev C (.ite c a b) env m = r := by
  rw [ev_ite, hc, bnd_ok, ht, cond3_t, h]
theorem a_iteF {c a b : Ex} {x : D} {r : Res D} (hc : ev C c env m = .ok x m1) (ht : truV m1 x = some false) (h : ev C b env m1 = r) : ev C (.ite c a b) env m = r := by
  rw [ev_ite, hc, bnd_ok, ht, cond3_f, h]
theorem a_tup {es : Exs} {ds : List D} (h : evs C es env m = .ok ds m1) (hl : Nat.ble ds.length 1000 = true) : ev C (.tup es) env m = .ok (.tup ds) m1 := by
  rw [ev_tup, h, bnd_ok, if_pos (small hl)]
theorem a_lst {es : Exs} {ds : List D} (h : evs C es env m = .ok ds m1) (hl : Nat.ble ds.length 1000 = true) : ev C (.lst es) env m = .ok (.lst ds) m1 := by
  rw [ev_lst, h, bnd_ok, if_pos (small hl)]
theorem a_newL {es : Exs} {ds : List D} (h : evs C es env m = .ok ds m1) (hl : Nat.ble ds.length 1000 = true) : ev C (.newL es) env m = .ok (.ref m1.length) (m1 ++ [.lst ds]) := by
  rw [ev_newL, h, bnd_ok, if_pos (small hl)]
theorem a_dict : ev C .emptyDict env m = .ok (.ref m.length) (m ++ [.dic []]) := by rw [ev]
theorem a_dict1 {k v : Ex} {x y : D} {kk : Key} (hk : ev C k env (m ++ [.dic []]) = .ok x (m ++ [.dic []])) (hv : ev C v env (m ++ [.dic []]) = .ok y (m ++ [.dic []])) (h : key? x = some kk) : ev C (.dict1 k v) env m = .ok (.ref m.length) (m ++ [.dic [(kk, y)]]) := by
  have hg : (m ++ [O.dic []])[m.length]? = some (.dic []) := by simp
  have hs : (m ++ [O.dic []]).set m.length (.dic [(kk, y)]) = m ++ [.dic [(kk, y)]] := by
    rw [List.set_append_right _ _ (Nat.le_refl _), Nat.sub_self, List.set_cons_zero]
  simp only [ev, hk, bnd_ok, hv, h, hg, hs]
theorem a_ix {a i : Ex} {x y d : D} (ha : ev C a env m = .ok x m1) (hi : ev C i env m1 = .ok y m2) (h : ixV m2 x y = some d) : ev C (.ix a i) env m = .ok d m2 := by
  rw [ev_ix, ha, bnd_ok, hi, bnd_ok, h, optR_some]
theorem a_sl {a : Ex} {lo hi : Exs} {x d : D} {l h : List D} {l' h' : List Int} (ha : ev C a env m = .ok x m1) (h1 : evs C lo env m1 = .ok l m2) (i1 : ints? l = some l') (h2 : evs C hi env m2 = .ok h m3) (i2 : ints? h = some h') (hd : slV m3 x l'.head? h'.head? = some d) : ev C (.sl a lo hi) env m = .ok d m3 := by
  rw [ev_sl, ha, bnd_ok, h1, bnd_ok, i1, optR_some, bnd_ok, h2, bnd_ok, i2, optR_some, bnd_ok, hd, optR_some]
theorem a_rev {a : Ex} {x d : D} (ha : ev C a env m = .ok x m1) (h : revV m1 x = some d) : ev C (.rev a) env m = .ok d m1 := by
  rw [ev, ha, bnd_ok, h]
theorem a_callB {b : B} {es : Exs} {ds : List D} {d : D} (h : evs C es env m = .ok ds m1) (hd : callV b m1 ds = some (d, m2)) : ev C (.callB b es) env m = .ok d m2 := by
  rw [ev_callB, h, bnd_ok, hd]
theorem rngOk_small {i j : Int} (h1 : 0 ≤ i) (h2 : j < 100000) (h3 : i < 100000) (h4 : -100000 < j) : rngOk i j = true := by
  unfold rngOk
  simp only [Bool.and_eq_true, decide_eq_true_eq]
  omega
theorem a_rngL {a b : Ex} {i j : Int} (ha : ev C a env m = .ok (.int i) m1) (hb : ev C b env m1 = .ok (.int j) m2) (h1 : 0 ≤ i) (h2 : j < 100000) (h3 : i < 100000) (h4 : -100000 < j) : ev C (.rngL a b) env m = .ok (.lst (rngList i j)) m2 := by
  rw [ev, ha, bnd_ok, hb, bnd_ok]
  exact if_pos ⟨rngOk_small h1 h2 h3 h4, by omega⟩
theorem a_rngT {a b : Ex} {i j : Int} (ha : ev C a env m = .ok (.int i) m1) (hb : ev C b env m1 = .ok (.int j) m2) (h1 : 0 ≤ i) (h2 : j < 100000) (h3 : i < 100000) (h4 : -100000 < j) : ev C (.rngT a b) env m = .ok (.tup (rngList i j)) m2 := by
  rw [ev, ha, bnd_ok, hb, bnd_ok]
  exact if_pos ⟨rngOk_small h1 h2 h3 h4, by omega⟩
theorem a_isi {a : Ex} {ts : List Ty} {x : D} {c : Bool} (ha : ev C a env m = .ok x m1) (h : isAny m1 x ts = some c) : ev C (.isi a ts) env m = .ok (.bl c) m1 := by
  rw [ev_isi, ha, bnd_ok, h, Option.map_some, optR_some]
theorem a_callF {x : Nat} {es : Exs} {ds : List D} {r : Res D} (h : evs C es env m = .ok ds m1) (hc : C x ds m1 = r) : ev C (.callF x es) env m = r := by
  rw [ev_callF, h, bnd_ok, hc]
theorem a_meth {k : M} {o : Ex} {es : Exs} {x d : D} {ds : List D} {T : String} (ho : ev C o env m = .ok x m1) (hT : mCls m1 x = some T) (hk : methOk k T = true) (h : evs C es env m1 = .ok ds m2) (hT2 : mCls m2 x = some T) (hd : methV k m2 x ds = some (d, m3)) : ev C (.meth k o es) env m = .ok d m3 := by
  rw [ev, ho, bnd_ok, hT]
  simp only [hk, if_true, h, bnd_ok, hT2, hd]
theorem a_thawL {a : Ex} {ds : List D} (ha : ev C a env m = .ok (.lst ds) m1) (h : (noLs ds && m1.all noO) = true) : ev C (.thaw a) env m = .ok (.ref m1.length) (m1 ++ [.lst ds]) := by
  rw [ev_thaw, ha, bnd_ok]
  exact if_pos h
theorem a_thawR {a : Ex} {n : Nat} (ha : ev C a env m = .ok (.ref n) m1) : ev C (.thaw a) env m = .ok (.ref n) m1 := by
  rw [ev_thaw, ha, bnd_ok]
theorem a_thawT {a : Ex} {ds : List D} (ha : ev C a env m = .ok (.tup ds) m1) : ev C (.thaw a) env m = .ok (.tup ds) m1 := by
  rw [ev_thaw, ha, bnd_ok]
theorem s_nil : evs C .nil env m = .ok [] m := evs_nil ..
theorem s_cons {e : Ex} {es : Exs} {d : D} {ds : List D} (h : ev C e env m = .ok d m1) (hs : evs C es env m1 = .ok ds m2) : evs C (.cons e es) env m = .ok (d :: ds) m2 := by
  rw [evs_cons, h, bnd_ok, hs, bnd_ok]
/-! sources -/
theorem r_tup {e : Ex} {ds : List D} (h : ev C e env m = .ok (.tup ds) m1) : evSr C (.of e) env m = .ok (.tup ds) m1 := by
  rw [evSr, h, bnd_ok]; rfl
theorem r_lst {e : Ex} {ds : List D} (h : ev C e env m = .ok (.lst ds) m1) : evSr C (.of e) env m = .ok (.lst ds) m1 := by
  rw [evSr, h, bnd_ok]; rfl
theorem r_ref {e : Ex} {n : Nat} {ds : List D} (h : ev C e env m = .ok (.ref n) m1) (hn : m1[n]? = some (.lst ds)) : evSr C (.of e) env m = .ok (.ref n) m1 := by
  rw [evSr, h, bnd_ok]
  have : srcOf m1 (.ref n) = some (.ref n) := by simp only [srcOf, hn]
  rw [this]
theorem r_rng1 {e : Ex} {j : Int} (h : ev C e env m = .ok (.int j) m1) (h2 : j < 100000) (h4 : -100000 < j) : evSr C (.rng1 e) env m = .ok (.rng 0 j.toNat) m1 := by
  rw [evSr, h, bnd_ok]
  exact if_pos (rngOk_small (by omega) h2 (by omega) h4)
theorem r_rng2 {a b : Ex} {i j : Int} (ha : ev C a env m = .ok (.int i) m1) (hb : ev C b env m1 = .ok (.int j) m2) (h1 : 0 ≤ i) (h2 : j < 100000) (h3 : i < 100000) (h4 : -100000 < j) : evSr C (.rng2 a b) env m = .ok (.rng i (j - i).toNat) m2 := by
  rw [evSr, ha, bnd_ok, hb, bnd_ok]
  exact if_pos (rngOk_small h1 h2 h3 h4)
theorem r_enumT {e : Ex} {ds : List D} (h : ev C e env m = .ok (.tup ds) m1) : evSr C (.enum e) env m = .ok (.en (.tup ds)) m1 := by
  rw [evSr, h, bnd_ok]; rfl
theorem r_enumL {e : Ex} {ds : List D} (h : ev C e env m = .ok (.lst ds) m1) : evSr C (.enum e) env m = .ok (.en (.lst ds)) m1 := by
  rw [evSr, h, bnd_ok]; rfl
theorem r_zipT {a b : Ex} {ds es : List D} (h : ev C a env m = .ok (.tup ds) m1) (h' : ev C b env m1 = .ok (.tup es) m2) : evSr C (.zip a b) env m = .ok (.zp (.tup ds) (.tup es)) m2 := by
  rw [evSr, h, bnd_ok, h', bnd_ok]; rfl
theorem r_zipL {a b : Ex} {ds es : List D} (h : ev C a env m = .ok (.lst ds) m1) (h' : ev C b env m1 = .ok (.lst es) m2) : evSr C (.zip a b) env m = .ok (.zp (.lst ds) (.lst es)) m2 := by
  rw [evSr, h, bnd_ok, h', bnd_ok]; rfl
/-! statements -/
def Sts.app : Sts → Sts → Sts
  | .nil, b => b
  | .cons s a, b => .cons s (a.app b)
theorem exs_app : ∀ (a b : Sts) (env : Env) (m : Mem), exs C (a.app b) env m = (exs C a env m).thn fun env' m' => exs C b env' m'
  | .nil, b, env, m => by rw [exs_nil, thn_nx, Sts.app]
  | .cons s a, b, env, m => by
    rw [Sts.app, exs_cons, exs_cons]
    cases ex C s env m with
    | ok f env' m' => cases f with
      | nx => rw [thn_nx, thn_nx, exs_app a b]
      | rt fr d => rfl
    | exc c fs env' m' => rfl
    | bad => rfl
section
variable {ss : Sts} {R : SRes}
theorem x_nil : exs C .nil env m = .ok .nx env m := exs_nil ..
theorem x_asg {t : Tg} {e : Ex} {d : D} {env1 : Env} (h : ev C e env m = .ok d m1) (ha : asgT t d env = some env1) (r : exs C ss env1 m1 = R) : exs C (.cons (.asg t e) ss) env m = R := by
  rw [exs_cons, ex_asg, h, of_ok, ha, optS_some, thn_nx, r]
theorem x_asgE {t : Tg} {e : Ex} {c : Nat} {fs : List D} (h : ev C e env m = .exc c fs m1) : exs C (.cons (.asg t e) ss) env m = .exc c fs env m1 := by
  rw [exs_cons, ex_asg, h]; rfl
theorem x_expr {e : Ex} {d : D} (h : ev C e env m = .ok d m1) (r : exs C ss env m1 = R) : exs C (.cons (.expr e) ss) env m = R := by
  rw [exs_cons, ex_expr, h, of_ok, thn_nx, r]
theorem x_par {i j : Nat} {a b : Ex} {x y : D} (ha : ev C a env m = .ok x m1) (hb : ev C b env m1 = .ok y m2) (hi : Nat.blt i env.length = true) (hj : Nat.blt j env.length = true) (r : exs C ss ((env.set i (some x)).set j (some y)) m2 = R) : exs C (.cons (.par i j a b) ss) env m = R := by
  rw [exs_cons, ex, ha, of_ok, hb, of_ok, if_pos ⟨Nat.le_of_ble_eq_true hi, Nat.le_of_ble_eq_true hj⟩, thn_nx, r]
theorem x_augAdd {i : Nat} {e : Ex} {a b : Int} (hi : envGet env i = some (.int a)) (h : ev C e env m = .ok (.int b) m1) (r : exs C ss (env.set i (some (.int (a + b)))) m1 = R) : exs C (.cons (.aug i .add e) ss) env m = R := by
  rw [exs_cons, ex, hi]
  simp only [h, of_ok, thn_nx, r]
theorem x_setIx {a i e : Ex} {v x y : D} (he : ev C e env m = .ok v m1) (ha : ev C a env m1 = .ok x m2) (hi : ev C i env m2 = .ok y m3) (h : setV m3 x y v = some m4) (r : exs C ss env m4 = R) : exs C (.cons (.setIx a i e) ss) env m = R := by
  rw [exs_cons, ex_setIx, he, of_ok, ha, of_ok, hi, of_ok, h, optM_some, thn_nx, r]
theorem x_delIx {a i : Ex} {x y : D} (ha : ev C a env m = .ok x m1) (hi : ev C i env m1 = .ok y m2) (h : delV m2 x y = some m3) (r : exs C ss env m3 = R) : exs C (.cons (.delIx a i) ss) env m = R := by
  rw [exs_cons, ex, ha, of_ok, hi, of_ok, h]
  exact r
theorem x_ret {fr : Bool} {e : Ex} {d : D} (h : ev C e env m = .ok d m1) : exs C (.cons (.ret fr e) ss) env m = .ok (.rt fr d) env m1 := by
  rw [exs_cons, ex_ret, h, of_ok, thn_rt]
theorem x_retE {fr : Bool} {e : Ex} {c : Nat} {fs : List D} (h : ev C e env m = .exc c fs m1) : exs C (.cons (.ret fr e) ss) env m = .exc c fs env m1 := by
  rw [exs_cons, ex_ret, h]; rfl
theorem x_ifT {c : Ex} {a b : Sts} {x : D} (h : ev C c env m = .ok x m1) (ht : truV m1 x = some true) (r : exs C (a.app ss) env m1 = R) : exs C (.cons (.ifS c a b) ss) env m = R := by
  rw [exs_cons, ex_if, h, of_ok, ht, cond3_t, ← exs_app, r]
theorem x_ifF {c : Ex} {a b : Sts} {x : D} (h : ev C c env m = .ok x m1) (ht : truV m1 x = some false) (r : exs C (b.app ss) env m1 = R) : exs C (.cons (.ifS c a b) ss) env m = R := by
  rw [exs_cons, ex_if, h, of_ok, ht, cond3_f, ← exs_app, r]
theorem x_raise {c : Nat} {es : Exs} {fs : List D} (h : evs C es env m = .ok fs m1) : exs C (.cons (.raise c es) ss) env m = .exc c fs env m1 := by
  rw [exs_cons, ex, h]; rfl
theorem x_pass (r : exs C ss env m = R) : exs C (.cons .pass ss) env m = R := by
  rw [exs_cons, ex, thn_nx, r]
theorem x_for {t : Tg} {s : Sr} {b : Sts} {src : SrcV} {env2 : Env} (hs : evSr C s env m = .ok src m1) (hl : forLoop src t (fun env' m' => exs C b env' m') turnsMax 0 env m1 = .ok .nx env2 m2) (r : exs C ss env2 m2 = R) : exs C (.cons (.forS t s b) ss) env m = R := by
  rw [exs_cons, ex, hs]
  simp only [hl, thn_nx, r]
theorem x_forR {t : Tg} {s : Sr} {b : Sts} {src : SrcV} {fr : Bool} {d : D} {env2 : Env} (hs : evSr C s env m = .ok src m1) (hl : forLoop src t (fun env' m' => exs C b env' m') turnsMax 0 env m1 = .ok (.rt fr d) env2 m2) : exs C (.cons (.forS t s b) ss) env m = .ok (.rt fr d) env2 m2 := by
  rw [exs_cons, ex, hs]
  simp only [hl, thn_rt]
theorem x_forE {t : Tg} {s : Sr} {b : Sts} {src : SrcV} {c : Nat} {fs : List D} {env2 : Env} (hs : evSr C s env m = .ok src m1) (hl : forLoop src t (fun env' m' => exs C b env' m') turnsMax 0 env m1 = .exc c fs env2 m2) : exs C (.cons (.forS t s b) ss) env m = .exc c fs env2 m2 := by
  rw [exs_cons, ex, hs]
  simp only [hl]
  rfl
theorem x_while {c : Ex} {b : Sts} {env2 : Env} (hl : whileLoop (fun env' m' => ev C c env' m') (fun env' m' => exs C b env' m') turnsMax env m = .ok .nx env2 m2) (r : exs C ss env2 m2 = R) : exs C (.cons (.whileS c b) ss) env m = R := by
  rw [exs_cons, ex, hl, thn_nx, r]
theorem x_try {b : Sts} {h : Hds} {env2 : Env} (hb : exs C b env m = .ok .nx env2 m1) (r : exs C ss env2 m1 = R) : exs C (.cons (.tryS b h) ss) env m = R := by
  rw [exs_cons, ex, hb]
  exact r
theorem x_tryE {b : Sts} {h : Hds} {env2 env3 : Env} {c : Nat} (hb : exs C b env m = .exc c [] env2 m1) (he : exh C h c [] env2 m1 = .ok .nx env3 m2) (r : exs C ss env3 m2 = R) : exs C (.cons (.tryS b h) ss) env m = R := by
  rw [exs_cons, ex, hb]
  simp only [List.isEmpty_nil, if_true, he, thn_nx, r]
end
/-! comprehensions -/
/-- at one memory, its turns change nothing -/
theorem a_comp {α : Type} {g f : α → D} {p : α → Bool} {tg : Tg} {src : Sr} {own : List Nat} {ifs : Exs} {elt : Ex} {v : SrcV} (ys : List α) (w : WF κ m1)
    (e1 : evSr C src env m = .ok v m1) (e2 : ∀ acc i, v.at (m1 ++ [O.acc acc]) i = some (ys.map g)[i]?)
    (h : ∀ y ∈ ys, ∃ env', asgT tg (g y) (wipeE env own) = some env' ∧ ∀ m' acc, m' = m1 ++ [O.acc acc] → WF κ m' → evTs C ifs env' m' = .ok (p y) m' ∧ (p y = true → ev C elt env' m' = .ok (f y) m' ∧ Fk κ (f y)))
    (hl : ys.length ≤ 1000000) : ev C (.comp tg src ifs elt own) env m = .ok (.lst ((ys.filter p).map f)) m1 := by
  have key : ∀ (n i : Nat) (acc : List D), i ≤ ys.length → ys.length - i < n → acc.length ≤ i → (∀ d ∈ acc, Fk κ d) →
      compLoop m1.length v tg own env (fun env' m' => evTs C ifs env' m') (fun env' m' => ev C elt env' m') n i (m1 ++ [.acc acc]) = .ok () (m1 ++ [.acc ((((ys.drop i).filter p).map f).reverse ++ acc)]) ∧ ∀ d ∈ ((ys.drop i).filter p).map f, Fx d := by
    intro n
    induction n with
    | zero => intro i acc h1 h2; omega
    | succ n ih =>
      intro i acc h1 h2 h3 h4
      unfold compLoop
      have wa : WF κ (m1 ++ [.acc acc]) := w.push (fun k => bndDs_iff.mpr fun d hd => (h4 d hd).1 k) fun hk => noLs_iff.mpr fun d hd => (h4 d hd).2 hk
      rw [e2, List.getElem?_map]
      by_cases hi : i < ys.length
      · rw [List.getElem?_eq_getElem hi]
        obtain ⟨env', q1, q2⟩ := h ys[i] (List.getElem_mem hi)
        obtain ⟨q3, q4⟩ := q2 _ acc rfl wa
        simp only [Option.map_some, q1]
        have hdr : ys.drop i = ys[i] :: ys.drop (i + 1) := List.drop_eq_getElem_cons hi
        rw [q3, bndN_ok]
        by_cases hp : p ys[i] = true
        · obtain ⟨e4, e5⟩ := q4 hp
          have hg : (m1 ++ [O.acc acc])[m1.length]? = some (.acc acc) := by simp
          simp only [hp, if_true, e4, bndN_ok, hg]
          rw [if_pos (by rw [sizeLine_eq]; omega)]
          have : (m1 ++ [O.acc acc]).set m1.length (.acc (f ys[i] :: acc)) = m1 ++ [O.acc (f ys[i] :: acc)] := by
            rw [List.set_append_right _ _ (Nat.le_refl _), Nat.sub_self, List.set_cons_zero]
          obtain ⟨i1, i2⟩ := ih (i + 1) (f ys[i] :: acc) (by omega) (by omega) (by simp; omega) (by
            intro d hd
            rcases List.mem_cons.mp hd with rfl | hd
            · exact e5
            · exact h4 d hd)
          rw [this, i1, hdr, List.filter_cons, if_pos hp]
          refine ⟨by simp only [List.map_cons, List.reverse_cons, List.append_assoc, List.singleton_append], fun d hd => ?_⟩
          rw [List.map_cons] at hd
          rcases List.mem_cons.mp hd with rfl | hd
          · exact e5.1
          · exact i2 d hd
        · simp only [hp, if_neg, Bool.false_eq_true]
          obtain ⟨i1, i2⟩ := ih (i + 1) acc (by omega) (by omega) (by omega) h4
          rw [if_neg (by simp), i1, hdr, List.filter_cons, if_neg hp]
          exact ⟨rfl, i2⟩
      · have : ys.length = i := by omega
        rw [List.getElem?_eq_none (by omega), List.drop_eq_nil_of_le (by omega)]
        simp
  rw [ev, e1, bnd_ok]
  obtain ⟨k1, hfx⟩ := key turnsMax 0 [] (Nat.zero_le _) (by unfold turnsMax; omega) (Nat.zero_le _) (by simp)
  rw [k1, bndN_ok]
  unfold compEnd
  have hg : ∀ o : O, (m1 ++ [o])[m1.length]? = some o := fun o => by simp
  rw [hg]
  simp only [List.append_nil, List.reverse_reverse, List.drop_zero] at hfx ⊢
  have : ∀ o : O, (m1 ++ [o]).set m1.length (.lst ((ys.filter p).map f)) = m1 ++ [.lst ((ys.filter p).map f)] := fun o => by
    rw [List.set_append_right _ _ (Nat.le_refl _), Nat.sub_self, List.set_cons_zero]
  rw [this]
  unfold clean
  have ht : (m1 ++ [O.lst ((ys.filter p).map f)]).take m1.length = m1 := by simp
  rw [ht, if_pos w.1]
  simp only [hg, Nat.lt_irrefl, if_false]
  rw [if_pos (bndDs_iff.mpr fun d hd => hfx d hd _)]
theorem t_nil : evTs C .nil env m = .ok true m := by rw [evTs]
theorem t_one {e : Ex} {x : D} {c : Bool} (h : ev C e env m = .ok x m1) (ht : truV m1 x = some c) : evTs C (.cons e .nil) env m = .ok c m1 := by
  rw [evTs, h, bnd_ok, ht]
  cases c with
  | true => exact t_nil
  | false => rfl
theorem t_oneB {e : Ex} {c : Bool} (h : ev C e env m = .ok (.bl c) m1) : evTs C (.cons e .nil) env m = .ok c m1 := t_one h rfl
/-- with no test -/
theorem a_comp0 {α : Type} {g f : α → D} {tg : Tg} {src : Sr} {own : List Nat} {elt : Ex} {v : SrcV} (ys : List α) (w : WF κ m1)
    (e1 : evSr C src env m = .ok v m1) (e2 : ∀ acc i, v.at (m1 ++ [O.acc acc]) i = some (ys.map g)[i]?)
    (h : ∀ y ∈ ys, ∃ env', asgT tg (g y) (wipeE env own) = some env' ∧ ∀ m' acc, m' = m1 ++ [O.acc acc] → WF κ m' → ev C elt env' m' = .ok (f y) m' ∧ Fk κ (f y))
    (hl : ys.length ≤ 1000000) : ev C (.comp tg src .nil elt own) env m = .ok (.lst (ys.map f)) m1 := by
  have := a_comp (C := C) (env := env) (p := fun _ => true) (g := g) (f := f) (ifs := .nil) (own := own) (tg := tg) (elt := elt) ys w e1 e2 (fun y hy => by
    obtain ⟨env', q1, q2⟩ := h y hy
    exact ⟨env', q1, fun m' acc e w' => ⟨t_nil, fun _ => q2 m' acc e w'⟩⟩) hl
  rw [List.filter_eq_self.mpr fun _ _ => rfl] at this
  exact this
theorem at_tup {α : Type} (g : α → D) (ys : List α) (m : Mem) (i : Nat) : (SrcV.tup (ys.map g)).at m i = some (ys.map g)[i]? := rfl
theorem at_lst {α : Type} (g : α → D) (ys : List α) (m : Mem) (i : Nat) : (SrcV.lst (ys.map g)).at m i = some (ys.map g)[i]? := rfl
theorem at_rng (lo : Int) (n : Nat) (m : Mem) (i : Nat) : (SrcV.rng lo n).at m i = some ((List.range n).map fun (k : Nat) => D.int (lo + (k : Int)))[i]? := by
  simp only [SrcV.at]
  by_cases hi : i < n
  · simp [hi]
  · simp [hi]
/-! loops -/
/-- a loop that goes to its end; J: what the names hold that nobody asks for -/
theorem for_st {α σ J : Type} {g : Nat → α → D} {src : SrcV} {tg : Tg} {body : Env → Mem → SRes} (xs : List α) (step : σ → α → σ) (E : σ → J → Env) (M : σ → Mem) (Inv : Nat → σ → Prop)
    (hsrc : ∀ s i, Inv i s → i ≤ xs.length → src.at (M s) i = some (xs[i]?.map (g i)))
    (hb : ∀ i (hi : i < xs.length) s j, Inv i s → ∃ env1 j', asgT tg (g i xs[i]) (E s j) = some env1 ∧ body env1 (M s) = .ok .nx (E (step s xs[i]) j') (M (step s xs[i])) ∧ Inv (i + 1) (step s xs[i]))
    (hl : xs.length < 16000000) (s0 : σ) (j0 : J) (h0 : Inv 0 s0) : ∃ j', forLoop src tg body turnsMax 0 (E s0 j0) (M s0) = .ok .nx (E (xs.foldl step s0) j') (M (xs.foldl step s0)) ∧ Inv xs.length (xs.foldl step s0) := by
  have key : ∀ (n i : Nat) (s : σ) (j : J), i ≤ xs.length → xs.length - i < n → Inv i s → ∃ j', forLoop src tg body n i (E s j) (M s) = .ok .nx (E ((xs.drop i).foldl step s) j') (M ((xs.drop i).foldl step s)) ∧ Inv xs.length ((xs.drop i).foldl step s) := by
    intro n
    induction n with
    | zero => intro i s j h1 h2; omega
    | succ n ih =>
      intro i s j h1 h2 hI
      by_cases hi : i < xs.length
      · obtain ⟨env1, j1, q1, q2, q3⟩ := hb i hi s j hI
        obtain ⟨j2, q4, q5⟩ := ih (i + 1) _ j1 (by omega) (by omega) q3
        rw [List.drop_eq_getElem_cons hi, List.foldl_cons]
        refine ⟨j2, ?_, q5⟩
        simp only [forLoop, hsrc s i hI h1, List.getElem?_eq_getElem hi, Option.map_some, q1, q2, thn_nx, q4]
      · have : i = xs.length := by omega
        subst this
        rw [List.drop_length]
        refine ⟨j, ?_, hI⟩
        simp only [forLoop, hsrc s _ hI h1, List.getElem?_eq_none (Nat.le_refl _), Option.map_none, List.foldl_nil]
  have := key turnsMax 0 s0 j0 (Nat.zero_le _) (by unfold turnsMax; omega) h0
  simpa using this
end
/-! calls -/
section
variable {P : Nat → Option DefI} {L x : Nat} {ds : List D} {m m1 : Mem}
theorem c_ok {I : DefI} {fr : Bool} {d d' : D} {env' : Env} {m2 : Mem} (hP : P x = some I) (ha : ds.length = I.arity) (h : exs (run P L) I.body (ds.map some ++ List.replicate (I.slots - ds.length) none) m = .ok (.rt fr d) env' m1) (hf : (I.ff && !fr && isL d) = false) (hc : clean m.length d m1 = (d', m2)) : run P (L + 1) x ds m = .ok d' m2 := by
  rw [run, callD, hP]
  simp only [ha, if_true]
  rw [← ha, h]
  simp only [hf, Bool.false_eq_true, if_false, hc]
theorem c_exc {I : DefI} {c : Nat} {fs : List D} {d' : D} {env' : Env} {m2 : Mem} (hP : P x = some I) (ha : ds.length = I.arity) (h : exs (run P L) I.body (ds.map some ++ List.replicate (I.slots - ds.length) none) m = .exc c fs env' m1) (hc : clean m.length .non m1 = (d', m2)) : run P (L + 1) x ds m = .exc c fs m2 := by
  rw [run, callD, hP]
  simp only [ha, if_true]
  rw [← ha, h]
  simp only [hc]
theorem cl_fx {d : D} {l : List O} (w : WF κ m) (hd : Fx d) : clean m.length d (m ++ l) = (d, m) := by
  have ht : (m ++ l).take m.length = m := by simp
  unfold clean
  rw [ht, if_pos w.1]
  have hb := hd m.length
  cases d with
  | ref n => exact absurd rfl (hd.noref n)
  | _ => simp only [hb, if_true]
theorem cl_id {d : D} (w : WF κ m) (hd : Fx d) : clean m.length d m = (d, m) := by
  have := cl_fx (l := []) w hd
  rwa [List.append_nil] at this
theorem cl_ref {j : Nat} {l : List O} {ds : List D} (w : WF κ m) (hj : l[j]? = some (.lst ds)) (hd : ∀ d ∈ ds, Fx d) : clean m.length (.ref (m.length + j)) (m ++ l) = (.lst ds, m) := by
  have ht : (m ++ l).take m.length = m := by simp
  have hg : (m ++ l)[m.length + j]? = some (.lst ds) := by
    rw [List.getElem?_append_right (by omega), Nat.add_sub_cancel_left]
    exact hj
  unfold clean
  rw [ht, if_pos w.1]
  simp only [hg]
  rw [if_neg (by omega), if_pos (bndDs_iff.mpr fun d h => hd d h _)]
end
end MP

/-! Things in the memory behind the first ones; data by their own kind. -/
namespace MP
open PySem L2 PySem.Spec PyProof.Rows
variable {κ : Bool}
section
variable {C : Nat → List D → Mem → Res D} {env : Env} {m : Mem} {l l' : List O} {j : Nat}
theorem loc_get : (m ++ l)[m.length + j]? = l[j]? := by
  rw [List.getElem?_append_right (by omega), Nat.add_sub_cancel_left]
theorem loc_set (o : O) : (m ++ l).set (m.length + j) o = m ++ l.set j o := by
  rw [List.set_append_right _ _ (by omega), Nat.add_sub_cancel_left]
theorem a_newLl {es : Exs} {ds : List D} (h : evs C es env (m ++ l) = .ok ds (m ++ l')) (hl : Nat.ble ds.length 1000 = true) : ev C (.newL es) env (m ++ l) = .ok (.ref (m.length + l'.length)) (m ++ (l' ++ [.lst ds])) := by
  rw [a_newL h hl, List.length_append, List.append_assoc]
theorem a_dictl : ev C .emptyDict env (m ++ l) = .ok (.ref (m.length + l.length)) (m ++ (l ++ [.dic []])) := by
  rw [a_dict, List.length_append, List.append_assoc]
theorem a_thawLl {a : Ex} {ds : List D} (ha : ev C a env (m ++ l) = .ok (.lst ds) (m ++ l')) (h : (noLs ds && (m ++ l').all noO) = true) : ev C (.thaw a) env (m ++ l) = .ok (.ref (m.length + l'.length)) (m ++ (l' ++ [.lst ds])) := by
  rw [a_thawL ha h, List.length_append, List.append_assoc]
theorem v_ixL {ds : List D} {i : Int} {d : D} (hj : l[j]? = some (.lst ds)) (h : atI ds i = some d) : ixV (m ++ l) (.ref (m.length + j)) (.int i) = some d := by
  simp only [ixV, loc_get, hj, h]
theorem v_setL {ds : List D} {i : Int} {q : Nat} {v : D} (hj : l[j]? = some (.lst ds)) (h : ixN ds.length i = some q) : setV (m ++ l) (.ref (m.length + j)) (.int i) v = some (m ++ l.set j (.lst (ds.set q v))) := by
  simp only [setV, loc_get, hj, h, loc_set]
theorem v_append {ds : List D} {d : D} (hj : l[j]? = some (.lst ds)) (h : ds.length ≤ 1000000) : methV .append (m ++ l) (.ref (m.length + j)) [d] = some (.non, m ++ l.set j (.lst (ds ++ [d]))) := by
  simp only [methV, loc_get, hj, loc_set]
  rw [if_pos (by rw [sizeLine_eq]; omega)]
theorem v_extend {ds es : List D} (hj : l[j]? = some (.lst ds)) (h : ds.length + es.length ≤ 1000000) : methV .extend (m ++ l) (.ref (m.length + j)) [.lst es] = some (.non, m ++ l.set j (.lst (ds ++ es))) := by
  simp only [methV, loc_get, hj, loc_set]
  rw [if_pos (by rw [sizeLine_eq]; omega)]
theorem v_pop {ds : List D} {d : D} (hj : l[j]? = some (.lst (ds ++ [d]))) : methV .pop (m ++ l) (.ref (m.length + j)) [] = some (d, m ++ l.set j (.lst ds)) := by
  simp only [methV, loc_get, hj, loc_set]
  simp
theorem v_clsL {ds : List D} (hj : l[j]? = some (.lst ds)) : mCls (m ++ l) (.ref (m.length + j)) = some "list" := by
  simp only [mCls, loc_get, hj]
theorem v_clsD {kvs : List (Key × D)} (hj : l[j]? = some (.dic kvs)) : mCls (m ++ l) (.ref (m.length + j)) = some "dict" := by
  simp only [mCls, loc_get, hj]
theorem v_tuple {ds : List D} (hj : l[j]? = some (.lst ds)) : callV .tuple (m ++ l) [.ref (m.length + j)] = some (.tup ds, m ++ l) := by
  simp only [callV, seqV, loc_get, hj, Option.map_some]
theorem v_lenL {ds : List D} (hj : l[j]? = some (.lst ds)) : callV .len (m ++ l) [.ref (m.length + j)] = some (.int (ds.length : Nat), m ++ l) := by
  simp only [callV, loc_get, hj]
theorem v_in {kvs : List (Key × D)} {i : Int} (hj : l[j]? = some (.dic kvs)) : cmpV .inn (m ++ l) (.int i) (.ref (m.length + j)) = some (getD? kvs (.inl i)).isSome := by
  simp only [cmpV, inV2, loc_get, hj, key?]
theorem v_notIn {kvs : List (Key × D)} {i : Int} (hj : l[j]? = some (.dic kvs)) : cmpV .notIn (m ++ l) (.int i) (.ref (m.length + j)) = some (!(getD? kvs (.inl i)).isSome) := by
  simp only [cmpV, inV2, loc_get, hj, key?, Option.map_some]
theorem v_setD {kvs : List (Key × D)} {i : Int} {v : D} (hj : l[j]? = some (.dic kvs)) (h : kvs.length ≤ 1000000) : setV (m ++ l) (.ref (m.length + j)) (.int i) v = some (m ++ l.set j (.dic (putD kvs (.inl i) v))) := by
  simp only [setV, loc_get, hj, key?, loc_set]
  rw [if_pos (by rw [sizeLine_eq]; omega)]
end
section
variable {P : Nat → Option DefI} {L x : Nat} {ds : List D} {m : Mem} {l : List O}
theorem WF.nil (w : WF κ m) : WF κ (m ++ []) := by rwa [List.append_nil]
theorem WF.one (w : WF κ m) {o : O} (h : ∀ k, bndO k o = true) (h2 : κ = true → noO o = true) : WF κ (m ++ [o]) := w.push h h2
theorem WF.app (w : WF κ m) (h : ∀ o ∈ l, (∀ k, bndO k o = true) ∧ (κ = true → noO o = true)) : WF κ (m ++ l) := by
  refine ⟨?_, fun hk => ?_⟩
  · rw [List.all_append, Bool.and_eq_true]
    exact ⟨List.all_eq_true.mpr fun x hx => bndO_mono (by simp) x (List.all_eq_true.mp w.1 x hx), List.all_eq_true.mpr fun x hx => (h x hx).1 _⟩
  · rw [List.all_append, Bool.and_eq_true]
    exact ⟨w.2 hk, List.all_eq_true.mpr fun x hx => (h x hx).2 hk⟩
/-- a call, its own things behind the memory -/
theorem c_okl {I : DefI} {fr : Bool} {d d' : D} {env' : Env} {m2 : Mem} (hP : P x = some I) (ha : ds.length = I.arity) (h : exs (run P L) I.body (ds.map some ++ List.replicate (I.slots - ds.length) none) (m ++ []) = .ok (.rt fr d) env' (m ++ l)) (hf : (I.ff && !fr && isL d) = false) (hc : clean m.length d (m ++ l) = (d', m2)) : run P (L + 1) x ds m = .ok d' m2 := by
  rw [List.append_nil] at h
  exact c_ok hP ha h hf hc
theorem c_excl {I : DefI} {c : Nat} {fs : List D} {env' : Env} (hP : P x = some I) (ha : ds.length = I.arity) (w : WF κ m) (h : exs (run P L) I.body (ds.map some ++ List.replicate (I.slots - ds.length) none) (m ++ []) = .exc c fs env' (m ++ l)) : run P (L + 1) x ds m = .exc c fs m := by
  rw [List.append_nil] at h
  exact c_exc hP ha h (cl_fx w Fx.non)
end
/-! ### data by their own kind -/
class Enc (α : Type) [DecidableEq α] where
  e : α → D
  p : α → PyData
  dep : Nat
  sm : α → Prop
  pd : ∀ a, pd0 (e a) = some (p a)
  lay : ∀ a, (p a).canLay0 = true
  depth : ∀ a, (p a).depth ≤ dep
  eqv : ∀ a b, PyData.eqv (p a) (p b) = decide (a = b)
  fk : ∀ κ a, Fk κ (e a)
  pl : ∀ a, sm a → pln dep (e a) = true
open Enc
instance : Enc Int where
  e i := .int i
  p i := .int i
  dep := 1
  sm _ := True
  pd _ := by simp [pd0]
  lay _ := by simp [PyData.canLay0]
  depth _ := by simp [PyData.depth]
  eqv a b := by
    simp only [PyData.eqv]
    rfl
  fk _ i := Fk.int i
  pl _ _ := rfl
instance : Enc Nat where
  e i := .int i
  p i := .int i
  dep := 1
  sm _ := True
  pd _ := by simp [pd0]
  lay _ := by simp [PyData.canLay0]
  depth _ := by simp [PyData.depth]
  eqv a b := by
    simp only [PyData.eqv]
    rw [Bool.eq_iff_iff]
    simp
    omega
  fk _ i := Fk.int i
  pl _ _ := rfl
theorem pd0s_map {α : Type} {e : α → D} {p : α → PyData} (h : ∀ a, pd0 (e a) = some (p a)) : ∀ xs : List α, pd0s (xs.map e) = some (xs.map p)
  | [] => by simp [pd0s]
  | x :: xs => by simp [pd0s, h x, pd0s_map h xs]
theorem lay_map {α : Type} {p : α → PyData} (h : ∀ a, (p a).canLay0 = true) : ∀ xs : List α, PyData.canLayAll0 (xs.map p) = true
  | [] => by simp [PyData.canLayAll0]
  | x :: xs => by simp [PyData.canLayAll0, h x, lay_map h xs]
theorem dep_map {α : Type} {p : α → PyData} {n : Nat} (h : ∀ a, (p a).depth ≤ n) : ∀ xs : List α, PyData.depthAll (xs.map p) ≤ n
  | [] => by simp [PyData.depthAll]
  | x :: xs => by
    simp only [List.map_cons, PyData.depthAll]
    exact Nat.max_le.mpr ⟨h x, dep_map h xs⟩
theorem eqv_map {α : Type} [DecidableEq α] {p : α → PyData} (h : ∀ a b, PyData.eqv (p a) (p b) = decide (a = b)) : ∀ xs ys : List α, PyData.eqvAll (xs.map p) (ys.map p) = decide (xs = ys)
  | [], [] => by simp [PyData.eqvAll]
  | [], y :: ys => by simp [PyData.eqvAll]
  | x :: xs, [] => by simp [PyData.eqvAll]
  | x :: xs, y :: ys => by
    simp only [List.map_cons, PyData.eqvAll, h x y, eqv_map h xs ys, List.cons.injEq]
    rw [Bool.decide_and]
theorem pln_mono : ∀ {n k : Nat} {d : D}, n ≤ k → pln n d = true → pln k d = true
  | 0, 0, _, _, h => h
  | 0, k + 1, d, _, h => by cases d <;> simp_all [pln]
  | n + 1, 0, _, h, _ => by omega
  | n + 1, k + 1, d, hk, h => by
    cases d with
    | tup ds =>
      simp only [pln, Bool.and_eq_true, List.all_eq_true] at h ⊢
      exact ⟨h.1, fun d hd => pln_mono (by omega) (h.2 d hd)⟩
    | lst ds =>
      simp only [pln, Bool.and_eq_true, List.all_eq_true] at h ⊢
      exact ⟨h.1, fun d hd => pln_mono (by omega) (h.2 d hd)⟩
    | _ => simp_all [pln]
instance {α : Type} [DecidableEq α] [Enc α] : Enc (List α) where
  e xs := .tup (xs.map e)
  p xs := .tuple (xs.map p)
  dep := dep α + 1
  sm xs := xs.length ≤ 1000000 ∧ ∀ x ∈ xs, sm x
  pd xs := by simp only [pd0, pd0s_map pd, Option.map_some]
  lay xs := by simp only [PyData.canLay0, lay_map lay]
  depth xs := by
    have := dep_map (depth (α := α)) xs
    simp only [PyData.depth]
    omega
  eqv a b := by simp only [PyData.eqv, eqv_map eqv]
  fk κ xs := Fk.tup fun d hd => by
    obtain ⟨x, _, rfl⟩ := List.mem_map.mp hd
    exact fk κ x
  pl xs h := by
    simp only [pln, Bool.and_eq_true, decide_eq_true_eq, List.length_map, List.all_eq_true]
    refine ⟨h.1, fun d hd => ?_⟩
    obtain ⟨x, hx, rfl⟩ := List.mem_map.mp hd
    exact pl x (h.2 x hx)
instance {α β : Type} [DecidableEq α] [DecidableEq β] [Enc α] [Enc β] : Enc (α × β) where
  e x := .tup [e x.1, e x.2]
  p x := .tuple [p x.1, p x.2]
  dep := max (dep α) (dep β) + 1
  sm x := sm x.1 ∧ sm x.2
  pd x := by simp [pd0, pd0s, pd]
  lay x := by simp [PyData.canLay0, PyData.canLayAll0, lay]
  depth x := by
    have := depth x.1
    have := depth x.2
    simp only [PyData.depth, PyData.depthAll]
    omega
  eqv a b := by
    simp only [PyData.eqv, PyData.eqvAll, Enc.eqv, Bool.and_true]
    rw [← Bool.decide_and]
    exact decide_eq_decide.mpr (by rw [Prod.ext_iff])
  fk κ x := Fk.tup fun d hd => by
    rcases List.mem_cons.mp hd with rfl | hd
    · exact fk κ _
    · rcases List.mem_cons.mp hd with rfl | hd
      · exact fk κ _
      · simp at hd
  pl x h := by
    simp only [pln, Bool.and_eq_true, decide_eq_true_eq, List.all_eq_true]
    refine ⟨by simp, fun d hd => ?_⟩
    rcases List.mem_cons.mp hd with rfl | hd
    · exact pln_mono (by omega) (pl _ h.1)
    · rcases List.mem_cons.mp hd with rfl | hd
      · exact pln_mono (by omega) (pl _ h.2)
      · simp at hd
theorem fx_e {α : Type} [DecidableEq α] [Enc α] (a : α) : Fx (e a) := (fk false a).1
theorem pdV_e {α : Type} [DecidableEq α] [Enc α] (m : Mem) (a : α) : pdV m (e a) = some (p a) := by
  have h := pd a
  cases he : e a with
  | ref n => exact absurd he ((fx_e a).noref n)
  | _ => rw [he] at h; exact h
theorem shaped_e {α : Type} [DecidableEq α] [Enc α] (h : dep α ≤ 64) (a : α) : SeqAt.shaped (p a) = true := by
  have := depth a
  unfold SeqAt.shaped
  rw [lay, Bool.true_and, decide_eq_true_eq]
  omega
theorem eq_e {α : Type} [DecidableEq α] [Enc α] (h : dep α ≤ 64) (m : Mem) (a b : α) : cmpV .eq m (e a) (e b) = some (decide (a = b)) := by
  simp only [cmpV, eqV2, pdV_e, shaped_e h, Bool.and_true, if_true, Enc.eqv]
theorem ne_e {α : Type} [DecidableEq α] [Enc α] (h : dep α ≤ 64) (m : Mem) (a b : α) : cmpV .ne m (e a) (e b) = some (!decide (a = b)) := by
  simp only [cmpV, eqV2, pdV_e, shaped_e h, Bool.and_true, if_true, Enc.eqv, Option.map_some]
theorem eq_tN (m : Mem) (a b : List Nat) : cmpV .eq m (tN a) (tN b) = some (decide (a = b)) := eq_e (by decide) m a b
end MP

/-! Orders as a group; moves; the full turn: plain mathematics. -/
namespace MP
theorem getD_mem {o : List Nat} {i : Nat} (h : i < o.length) : o.getD i 0 ∈ o := by
  simp [List.getD, h]
theorem isOrd.lt {n : Nat} {o : List Nat} (h : isOrd n o) {i : Nat} (hi : i < n) : o.getD i 0 < n := h.2.1 _ (getD_mem (by rw [h.1]; exact hi))
theorem isOrd.inj {n : Nat} {o : List Nat} (h : isOrd n o) {i j : Nat} (hi : i < n) (hj : j < n) (e : o.getD i 0 = o.getD j 0) : i = j := by
  have hi' : i < o.length := by rw [h.1]; exact hi
  have hj' : j < o.length := by rw [h.1]; exact hj
  simp only [List.getD, List.getElem?_eq_getElem hi', List.getElem?_eq_getElem hj', Option.getD_some] at e
  exact (List.getElem_inj h.2.2.2).mp e
theorem isOrd.surj {n : Nat} {o : List Nat} (h : isOrd n o) {j : Nat} (hj : j < n) : ∃ i, i < n ∧ o.getD i 0 = j := by
  obtain ⟨i, hi, e⟩ := List.getElem_of_mem (h.2.2.1 j hj)
  exact ⟨i, by rw [← h.1]; exact hi, by simp [List.getD, hi, e]⟩
theorem ord_ext {n : Nat} {o p : List Nat} (ho : o.length = n) (hp : p.length = n) (h : ∀ i, i < n → o.getD i 0 = p.getD i 0) : o = p := by
  apply List.ext_getElem (by rw [ho, hp])
  intro i h1 h2
  have := h i (by omega)
  simpa [List.getD, h1, h2] using this
theorem isOrd_of {n : Nat} {o : List Nat} (h1 : o.length = n) (h2 : ∀ i, i < n → o.getD i 0 < n) (h3 : ∀ j, j < n → ∃ i, i < n ∧ o.getD i 0 = j) (h4 : ∀ i j, i < n → j < n → o.getD i 0 = o.getD j 0 → i = j) : isOrd n o := by
  refine ⟨h1, fun i hi => ?_, fun j hj => ?_, ?_⟩
  · obtain ⟨k, hk, e⟩ := List.getElem_of_mem hi
    have := h2 k (by omega)
    simp only [List.getD, List.getElem?_eq_getElem hk, Option.getD_some, e] at this
    exact this
  · obtain ⟨i, hi, e⟩ := h3 j hj
    rw [← e]
    exact getD_mem (by omega)
  · rw [List.Nodup, List.pairwise_iff_getElem]
    intro i j hi hj hij e
    have := h4 i j (by omega) (by omega) (by simp [List.getD, hi, hj, e])
    omega
theorem behind_get {o p : List Nat} {i : Nat} (h : i < o.length) : (behind o p).getD i 0 = p.getD (o.getD i 0) 0 := by
  simp [behind, List.getD, h]
theorem back_getget {n : Nat} {o : List Nat} (h : isOrd n o) {i : Nat} (hi : i < n) : (back o).getD (o.getD i 0) 0 = i := by
  have hi' : i < o.length := by rw [h.1]; exact hi
  have hl := h.lt hi
  have e : o.getD i 0 = o[i] := by simp [List.getD, hi']
  have hl2 : o[i] < o.length := by rw [← e, h.1]; exact hl
  rw [e]
  simp only [back, List.getD, List.getElem?_map, List.getElem?_range hl2, Option.map_some, Option.getD_some]
  exact h.2.2.2.idxOf_getElem i hi'
theorem back_lt {n : Nat} {o : List Nat} (h : isOrd n o) {j : Nat} (hj : j < n) : (back o).getD j 0 < n := by
  obtain ⟨i, hi, e⟩ := h.surj hj
  rw [← e, back_getget h hi]
  exact hi
theorem get_back {n : Nat} {o : List Nat} (h : isOrd n o) {j : Nat} (hj : j < n) : o.getD ((back o).getD j 0) 0 = j := by
  obtain ⟨i, hi, e⟩ := h.surj hj
  rw [← e, back_getget h hi]
theorem isOrd.bk {n : Nat} {o : List Nat} (h : isOrd n o) : isOrd n (MP.back o) := by
  refine isOrd_of (by simp [MP.back, h.1]) (fun i hi => back_lt h hi) (fun j hj => ⟨o.getD j 0, h.lt hj, back_getget h hj⟩) (fun i j hi hj e => ?_)
  rw [← get_back h hi, e, get_back h hj]
theorem isOrd.beh {n : Nat} {o p : List Nat} (ho : isOrd n o) (hp : isOrd n p) : isOrd n (behind o p) := by
  have g : ∀ i, i < n → (behind o p).getD i 0 = p.getD (o.getD i 0) 0 := fun i hi => behind_get (by rw [ho.1]; exact hi)
  refine isOrd_of (by simp [behind, ho.1]) (fun i hi => ?_) (fun j hj => ?_) (fun i j hi hj e => ?_)
  · rw [g i hi]; exact hp.lt (ho.lt hi)
  · obtain ⟨k, hk, e⟩ := hp.surj hj
    obtain ⟨i, hi, e2⟩ := ho.surj hk
    exact ⟨i, hi, by rw [g i hi, e2, e]⟩
  · rw [g i hi, g j hj] at e
    exact ho.inj hi hj (hp.inj (ho.lt hi) (ho.lt hj) e)
theorem range_get {n i : Nat} (h : i < n) : (List.range n).getD i 0 = i := by simp [List.getD, h]
theorem isOrd_still (n : Nat) : isOrd n (List.range n) :=
  isOrd_of (by simp) (fun i hi => by rw [range_get hi]; exact hi) (fun j hj => ⟨j, hj, range_get hj⟩) (fun i j hi hj e => by rwa [range_get hi, range_get hj] at e)
/-- the orders of n things -/
abbrev Or (n : Nat) := {o : List Nat // isOrd n o}
namespace Or
variable {n : Nat}
instance : Mul (Or n) := ⟨fun a b => ⟨behind a.1 b.1, a.2.beh b.2⟩⟩
def inv (a : Or n) : Or n := ⟨MP.back a.1, a.2.bk⟩
def one : Or n := ⟨List.range n, isOrd_still n⟩
theorem ext {a b : Or n} (h : ∀ i, i < n → a.1.getD i 0 = b.1.getD i 0) : a = b := Subtype.ext (ord_ext a.2.1 b.2.1 h)
theorem mul_get (a b : Or n) {i : Nat} (h : i < n) : (a * b).1.getD i 0 = b.1.getD (a.1.getD i 0) 0 := behind_get (by rw [a.2.1]; exact h)
theorem assoc (a b c : Or n) : a * b * c = a * (b * c) := ext fun i hi => by
  rw [mul_get _ _ hi, mul_get _ _ hi, mul_get _ _ hi, mul_get _ _ (a.2.lt hi)]
theorem one_mul (a : Or n) : one * a = a := ext fun i hi => by
  rw [mul_get _ _ hi]; simp only [one, range_get hi]
theorem mul_one (a : Or n) : a * one = a := ext fun i hi => by
  rw [mul_get _ _ hi]; simp only [one, range_get (a.2.lt hi)]
theorem inv_mul (a : Or n) : inv a * a = one := ext fun i hi => by
  rw [mul_get _ _ hi]; simp only [inv, one, range_get hi, get_back a.2 hi]
theorem mul_inv (a : Or n) : a * inv a = one := ext fun i hi => by
  rw [mul_get _ _ hi]; simp only [inv, one, range_get hi, back_getget a.2 hi]
theorem inv_mul_l (a b : Or n) : inv a * (a * b) = b := by rw [← assoc, inv_mul, one_mul]
theorem mul_inv_l (a b : Or n) : a * (inv a * b) = b := by rw [← assoc, mul_inv, one_mul]
theorem inv_of {a b : Or n} (h : a * b = one) : inv a = b := by
  have := inv_mul_l a b
  rw [h, mul_one] at this
  exact this
theorem inv_inv (a : Or n) : inv (inv a) = a := inv_of (inv_mul a)
theorem inv_prod (a b : Or n) : inv (a * b) = inv b * inv a := inv_of (by rw [assoc, mul_inv_l, mul_inv])
theorem inv_one : inv (one : Or n) = one := inv_of (one_mul _)
/-- a turned by b -/
def tur (a b : Or n) : Or n := inv b * a * b
theorem tur_val (a b : Or n) : (tur a b).1 = turned a.1 b.1 := rfl
end Or
end MP
namespace MP
namespace Or
variable {n : Nat}
/-- a move at the first two -/
def mv2 (s : Bool) : List (Or n) → List (Or n)
  | a :: b :: r => if s = true then b :: tur a b :: r else tur b (inv a) :: a :: r
  | r => r
/-- a move -/
def mv : Nat → Bool → List (Or n) → List (Or n)
  | 0, s, os => mv2 s os
  | i + 1, s, a :: r => a :: mv i s r
  | _ + 1, _, [] => []
def mvs (ms : List (Nat × Bool)) (os : List (Or n)) : List (Or n) := ms.foldl (fun os m => mv m.1 m.2 os) os
def prod : List (Or n) → Or n
  | [] => one
  | a :: r => a * prod r
theorem mv2_len (s : Bool) (os : List (Or n)) : (mv2 s os).length = os.length := by
  match os with
  | [] => rfl
  | [a] => rfl
  | a :: b :: r => cases s <;> rfl
theorem mv_len : ∀ (i : Nat) (s : Bool) (os : List (Or n)), (mv i s os).length = os.length
  | 0, s, os => mv2_len s os
  | i + 1, s, a :: r => by simp [mv, mv_len i s r]
  | _ + 1, _, [] => rfl
theorem mvs_len (ms : List (Nat × Bool)) : ∀ os : List (Or n), (mvs ms os).length = os.length := by
  induction ms with
  | nil => intro os; rfl
  | cons m ms ih => intro os; show (mvs ms (mv m.1 m.2 os)).length = _; rw [ih, mv_len]
theorem prod_mv2 (s : Bool) (os : List (Or n)) : prod (mv2 s os) = prod os := by
  match os with
  | [] => rfl
  | [a] => rfl
  | a :: b :: r =>
    cases s
    · simp only [mv2, Bool.false_eq_true, if_false, prod, tur, inv_inv, assoc, inv_mul_l]
    · simp only [mv2, if_true, prod, tur, assoc, mul_inv_l]
theorem prod_mv : ∀ (i : Nat) (s : Bool) (os : List (Or n)), prod (mv i s os) = prod os
  | 0, s, os => prod_mv2 s os
  | i + 1, s, a :: r => by simp [mv, prod, prod_mv i s r]
  | _ + 1, _, [] => rfl
theorem prod_mvs (ms : List (Nat × Bool)) : ∀ os : List (Or n), prod (mvs ms os) = prod os := by
  induction ms with
  | nil => intro os; rfl
  | cons m ms ih => intro os; show prod (mvs ms (mv m.1 m.2 os)) = _; rw [ih, prod_mv]
/-! turning is a homomorphism -/
theorem tur_mul (a b g : Or n) : tur (a * b) g = tur a g * tur b g := by
  simp only [tur, assoc, mul_inv_l]
theorem tur_inv (a g : Or n) : tur (inv a) g = inv (tur a g) := by
  simp only [tur, inv_prod, inv_inv, assoc]
theorem tur_tur (a b g : Or n) : tur (tur a b) g = tur (tur a g) (tur b g) := by
  simp only [tur, inv_prod, inv_inv, assoc, mul_inv_l, inv_mul_l]
theorem tur_by_mul (a b c : Or n) : tur a (b * c) = tur (tur a b) c := by
  simp only [tur, inv_prod, assoc]
theorem tur_self (a : Or n) : tur a a = a := by simp only [tur, assoc, inv_mul_l]
theorem tur_one (a : Or n) : tur a one = a := by simp only [tur, inv_one, one_mul, mul_one]
theorem mv2_map (g : Or n) (s : Bool) (os : List (Or n)) : mv2 s (os.map (tur · g)) = (mv2 s os).map (tur · g) := by
  match os with
  | [] => rfl
  | [a] => rfl
  | a :: b :: r => cases s <;> simp [mv2, tur_tur a b g, tur_tur b (inv a) g, tur_inv]
theorem mv_map (g : Or n) : ∀ (i : Nat) (s : Bool) (os : List (Or n)), mv i s (os.map (tur · g)) = (mv i s os).map (tur · g)
  | 0, s, os => mv2_map g s os
  | i + 1, s, a :: r => by simp [mv, mv_map g i s r]
  | _ + 1, _, [] => rfl
theorem mvs_map (g : Or n) (ms : List (Nat × Bool)) : ∀ os : List (Or n), mvs ms (os.map (tur · g)) = (mvs ms os).map (tur · g) := by
  induction ms with
  | nil => intro os; rfl
  | cons m ms ih => intro os; show mvs ms (mv m.1 m.2 _) = _; rw [mv_map, ih]; rfl
/-! a full turn -/
/-- the first one goes to the end -/
def swp (k : Nat) : List (Nat × Bool) := (List.range k).map fun i => (i, true)
theorem mvs_cons (a : Or n) (ms : List (Nat × Bool)) : ∀ (r : List (Or n)), mvs (ms.map fun m => (m.1 + 1, m.2)) (a :: r) = a :: mvs ms r := by
  induction ms with
  | nil => intro r; rfl
  | cons m ms ih => intro r; show mvs (ms.map _) (mv (m.1 + 1) m.2 (a :: r)) = _; simp only [mv, ih]; rfl
theorem swp_succ (k : Nat) : swp (k + 1) = (0, true) :: (swp k).map fun m => (m.1 + 1, m.2) := by
  simp only [swp, List.range_succ_eq_map, List.map_cons, List.map_map]
  rfl
theorem sweep : ∀ (r : List (Or n)) (a : Or n), mvs (swp r.length) (a :: r) = r ++ [tur a (prod r)]
  | [], a => by simp [swp, mvs, prod, tur_one]
  | b :: r, a => by
    rw [List.length_cons, swp_succ]
    show mvs ((swp r.length).map _) (b :: tur a b :: r) = _
    rw [mvs_cons, sweep r, prod, ← tur_by_mul]
    rfl
theorem mvs_append (ms ns : List (Nat × Bool)) (os : List (Or n)) : mvs (ms ++ ns) os = mvs ns (mvs ms os) := by simp [mvs]
def full (k : Nat) : Nat → List (Nat × Bool)
  | 0 => []
  | l + 1 => swp k ++ full k l
theorem full_part (P : Or n) : ∀ (l : Nat) (os ts : List (Or n)), os.length = l → prod (os ++ ts) = P → 1 ≤ (os ++ ts).length → mvs (full ((os ++ ts).length - 1) l) (os ++ ts) = ts ++ os.map (tur · P)
  | 0, os, ts, h, _, _ => by
    have : os = [] := List.length_eq_zero_iff.mp h
    subst this
    simp [full, mvs]
  | l + 1, a :: os, ts, h, hp, _ => by
    simp only [List.length_cons] at h
    simp only [full]
    rw [mvs_append]
    have e : (a :: os ++ ts).length - 1 = (os ++ ts).length := by simp
    rw [e]
    show mvs (full _ l) (mvs (swp (os ++ ts).length) (a :: (os ++ ts))) = _
    rw [sweep]
    have hP : tur a (prod (os ++ ts)) = tur a P := by
      rw [← hp]
      show _ = tur a (a * prod (os ++ ts))
      rw [tur_by_mul, tur_self]
    rw [hP, List.append_assoc]
    have hp2 : prod (os ++ (ts ++ [tur a P])) = P := by
      rw [← hP, ← List.append_assoc, ← sweep, prod_mvs]
      exact hp
    have e2 : (os ++ ts).length = (os ++ (ts ++ [tur a P])).length - 1 := by simp
    rw [e2, full_part P l os (ts ++ [tur a P]) (by omega) hp2 (by simp; omega)]
    simp
/-- THE full turn -/
theorem full_turn (os : List (Or n)) : mvs (full (os.length - 1) os.length) os = os.map (tur · (prod os)) := by
  cases os with
  | nil => rfl
  | cons a r =>
    have := full_part (prod (a :: r)) (a :: r).length (a :: r) [] rfl (by simp) (by simp)
    simpa using this
theorem full_any (os : List (Or n)) (ms : List (Nat × Bool)) : mvs (full (os.length - 1) os.length) (mvs ms os) = mvs ms (mvs (full (os.length - 1) os.length) os) := by
  have h := full_turn (mvs ms os)
  rw [mvs_len, prod_mvs] at h
  rw [h, full_turn, mvs_map]
/-! rules -/
theorem rule3 (s : Bool) : ∀ (i : Nat) (os : List (Or n)), i + 2 < os.length → mvs [(i, s), (i + 1, s), (i, s)] os = mvs [(i + 1, s), (i, s), (i + 1, s)] os
  | 0, a :: b :: c :: r, _ => by
    cases s <;> simp [mvs, mv, mv2, tur, inv_prod, inv_inv, assoc, inv_mul_l, mul_inv_l]
  | 0, [], h | 0, [_], h | 0, [_, _], h => by simp at h
  | i + 1, [], h => by simp at h
  | i + 1, a :: r, h => by
    have := rule3 s i r (by simp at h; omega)
    simp only [mvs, List.foldl_cons, List.foldl_nil, mv] at this ⊢
    rw [this]
theorem rule2_0 (s t : Bool) (j : Nat) (os : List (Or n)) : mv 0 s (mv (j + 2) t os) = mv (j + 2) t (mv 0 s os) := by
  match os with
  | [] => rfl
  | [a] => simp [mv, mv2]
  | a :: b :: r => cases s <;> simp [mv, mv2]
theorem rule2 (s t : Bool) : ∀ (i j : Nat) (os : List (Or n)), mv i s (mv (i + j + 2) t os) = mv (i + j + 2) t (mv i s os)
  | 0, j, os => by rw [Nat.zero_add]; exact rule2_0 s t j os
  | i + 1, j, [] => by
    rw [show i + 1 + j + 2 = (i + j + 2) + 1 by omega]
    rfl
  | i + 1, j, a :: r => by
    rw [show i + 1 + j + 2 = (i + j + 2) + 1 by omega]
    simp only [mv, rule2 s t i j r]
end Or
end MP

/-! Orders undone and turned, as the program does it. -/
namespace MP
open PySem L2 PySem.Spec PyProof.Rows
def nI (xs : List Nat) : List D := xs.map fun (n : Nat) => D.int (n : Nat)
def seenbyI : DefI := ⟨2, 5, false, (.cons (.asg (.name 2) (.thaw (.bin .mul (.lst (.cons (.lit (.int 0)) .nil)) (.callB .len (.cons (.var 0) .nil))))) (.cons (.forS (.pair (.cons (.name 3) (.cons (.name 4) .nil))) (.enum (.var 0)) (.cons (.setIx (.var 2) (.ix (.var 1) (.var 3)) (.ix (.var 1) (.var 4))) .nil)) (.cons (.ret true (.callB .tuple (.cons (.var 2) .nil))) .nil)))⟩
theorem getD_lt {xs : List Nat} {i : Nat} (h : i < xs.length) : xs.getD i 0 = xs[i] := by simp [List.getD, h]
theorem ix_tN2 {xs : List Nat} {i : Nat} (hi : i < xs.length) (m : Mem) : ixV m (tN xs) (.int (i : Nat)) = some (.int (xs.getD i 0 : Nat)) := by
  rw [ix_tN hi, getD_lt hi]
theorem zeros_mul {k : Nat} (m : Mem) (hl : k ≤ 1000) : binV .mul m (.lst [.int 0]) (.int (k : Nat)) = some (.lst (nI (List.replicate k 0))) := by
  have hc : (decide (-(2 ^ 63) ≤ ((k : Nat) : Int)) && decide (((k : Nat) : Int) < 2 ^ 63) && decide ([D.int 0].length * ((k : Nat) : Int).toNat ≤ sizeLine)) = true := by
    rw [sizeLine_eq, Int.toNat_natCast, List.length_singleton]
    simp only [Bool.and_eq_true, decide_eq_true_eq]
    omega
  rw [binV, if_pos hc, Int.toNat_natCast]
  have : (List.replicate k [D.int 0]).flatten = nI (List.replicate k 0) := by
    simp [nI]
  rw [this]
theorem noL_nI (xs : List Nat) : noLs (nI xs) = true := noLs_iff.mpr fun d hd => by
  obtain ⟨z, _, rfl⟩ := List.mem_map.mp hd
  simp [noL]
theorem fx_nI (xs : List Nat) : ∀ d ∈ nI xs, Fx d := fun d hd => by
  obtain ⟨z, _, rfl⟩ := List.mem_map.mp hd
  exact Fx.int _
theorem at_enT {α : Type} (g : α → D) (a0 : α) (ys : List α) (m : Mem) (i : Nat) : (SrcV.en (.tup (ys.map g))).at m i = some ((List.range ys.length)[i]?.map fun k => D.wtup [.int (i : Nat), g (ys.getD k a0)]) := by
  simp only [SrcV.at, Option.map_some, List.getElem?_map]
  by_cases hi : i < ys.length
  · simp [hi, List.getD]
  · simp [hi]
theorem ixn_nat {n k : Nat} (h : k < n) : ixN n ((k : Nat) : Int) = some k := by
  simp only [ixN]
  rw [if_pos (by omega), if_pos (by omega), Int.toNat_natCast]
theorem nI_set (xs : List Nat) (k v : Nat) : (nI xs).set k (.int (v : Nat)) = nI (xs.set k v) := by simp [nI]
theorem nI_len (xs : List Nat) : (nI xs).length = xs.length := by simp [nI]
/-- a list filled by places that are an order -/
def fillS (p q : List Nat) (s : List Nat) (k : Nat) : List Nat := s.set (p.getD k 0) (q.getD k 0)
def FillI (n : Nat) (p q : List Nat) (i : Nat) (s : List Nat) : Prop := s.length = n ∧ ∀ k, k < i → s.getD (p.getD k 0) 0 = q.getD k 0
theorem fill_step {n : Nat} {p q s : List Nat} {i : Nat} (hp : isOrd n p) (hi : i < n) (h : FillI n p q i s) : FillI n p q (i + 1) (fillS p q s i) := by
  refine ⟨by simp [fillS, h.1], fun k hk => ?_⟩
  have hpi := hp.lt hi
  by_cases hki : k = i
  · subst hki
    simp [fillS, List.getD, List.getElem?_set, h.1, show p[k]?.getD 0 < n from hpi]
  · have hne : p.getD i 0 ≠ p.getD k 0 := fun e => hki (hp.inj hi (by omega) e).symm
    have := h.2 k (by omega)
    rw [← this]
    simp only [fillS, List.getD, List.getElem?_set] at hne ⊢
    rw [if_neg hne]
theorem fill_end {n : Nat} {p q s : List Nat} (hp : isOrd n p) (h : FillI n p q n s) {j : Nat} (hj : j < n) : s.getD j 0 = q.getD ((back p).getD j 0) 0 := by
  have := h.2 _ (back_lt hp hj)
  rwa [get_back hp hj] at this
theorem all_push {m : Mem} {l : List O} (w : WF κ m) (h : l.all noO = true) (hk : κ = true) : (m ++ l).all noO = true := by
  rw [List.all_append, w.2 hk, h, Bool.and_true]
theorem seenby_gv {P : Nat → Option DefI} {L x n : Nat} {o p : List Nat} (hP : P x = some seenbyI) (ho : isOrd n o) (hp : isOrd n p) (hn : n ≤ 1000) : Gv true P (L + 1) x [tN o, tN p] (tN (turned o p)) := by
  intro m w
  have lo := ho.1
  have lp := hp.1
  have hq : ∀ k, k < n → (behind o p).getD k 0 = p.getD (o.getD k 0) 0 := fun k hk => behind_get (by omega)
  obtain ⟨j', hf, hI⟩ := for_st (src := .en (.tup (nI o))) (tg := .pair (.cons (.name 3) (.cons (.name 4) .nil))) (body := fun env' m' => exs (run P L) (.cons (.setIx (.var 2) (.ix (.var 1) (.var 3)) (.ix (.var 1) (.var 4))) .nil) env' m')
    (g := fun i k => D.wtup [.int (i : Nat), .int (o.getD k 0 : Nat)]) (List.range n) (fillS p (behind o p))
    (E := fun _ (j : Option D × Option D) => [some (tN o), some (tN p), some (.ref (m.length + 0)), j.1, j.2]) (M := fun s => m ++ [.lst (nI s)]) (Inv := FillI n p (behind o p))
    (fun s i _ _ => by rw [← lo]; exact at_enT _ 0 o _ i)
    (fun i hi s j hI => by
      have hi : i < n := by simpa using hi
      have e : (List.range n)[i] = i := by simp
      rw [e]
      refine ⟨_, (some (.int (i : Nat)), some (.int (o.getD i 0 : Nat))), rfl, ?_, fill_step hp hi hI⟩
      refine x_setIx (a_ix (a_var rfl) (a_var rfl) (ix_tN2 (by rw [lp]; exact ho.lt hi) _)) (a_var rfl) (a_ix (a_var rfl) (a_var rfl) (ix_tN2 (by omega) _)) (v_setL (l := [.lst (nI s)]) rfl (ixn_nat (by rw [nI_len, hI.1]; exact hp.lt hi))) ?_
      rw [nI_set, ← hq i hi]
      exact x_nil)
    (by simp; omega) (List.replicate n 0) (none, none) ⟨by simp, fun k hk => by omega⟩
  have hr : (List.range n).foldl (fillS p (behind o p)) (List.replicate n 0) = turned o p := by
    rw [List.length_range] at hI
    refine ord_ext (n := n) hI.1 ((hp.bk.beh ho).beh hp).1 fun j hj => ?_
    have hb := back_lt hp hj
    rw [fill_end hp hI hj, hq _ hb, turned, behind_get (by rw [(hp.bk.beh ho).1]; exact hj), behind_get (by rw [hp.bk.1]; exact hj)]
  rw [hr] at hf
  exact c_okl (m := m) hP rfl (x_asg (a_thawLl (l := []) (l' := []) (ds := nI (List.replicate n 0)) (a_bin (a_lst (s_cons a_lit s_nil) rfl) (a_callB (s_cons (a_var rfl) s_nil) (len_tN o _)) (by rw [lo]; exact zeros_mul _ hn)) (by rw [noL_nI, List.append_nil, w.2 rfl]; rfl)) rfl
    (x_for (r_enumT (a_var rfl)) hf (x_ret (a_callB (s_cons (a_var rfl) s_nil) (v_tuple (l := [.lst (nI (turned o p))]) rfl))))) rfl (cl_fx w (Fx.tN _))
end MP

/-! Rows of orders and moves as values; what is read of them; draws. -/
namespace MP
open PySem L2 PySem.Spec PyProof.Rows
variable {κ : Bool}
instance {n : Nat} : Enc (Or n) where
  e a := tN a.1
  p a := Enc.p a.1
  dep := 2
  sm a := Enc.sm a.1
  pd a := Enc.pd a.1
  lay a := Enc.lay a.1
  depth a := Enc.depth a.1
  eqv a b := by
    rw [Enc.eqv a.1 b.1]
    exact decide_eq_decide.mpr Subtype.ext_iff.symm
  fk κ a := Enc.fk κ a.1
  pl a h := Enc.pl a.1 h
section
variable {n : Nat}
abbrev eO (o : Or n) : D := tN o.1
abbrev eOs (os : List (Or n)) : D := .tup (os.map eO)
abbrev eR (n : Nat) (os : List (Or n)) : D := .tup [.int (n : Nat), eOs os]
def sd (b : Bool) : Int := if b = true then 1 else -1
abbrev eM (m : Nat × Bool) : D := .tup [.int (m.1 : Nat), .int (sd m.2)]
abbrev eMs (ms : List (Nat × Bool)) : D := .tup (ms.map eM)
theorem fk_o (o : Or n) : Fk κ (eO o) := Enc.fk κ o
theorem fk_r (os : List (Or n)) : Fk κ (eR n os) := Enc.fk κ ((n, os) : Nat × List (Or n))
theorem fk_m (m : Nat × Bool) : Fk κ (eM m) := Enc.fk κ ((m.1, sd m.2) : Nat × Int)
theorem fk_os (os : List (Or n)) : Fk κ (eOs os) := Enc.fk κ os
theorem fk_map {α : Type} {f : α → D} (h : ∀ a, Fk κ (f a)) (xs : List α) : ∀ d ∈ xs.map f, Fk κ d := fun d hd => by
  obtain ⟨x, _, rfl⟩ := List.mem_map.mp hd
  exact h x
theorem fk_ms (ms : List (Nat × Bool)) : Fk κ (eMs ms) := Fk.tup (fk_map fk_m ms)
theorem eq_r (m : Mem) (a b : List (Or n)) : cmpV .eq m (eR n a) (eR n b) = some (decide (a = b)) := by
  have := Enc.eqv ((n, a) : Nat × List (Or n)) (n, b)
  rw [show eR n a = Enc.e ((n, a) : Nat × List (Or n)) from rfl, show eR n b = Enc.e ((n, b) : Nat × List (Or n)) from rfl, eq_e (Nat.le_of_ble_eq_true rfl)]
  congr 1
  exact decide_eq_decide.mpr (by simp)
theorem ne_r (m : Mem) (a b : List (Or n)) : cmpV .ne m (eR n a) (eR n b) = some (!decide (a = b)) := by
  rw [show eR n a = Enc.e ((n, a) : Nat × List (Or n)) from rfl, show eR n b = Enc.e ((n, b) : Nat × List (Or n)) from rfl, ne_e (Nat.le_of_ble_eq_true rfl)]
  congr 2
  exact decide_eq_decide.mpr (by simp)
end
theorem x_retV {C : Nat → List D → Mem → Res D} {env : MP.Env} {m m1 : Mem} {ss : Sts} {fr : Bool} {e : Ex} {d d' : D} (h : ev C e env m = .ok d m1) (hd : d = d') : exs C (.cons (.ret fr e) ss) env m = .ok (.rt fr d') env m1 := by
  rw [← hd]; exact x_ret h
theorem Gv.at {P : Nat → Option DefI} {L x : Nat} {ds : List D} {r : D} {m : Mem} (h : Gv κ P L x ds r) (w : WF κ m) : MP.run P L x ds m = .ok r m := h m w
/-! reading -/
section
variable {α : Type} {f : α → D} {xs : List α} {m : Mem}
theorem len_tupM : callV .len m [.tup (xs.map f)] = some (.int (xs.length : Nat), m) := by rw [len_tup, List.length_map]
theorem len_lstM : callV .len m [.lst (xs.map f)] = some (.int (xs.length : Nat), m) := by rw [len_lst, List.length_map]
theorem ix_tupM {k : Int} {j : Nat} {a : α} (hk : k = (j : Nat)) (h : xs[j]? = some a) : ixV m (.tup (xs.map f)) (.int k) = some (f a) := by
  subst hk
  show atI (xs.map f) ((j : Nat) : Int) = _
  exact atI_nat (by rw [List.getElem?_map, h]; rfl)
theorem ix_lstM {k : Int} {j : Nat} {a : α} (hk : k = (j : Nat)) (h : xs[j]? = some a) : ixV m (.lst (xs.map f)) (.int k) = some (f a) := by
  subst hk
  show atI (xs.map f) ((j : Nat) : Int) = _
  exact atI_nat (by rw [List.getElem?_map, h]; rfl)
end
section
variable {m : Mem} {ds es : List D} {a b : D}
theorem ix20 : ixV m (.tup [a, b]) (.int 0) = some a := rfl
theorem ix21 : ixV m (.tup [a, b]) (.int 1) = some b := rfl
theorem cut_to {α : Type} {xs : List α} {k : Int} {j : Nat} (hk : k = (j : Nat)) : cutD xs none (some k) = xs.take j := by
  subst hk
  unfold cutD
  rw [HT.sIx_none, HT.sIx_nat, List.drop_zero, Nat.sub_zero]
  rcases Nat.le_total j xs.length with h | h
  · rw [Nat.min_eq_left h]
  · rw [Nat.min_eq_right h, List.take_of_length_le (Nat.le_refl _), List.take_of_length_le h]
theorem cut_from {α : Type} {xs : List α} {k : Int} {j : Nat} (hk : k = (j : Nat)) : cutD xs (some k) none = xs.drop j := by
  subst hk
  unfold cutD
  rw [HT.sIx_none, HT.sIx_nat]
  rcases Nat.le_total j xs.length with h | h
  · rw [Nat.min_eq_left h, List.take_of_length_le (by simp)]
  · rw [Nat.min_eq_right h, List.drop_eq_nil_of_le h, List.drop_eq_nil_of_le (Nat.le_refl _)]
    simp
theorem cut_last {α : Type} {xs : List α} : cutD xs none (some (-1)) = xs.dropLast := by
  unfold cutD
  rw [HT.sIx_none, List.drop_zero, Nat.sub_zero, List.dropLast_eq_take]
  congr 1
  unfold HT.sIx
  simp
  omega
theorem sl_to {k : Int} {j : Nat} (hk : k = (j : Nat)) : slV m (.tup ds) none (some k) = some (.tup (ds.take j)) := by
  show some (D.tup (cutD ds none (some k))) = _
  rw [cut_to hk]
theorem sl_from {k : Int} {j : Nat} (hk : k = (j : Nat)) : slV m (.tup ds) (some k) none = some (.tup (ds.drop j)) := by
  show some (D.tup (cutD ds (some k) none)) = _
  rw [cut_from hk]
theorem sl_last : slV m (.tup ds) none (some (-1)) = some (.tup ds.dropLast) := by
  show some (D.tup (cutD ds none (some (-1)))) = _
  rw [cut_last]
theorem add_tup (h : ds.length + es.length ≤ 1000000) : binV .add m (.tup ds) (.tup es) = some (.tup (ds ++ es)) := by
  show (if _ then _ else _) = _
  rw [if_pos (by rw [sizeLine_eq]; omega)]
theorem add_lst (h : ds.length + es.length ≤ 1000000) : binV .add m (.lst ds) (.lst es) = some (.lst (ds ++ es)) := by
  show (if _ then _ else _) = _
  rw [if_pos (by rw [sizeLine_eq]; omega)]
end
theorem rngList_nI (n : Nat) : rngList 0 (n : Int) = nI (List.range n) := by
  unfold rngList nI
  rw [Int.sub_zero, Int.toNat_natCast]
  simp
theorem rngT_tN (n : Nat) : D.tup (rngList 0 (n : Int)) = tN (List.range n) := by rw [rngList_nI]; rfl
theorem all_mapT {α : Type} {f : α → D} {xs : List α} {m : Mem} (h : ∀ x ∈ xs, f x = .bl true) : callV .all m [.lst (xs.map f)] = some (.bl true, m) := by
  rw [List.map_congr_left (g := fun _ => D.bl true) h]
  exact all_true xs m
/-! ### loops that draw -/
def tn (a b c : Int) : O := .lst [.int a, .int b, .int c]
theorem WF.tn {a b c a' b' c' : Int} {l : List O} (w : WF κ (tn a b c :: l)) : WF κ (MP.tn a' b' c' :: l) := by
  obtain ⟨w1, w2⟩ := w
  refine ⟨?_, fun hk => ?_⟩
  · rw [List.all_cons, Bool.and_eq_true] at w1 ⊢
    exact ⟨by simp [MP.tn, bndO, bndDs, bndD], w1.2⟩
  · have := w2 hk
    rw [List.all_cons, Bool.and_eq_true] at this ⊢
    exact ⟨by simp [MP.tn, noO, noLs, noL], this.2⟩
theorem Tin.mono {B B' : Nat} {a b c : Int} (t : Tin B a b c) (h : B ≤ B') : Tin B' a b c := by
  obtain ⟨h1, h2, h3, h4, h5⟩ := t
  exact ⟨h1, h2, h3, h4, by omega⟩
/-- the call draws, K times at most, and gives what Q says -/
def Dr (κ : Bool) (P : Nat → Option DefI) (L x K : Nat) (ds : List D) (Q : D → Prop) : Prop := ∀ B a b c l, Tin B a b c → B + K ≤ 2 ^ 100 → WF κ (tn a b c :: l) →
  ∃ r a' c', run P L x ds (tn a b c :: l) = .ok r (tn a' b c' :: l) ∧ Q r ∧ Tin (B + K) a' b c'
/-- the same of an expression -/
def Ed (κ : Bool) (C : Nat → List D → Mem → Res D) (K : Nat) (e : Ex) (env : Env) (Q : D → Prop) : Prop := ∀ B a b c l, Tin B a b c → B + K ≤ 2 ^ 100 → WF κ (tn a b c :: l) →
  ∃ r a' c', ev C e env (tn a b c :: l) = .ok r (tn a' b c' :: l) ∧ Q r ∧ Tin (B + K) a' b c'
theorem Dr.mono {P : Nat → Option DefI} {L x K : Nat} {ds : List D} {Q Q' : D → Prop} (h : Dr κ P L x K ds Q) (hq : ∀ d, Q d → Q' d) : Dr κ P L x K ds Q' := fun B a b c l t hB w => by
  obtain ⟨r, a', c', e, q, t'⟩ := h B a b c l t hB w
  exact ⟨r, a', c', e, hq r q, t'⟩
theorem take_dr {P : Nat → Option DefI} {x L : Nat} {k : Int} (hP : P x = some takeI) (hk : 0 < k) (hk2 : k < 2 ^ 62) : Dr κ P (L + 1) x 1 [.ref 0, .int k] (fun d => ∃ v : Nat, d = .int (v : Nat) ∧ (v : Int) < k) := fun B a b c l t hB w => by
  obtain ⟨v, a', c', e, h, t'⟩ := take_ev (P := P) (x := x) (L := L) (n := 0) (m := tn a b c :: l) hP rfl t (Nat.le_trans (Nat.le_trans (Nat.le_add_right _ _) hB) (Nat.pow_le_pow_right (by decide) (by decide))) hk hk2
  exact ⟨_, a', c', e, ⟨v, rfl, h⟩, t'⟩
/-- a comprehension whose items draw -/
theorem ed_comp {C : Nat → List D → Mem → Res D} {env : Env} {α β : Type} {g : α → D} {f : β → D} {Pr : β → Prop} {tg : Tg} {src : Sr} {own : List Nat} {elt : Ex} {v : SrcV} (K : Nat) (ys : List α)
    (e1 : ∀ m, WF κ m → evSr C src env m = .ok v m) (e2 : ∀ m i, v.at m i = some (ys.map g)[i]?)
    (h : ∀ y ∈ ys, ∃ env', asgT tg (g y) (wipeE env own) = some env' ∧ Ed κ C K elt env' (fun d => (∃ x, d = f x ∧ Pr x)))
    (hf : ∀ x, Pr x → Fk κ (f x)) (hl : ys.length ≤ 1000000) : Ed κ C (ys.length * K) (.comp tg src .nil elt own) env (fun d => ∃ xs : List β, d = .lst (xs.map f) ∧ xs.length = ys.length ∧ ∀ x ∈ xs, Pr x) := by
  intro B a b c l t hB w
  have key : ∀ (n i : Nat) (a c : Int) (acc : List β), i ≤ ys.length → ys.length - i < n → acc.length = i → (∀ x ∈ acc, Pr x) → Tin (B + i * K) a b c →
      ∃ a' c' zs, compLoop (l.length + 1) v tg own env (fun env' m' => evTs C .nil env' m') (fun env' m' => ev C elt env' m') n i ((tn a b c :: l) ++ [.acc ((acc.map f).reverse)]) = .ok () ((tn a' b c' :: l) ++ [.acc (((acc ++ zs).map f).reverse)]) ∧ (acc ++ zs).length = ys.length ∧ (∀ x ∈ acc ++ zs, Pr x) ∧ Tin (B + ys.length * K) a' b c' := by
    intro n
    induction n with
    | zero => intro i a c acc h1 h2; omega
    | succ n ih =>
      intro i a c acc h1 h2 h3 h4 t
      unfold compLoop
      have w1 : WF κ ((tn a b c :: l) ++ [.acc ((acc.map f).reverse)]) := (w.tn (a' := a) (c' := c) (b' := b)).push (fun k => bndDs_iff.mpr fun d hd => by
        obtain ⟨x, hx, rfl⟩ := List.mem_map.mp (List.mem_reverse.mp hd)
        exact (hf x (h4 x hx)).1 k) fun hk => noLs_iff.mpr fun d hd => by
        obtain ⟨x, hx, rfl⟩ := List.mem_map.mp (List.mem_reverse.mp hd)
        exact (hf x (h4 x hx)).2 hk
      rw [e2, List.getElem?_map]
      by_cases hi : i < ys.length
      · rw [List.getElem?_eq_getElem hi]
        obtain ⟨env', q1, q2⟩ := h ys[i] (List.getElem_mem hi)
        have hik : i * K + K ≤ ys.length * K := by
          rw [← Nat.succ_mul]
          exact Nat.mul_le_mul_right _ hi
        obtain ⟨d, a1, c1, q3, ⟨x, rfl, hx⟩, t1⟩ := q2 (B + i * K) a b c (l ++ [O.acc ((acc.map f).reverse)]) t (by omega) w1
        have q3 : ev C elt env' ((tn a b c :: l) ++ [.acc ((acc.map f).reverse)]) = .ok (f x) ((tn a1 b c1 :: l) ++ [.acc ((acc.map f).reverse)]) := q3
        have hg : ((tn a1 b c1 :: l) ++ [O.acc ((acc.map f).reverse)])[l.length + 1]? = some (.acc ((acc.map f).reverse)) := by
          rw [List.getElem?_append_right (by simp)]
          simp
        simp only [Option.map_some, q1]
        rw [t_nil, bndN_ok, if_pos rfl, q3, bndN_ok, hg]
        dsimp only
        rw [if_pos (by rw [sizeLine_eq, List.length_reverse, List.length_map]; omega)]
        have hs : ((tn a1 b c1 :: l) ++ [O.acc ((acc.map f).reverse)]).set (l.length + 1) (.acc (f x :: (acc.map f).reverse)) = (tn a1 b c1 :: l) ++ [.acc (((acc ++ [x]).map f).reverse)] := by
          rw [List.set_append_right _ _ (by simp)]
          simp
        obtain ⟨a2, c2, zs, i1, i2, i3, i4⟩ := ih (i + 1) a1 c1 (acc ++ [x]) (by omega) (by omega) (by simp [h3]) (fun z hz => by
          rcases List.mem_append.mp hz with hz | hz
          · exact h4 z hz
          · rw [List.mem_singleton.mp hz]; exact hx) (by rw [Nat.succ_mul, ← Nat.add_assoc]; exact t1)
        rw [hs, i1]
        rw [List.append_assoc] at i2 i3 ⊢
        exact ⟨a2, c2, x :: zs, rfl, i2, i3, i4⟩
      · have : i = ys.length := by omega
        rw [List.getElem?_eq_none (by omega)]
        subst this
        exact ⟨a, c, [], by rw [List.append_nil]; rfl, by rw [List.append_nil]; exact h3, by rw [List.append_nil]; exact h4, t⟩
  obtain ⟨a', c', xs, k1, k2, k3, k4⟩ := key turnsMax 0 a c [] (Nat.zero_le _) (by unfold turnsMax; omega) rfl (by simp) (by simpa using t)
  rw [List.nil_append] at k1 k2 k3
  refine ⟨_, a', c', ?_, ⟨xs, rfl, k2, k3⟩, k4⟩
  have wm := w.tn (a' := a') (c' := c') (b' := b)
  rw [ev, e1 _ w, bnd_ok]
  have hlen : (tn a b c :: l).length = l.length + 1 := rfl
  rw [hlen]
  have k1 : compLoop (l.length + 1) v tg own env (fun env' m' => evTs C .nil env' m') (fun env' m' => ev C elt env' m') turnsMax 0 ((tn a b c :: l) ++ [.acc []]) = _ := k1
  rw [k1, bndN_ok]
  unfold compEnd
  have hg : ∀ o : O, ((tn a' b c' :: l) ++ [o])[l.length + 1]? = some o := fun o => by
    rw [List.getElem?_append_right (by simp)]
    simp
  rw [hg]
  have hs : ∀ o o' : O, ((tn a' b c' :: l) ++ [o]).set (l.length + 1) o' = (tn a' b c' :: l) ++ [o'] := fun o o' => by
    rw [List.set_append_right _ _ (by simp)]
    simp
  simp only [hs, List.reverse_reverse]
  have hc : clean (tn a' b c' :: l).length (.ref ((tn a' b c' :: l).length + 0)) ((tn a' b c' :: l) ++ [.lst (xs.map f)]) = (.lst (xs.map f), tn a' b c' :: l) := cl_ref wm rfl fun d hd => by
    obtain ⟨x, hx, rfl⟩ := List.mem_map.mp hd
    exact (hf x (k3 x hx)).1
  have hc : clean (l.length + 1) (.ref (l.length + 1)) ((tn a' b c' :: l) ++ [.lst (xs.map f)]) = (.lst (xs.map f), tn a' b c' :: l) := hc
  rw [hc]
/-! ### numbers from a list, in a drawn order -/
theorem isOrd_of_perm {n : Nat} {ys : List Nat} (h : ys.Perm (List.range n)) : isOrd n ys :=
  ⟨by rw [h.length_eq]; simp, fun i hi => List.mem_range.mp (h.mem_iff.mp hi), fun i hi => h.mem_iff.mpr (List.mem_range.mpr hi), h.nodup_iff.mpr List.nodup_range⟩
end MP

/-! Whiles; dicts as sets; sorting numbers and rows. -/
namespace MP
open PySem L2 PySem.Spec PyProof.Rows
variable {κ : Bool}
/-- a while by a number that falls -/
theorem while_inv {c : MP.Env → Mem → Res D} {body : MP.Env → Mem → SRes} (I : Nat → MP.Env → Mem → Prop) (J : MP.Env → Mem → Prop)
    (h : ∀ k env m, I k env m → (∃ x m1, c env m = .ok x m1 ∧ truV m1 x = some false ∧ J env m1) ∨ (∃ x m1 env2 m2 k2, c env m = .ok x m1 ∧ truV m1 x = some true ∧ body env m1 = .ok .nx env2 m2 ∧ k2 < k ∧ I k2 env2 m2)) :
    ∀ n k env m, k < n → I k env m → ∃ env2 m2, whileLoop c body n env m = .ok .nx env2 m2 ∧ J env2 m2 := by
  intro n
  induction n with
  | zero => intro k env m hk; omega
  | succ n ih =>
    intro k env m hk hI
    unfold whileLoop
    rcases h k env m hI with ⟨x, m1, e1, e2, hJ⟩ | ⟨x, m1, env2, m2, k2, e1, e2, e3, hk2, hI2⟩
    · rw [e1, of_ok, e2]
      exact ⟨env, m1, rfl, hJ⟩
    · obtain ⟨env3, m3, e4, hJ⟩ := ih k2 env2 m2 (by omega) hI2
      rw [e1, of_ok, e2]
      exact ⟨env3, m3, by simp only [e3, thn_nx, e4], hJ⟩
section
variable {C : Nat → List D → Mem → Res D} {env : MP.Env} {m : Mem} {l l' : List O} {j : Nat}
theorem a_newLk {es : Exs} {ds : List D} {k : Nat} (h : evs C es env (m ++ l) = .ok ds (m ++ l')) (hl : Nat.ble ds.length 1000 = true) (hk : l'.length = k) : ev C (.newL es) env (m ++ l) = .ok (.ref (m.length + k)) (m ++ (l' ++ [.lst ds])) := by
  rw [a_newLl h hl, hk]
theorem v_sortedD {kvs : List (Key × D)} (hj : l[j]? = some (.dic kvs)) (ok : sortOk (kvs.map fun q => keyD q.1) = true) : callV .sorted (m ++ l) [.ref (m.length + j)] = some (.lst (sortD (kvs.map fun q => keyD q.1)), m ++ l) := by
  simp only [callV, seqV, loc_get, hj, ok, if_true]
theorem v_sortedL {ds : List D} (hj : l[j]? = some (.lst ds)) (ok : sortOk ds = true) : callV .sorted (m ++ l) [.ref (m.length + j)] = some (.lst (sortD ds), m ++ l) := by
  simp only [callV, seqV, loc_get, hj, ok, if_true]
theorem v_sorted {ds : List D} (ok : sortOk ds = true) : callV .sorted m [.lst ds] = some (.lst (sortD ds), m) := by
  simp only [callV, seqV, ok, if_true]
end
theorem pd0s_nI (xs : List Nat) : pd0s (nI xs) = some (xs.map fun (n : Nat) => PyData.int n) := pd0s_map (fun _ => by simp [pd0]) xs
theorem shaped_nI (xs : List Nat) : SeqAt.shaped (.list (xs.map fun (n : Nat) => PyData.int n)) = true := by
  unfold SeqAt.shaped
  rw [Bool.and_eq_true, decide_eq_true_eq]
  refine ⟨by simp only [PyData.canLay0]; exact lay_map (fun _ => by simp [PyData.canLay0]) xs, ?_⟩
  have := dep_map (p := fun (n : Nat) => PyData.int n) (n := 0) (fun _ => by simp [PyData.depth]) xs
  simp only [PyData.depth]
  omega
theorem eqv_nil (xs : List Nat) : PyData.eqv (.list (xs.map fun (n : Nat) => PyData.int n)) (.list []) = decide (xs = []) := by
  cases xs <;> simp [PyData.eqv, PyData.eqvAll]
theorem shaped_nil : SeqAt.shaped (.list []) = true := shaped_nI []
theorem ne_nil0 (m : Mem) (xs : List Nat) : cmpV .ne m (.lst (nI xs)) (.lst []) = some (!decide (xs = [])) := by
  have h1 : pdV m (.lst (nI xs)) = some (.list (xs.map fun (n : Nat) => PyData.int n)) := by
    show pd0 (.lst (nI xs)) = _
    simp only [pd0, pd0s_nI, Option.map_some]
  have h2 : pdV m (.lst []) = some (.list []) := by
    show pd0 (.lst []) = _
    simp [pd0, pd0s]
  simp only [cmpV, eqV2, h1, h2, shaped_nI, shaped_nil, Bool.and_true, if_true, eqv_nil, Option.map_some]
theorem ne_nilR {m : Mem} {l : List O} {j : Nat} {xs : List Nat} (hj : l[j]? = some (.lst (nI xs))) : cmpV .ne (m ++ l) (.ref (m.length + j)) (.lst []) = some (!decide (xs = [])) := by
  have h1 : pdV (m ++ l) (.ref (m.length + j)) = some (.list (xs.map fun (n : Nat) => PyData.int n)) := by
    simp only [pdV, loc_get, hj, pd0s_nI, Option.map_some]
  have h2 : pdV (m ++ l) (.lst []) = some (.list []) := by
    show pd0 (.lst []) = _
    simp [pd0, pd0s]
  simp only [cmpV, eqV2, h1, h2, shaped_nI, shaped_nil, Bool.and_true, if_true, eqv_nil, Option.map_some]
/-! a dict as a set of numbers -/
def kvT (ks : List Nat) : List (Key × D) := ks.map fun (k : Nat) => ((Sum.inl (k : Int) : Key), D.bl true)
theorem kvT_get (ks : List Nat) (i : Nat) : (getD? (kvT ks) (.inl (i : Nat))).isSome = decide (i ∈ ks) := by
  induction ks with
  | nil => simp [kvT, getD?]
  | cons k ks ih =>
    unfold getD? at ih ⊢
    simp only [kvT, List.map_cons, List.find?_cons] at ih ⊢
    by_cases h : k = i
    · subst h
      simp
    · have : ¬ ((Sum.inl (k : Int) : Key) = Sum.inl (i : Int)) := fun e => h (by injection e; omega)
      rw [decide_eq_false this]
      dsimp only
      rw [ih]
      simp [Ne.symm h, show i ≠ k from Ne.symm h]
theorem kvT_put {ks : List Nat} {i : Nat} (h : i ∉ ks) : putD (kvT ks) (.inl (i : Nat)) (.bl true) = kvT (ks ++ [i]) := by
  unfold putD
  have : ((kvT ks).any fun kv => decide (kv.1 = (Sum.inl (i : Int) : Key))) = false := by
    rw [List.any_eq_false]
    intro kv hkv
    obtain ⟨k, hk, rfl⟩ := List.mem_map.mp hkv
    simp only [decide_eq_true_eq]
    intro e
    injection e with e
    exact h (by rw [show i = k by omega]; exact hk)
  rw [this]
  simp [kvT]
theorem kvT_keys (ks : List Nat) : ((kvT ks).map fun q => keyD q.1) = nI ks := by
  simp [kvT, nI, keyD]
theorem kvT_len (ks : List Nat) : (kvT ks).length = ks.length := by simp [kvT]
/-! sorting -/
theorem insD_perm (x : D) : ∀ ds : List D, (insD x ds).Perm (x :: ds)
  | [] => List.Perm.refl _
  | y :: ys => by
    unfold insD
    split
    · exact List.Perm.refl _
    · exact ((insD_perm x ys).cons y).trans (List.Perm.swap x y ys)
theorem sortD_perm : ∀ ds : List D, (sortD ds).Perm ds
  | [] => List.Perm.refl _
  | x :: xs => by
    unfold sortD
    exact (insD_perm x _).trans ((sortD_perm xs).cons x)
theorem of_perm_map {α : Type} {f : α → D} {ds : List D} {xs : List α} (h : ∀ d ∈ ds, ∃ x ∈ xs, d = f x) : ∃ ys : List α, ds = ys.map f ∧ ∀ y ∈ ys, y ∈ xs := by
  induction ds with
  | nil => exact ⟨[], rfl, by simp⟩
  | cons d ds ih =>
    obtain ⟨ys, e, hy⟩ := ih fun d hd => h d (List.mem_cons_of_mem _ hd)
    obtain ⟨x, hx, rfl⟩ := h d List.mem_cons_self
    refine ⟨x :: ys, by rw [e]; rfl, fun y hy' => ?_⟩
    rcases List.mem_cons.mp hy' with rfl | hy'
    · exact hx
    · exact hy y hy'
/-- what is sorted are the same things -/
theorem sortD_map {α : Type} (f : α → D) (xs : List α) : ∃ ys : List α, sortD (xs.map f) = ys.map f ∧ (∀ y ∈ ys, y ∈ xs) ∧ ys.length = xs.length := by
  obtain ⟨ys, e, hy⟩ := of_perm_map (f := f) (ds := sortD (xs.map f)) (xs := xs) fun d hd => by
    obtain ⟨x, hx, rfl⟩ := List.mem_map.mp ((sortD_perm _).mem_iff.mp hd)
    exact ⟨x, hx, rfl⟩
  refine ⟨ys, e, hy, ?_⟩
  have := (sortD_perm (xs.map f)).length_eq
  rw [e] at this
  simpa using this
theorem alike_ints : ∀ xs ys : List Nat, PySem.W.alikeAll (xs.map fun (n : Nat) => PyData.int n) (ys.map fun (n : Nat) => PyData.int n) = true
  | [], ys => by simp [PySem.W.alikeAll]
  | x :: xs, [] => by simp [PySem.W.alikeAll]
  | x :: xs, y :: ys => by simp [PySem.W.alikeAll, PySem.W.alike, alike_ints xs ys]
theorem sortOk_nI (xs : List Nat) : sortOk (nI xs) = true := by
  unfold sortOk
  rw [pd0s_nI]
  simp only [Bool.and_eq_true, Bool.or_eq_true, List.all_eq_true]
  refine ⟨fun x hx => ?_, .inr fun x hx => ?_⟩
  · obtain ⟨a, _, rfl⟩ := List.mem_map.mp hx
    refine ⟨by simp [SeqAt.shaped, PyData.canLay0, PyData.depth], fun y hy => ?_⟩
    obtain ⟨b, _, rfl⟩ := List.mem_map.mp hy
    simp [PySem.W.alike]
  · obtain ⟨a, _, rfl⟩ := List.mem_map.mp hx
    rfl
theorem sortOk_rows {rows : List (List Nat)} (h : ∀ r ∈ rows, r ≠ []) : sortOk (rows.map tN) = true := by
  unfold sortOk
  rw [show rows.map tN = rows.map Enc.e from rfl, pd0s_map Enc.pd]
  simp only [Bool.and_eq_true, Bool.or_eq_true, List.all_eq_true]
  refine ⟨fun x hx => ?_, .inl fun x hx => ?_⟩
  · obtain ⟨a, _, rfl⟩ := List.mem_map.mp hx
    refine ⟨shaped_e (Nat.le_of_ble_eq_true rfl) a, fun y hy => ?_⟩
    obtain ⟨b, _, rfl⟩ := List.mem_map.mp hy
    show PySem.W.alike (.tuple (a.map fun (n : Nat) => PyData.int n)) (.tuple (b.map fun (n : Nat) => PyData.int n)) = true
    simp only [PySem.W.alike, alike_ints]
  · obtain ⟨a, ha, rfl⟩ := List.mem_map.mp hx
    cases a with
    | nil => exact absurd rfl (h _ ha)
    | cons _ _ => rfl
theorem countP_lt {α : Type} {p q : α → Bool} : ∀ {l : List α}, (∀ x ∈ l, p x = true → q x = true) → (∃ x ∈ l, q x = true ∧ p x = false) → l.countP p < l.countP q
  | [], _, ⟨_, hx, _⟩ => by simp at hx
  | y :: l, h, ⟨x, hx, hq, hp⟩ => by
    rw [List.countP_cons, List.countP_cons]
    have hle : l.countP p ≤ l.countP q := List.countP_mono_left fun z hz => h z (List.mem_cons_of_mem _ hz)
    rcases List.mem_cons.mp hx with rfl | hx
    · rw [hq, hp]
      simp
      omega
    · have := countP_lt (fun z hz => h z (List.mem_cons_of_mem _ hz)) ⟨x, hx, hq, hp⟩
      by_cases hy : p y = true
      · rw [hy, h y List.mem_cons_self hy]
        simp
        omega
      · rw [if_neg hy]
        split <;> omega
end MP

/-! Rounds of orders: plain mathematics. -/
namespace MP
/-! rounds of an order -/
/-- a round from at on, up to what was seen -/
def cycW (o : List Nat) : Nat → List Nat → Nat → List Nat → List Nat
  | 0, _, _, own => own
  | f + 1, seen, at_, own => if at_ ∈ seen ++ own then own else cycW o f seen (o.getD at_ 0) (own ++ [at_])
/-- the rounds, each from its least thing on -/
def cycF (o : List Nat) (n : Nat) : List Nat → List (List Nat) → List (List Nat)
  | [], found => found
  | s :: ss, found => if s ∈ found.flatten then cycF o n ss found else cycF o n ss (found ++ [cycW o (n + 1) found.flatten s []])
def cyc (o : List Nat) : List (List Nat) := cycF o o.length (List.range o.length) []
def iter (o : List Nat) : Nat → Nat → Nat
  | 0, x => x
  | k + 1, x => iter o k (o.getD x 0)
theorem iter_add (o : List Nat) : ∀ (j k x : Nat), iter o (j + k) x = iter o k (iter o j x)
  | 0, k, x => by rw [Nat.zero_add]; rfl
  | j + 1, k, x => by rw [show j + 1 + k = (j + k) + 1 by omega]; exact iter_add o j k _
structure isCyc (n : Nat) (o c : List Nat) : Prop where
  nd : c.Nodup
  ne : c ≠ []
  lt : ∀ x ∈ c, x < n
  cl : ∀ x ∈ c, o.getD x 0 ∈ c
  tr : ∀ x ∈ c, ∀ y ∈ c, ∃ k, iter o k x = y
theorem isCyc.iter {n : Nat} {o c : List Nat} (h : isCyc n o c) : ∀ (k x : Nat), x ∈ c → iter o k x ∈ c
  | 0, x, hx => hx
  | k + 1, x, hx => h.iter k _ (h.cl x hx)
/-- two rounds of one order with a common thing -/
theorem isCyc.perm {n : Nat} {o c d : List Nat} (hc : isCyc n o c) (hd : isCyc n o d) {x : Nat} (h1 : x ∈ c) (h2 : x ∈ d) : c.Perm d := by
  rw [List.perm_ext_iff_of_nodup hc.nd hd.nd]
  intro a
  constructor
  · intro ha
    obtain ⟨k, e⟩ := hc.tr x h1 a ha
    rw [← e]
    exact hd.iter k x h2
  · intro ha
    obtain ⟨k, e⟩ := hd.tr x h2 a ha
    rw [← e]
    exact hc.iter k x h1
/-- what goes round: each thing in just one round -/
structure Rounds (n : Nat) (o : List Nat) (cs : List (List Nat)) : Prop where
  perm : cs.flatten.Perm (List.range n)
  cyc : ∀ c ∈ cs, isCyc n o c
theorem count_flat {n : Nat} {p : Nat → Bool} : ∀ {cs : List (List Nat)} {l : Nat}, (∀ c ∈ cs, ∀ x ∈ c, p x = decide (c.length = l)) → cs.flatten.countP p = l * (cs.map List.length).count l
  | [], l, _ => by simp
  | c :: cs, l, h => by
    rw [List.flatten_cons, List.countP_append, count_flat (n := n) (cs := cs) (fun d hd => h d (List.mem_cons_of_mem _ hd)), List.map_cons, List.count_cons]
    have hc := h c List.mem_cons_self
    by_cases e : c.length = l
    · have : c.countP p = c.length := List.countP_eq_length.mpr fun x hx => by rw [hc x hx]; simp [e]
      rw [this]
      simp [e, Nat.mul_add]
      omega
    · have : c.countP p = 0 := List.countP_eq_zero.mpr fun x hx => by rw [hc x hx]; simp [e]
      rw [this]
      simp [e]
theorem Rounds.lens {n : Nat} {o : List Nat} {cs ds : List (List Nat)} (hc : Rounds n o cs) (hd : Rounds n o ds) : (cs.map List.length).Perm (ds.map List.length) := by
  rw [List.perm_iff_count]
  intro l
  have pos : ∀ {es : List (List Nat)}, Rounds n o es → 0 ∉ es.map List.length := fun he h => by
    obtain ⟨c, hc, e⟩ := List.mem_map.mp h
    exact (he.cyc c hc).ne (List.length_eq_zero_iff.mp e)
  by_cases hl : l = 0
  · subst hl
    rw [List.count_eq_zero.mpr (pos hc), List.count_eq_zero.mpr (pos hd)]
  · have key : ∀ {es : List (List Nat)}, Rounds n o es → (List.range n).countP (fun x => decide (∃ c ∈ cs, x ∈ c ∧ c.length = l)) = l * (es.map List.length).count l := fun {es} he => by
      rw [← he.perm.countP_eq]
      refine count_flat (n := n) fun d hdm x hx => ?_
      have hxn : x ∈ List.range n := List.mem_range.mpr ((he.cyc d hdm).lt x hx)
      obtain ⟨c, hcm, hxc⟩ := List.mem_flatten.mp (hc.perm.mem_iff.mpr hxn)
      have hp := ((hc.cyc c hcm).perm (he.cyc d hdm) hxc hx).length_eq
      apply decide_eq_decide.mpr
      constructor
      · rintro ⟨c', hc', hx', e⟩
        have := ((hc.cyc c' hc').perm (he.cyc d hdm) hx' hx).length_eq
        omega
      · intro e
        exact ⟨c, hcm, hxc, by omega⟩
    have h1 := key hc
    have h2 := key hd
    rw [h1] at h2
    exact Nat.eq_of_mul_eq_mul_left (by omega) h2
/-- turned rounds -/
theorem iter_turned {n : Nat} (a p : Or n) : ∀ (k x : Nat), x < n → iter (Or.tur a p).1 k (p.1.getD x 0) = p.1.getD (iter a.1 k x) 0
  | 0, x, _ => rfl
  | k + 1, x, hx => by
    have e : (Or.tur a p).1.getD (p.1.getD x 0) 0 = p.1.getD (a.1.getD x 0) 0 := by
      have hp := p.2.lt hx
      show ((Or.inv p * a) * p).1.getD (p.1.getD x 0) 0 = _
      rw [Or.mul_get _ _ hp, Or.mul_get _ _ hp]
      show p.1.getD (a.1.getD ((back p.1).getD (p.1.getD x 0) 0) 0) 0 = _
      rw [back_getget p.2 hx]
    show iter _ k ((Or.tur a p).1.getD (p.1.getD x 0) 0) = _
    rw [e]
    exact iter_turned a p k _ (a.2.lt hx)
theorem Rounds.turned {n : Nat} {a : Or n} {cs : List (List Nat)} (h : Rounds n a.1 cs) (p : Or n) : Rounds n (Or.tur a p).1 (cs.map fun c => c.map fun x => p.1.getD x 0) := by
  refine ⟨?_, fun d hd => ?_⟩
  · have : (cs.map fun c => c.map fun x => p.1.getD x 0).flatten = cs.flatten.map fun x => p.1.getD x 0 := by
      rw [List.map_flatten]
    rw [this]
    refine (h.perm.map _).trans ?_
    have e : (List.range n).map (fun x => p.1.getD x 0) = p.1 := by
      refine ord_ext (n := n) (by simp) p.2.1 fun i hi => ?_
      simp [List.getD, hi]
    rw [e, List.perm_ext_iff_of_nodup p.2.2.2.2 List.nodup_range]
    intro x
    rw [List.mem_range]
    exact ⟨p.2.2.1 x, p.2.2.2.1 x⟩
  · obtain ⟨c, hc, rfl⟩ := List.mem_map.mp hd
    have hC := h.cyc c hc
    refine ⟨?_, by simpa using hC.ne, fun x hx => ?_, fun x hx => ?_, fun x hx y hy => ?_⟩
    · have hn := hC.nd
      rw [List.Nodup, List.pairwise_map]
      refine List.Pairwise.imp_of_mem (fun {x y} hx hy hxy e => hxy (p.2.inj (hC.lt x hx) (hC.lt y hy) e)) hn
    · obtain ⟨z, hz, rfl⟩ := List.mem_map.mp hx
      exact p.2.lt (hC.lt z hz)
    · obtain ⟨z, hz, rfl⟩ := List.mem_map.mp hx
      have := iter_turned a p 1 z (hC.lt z hz)
      show iter _ 1 _ ∈ _
      rw [this]
      exact List.mem_map.mpr ⟨_, hC.cl z hz, rfl⟩
    · obtain ⟨z, hz, rfl⟩ := List.mem_map.mp hx
      obtain ⟨u, hu, rfl⟩ := List.mem_map.mp hy
      obtain ⟨k, e⟩ := hC.tr z hz u hu
      exact ⟨k, by rw [iter_turned a p k z (hC.lt z hz), e]⟩
/-! the rounds that are told are rounds -/
/-- a chain: each thing leads to the next one, the last one to at -/
def Chain (o : List Nat) (at_ : Nat) (own : List Nat) : Prop := ∀ j, j < own.length → o.getD (own.getD j 0) 0 = (own ++ [at_]).getD (j + 1) 0
theorem chain_iter {o : List Nat} {at_ : Nat} {own : List Nat} (h : Chain o at_ own) : ∀ (k j : Nat), j + k ≤ own.length → iter o k ((own ++ [at_]).getD j 0) = (own ++ [at_]).getD (j + k) 0
  | 0, j, _ => rfl
  | k + 1, j, hj => by
    have hjl : j < own.length := by omega
    have e : (own ++ [at_]).getD j 0 = own.getD j 0 := by simp [List.getD, List.getElem?_append_left hjl]
    show iter o k (o.getD ((own ++ [at_]).getD j 0) 0) = _
    rw [e, h j hjl, chain_iter h k (j + 1) (by omega), show j + 1 + k = j + (k + 1) by omega]
theorem nodup_le {n : Nat} {xs : List Nat} (hn : xs.Nodup) (h : ∀ x ∈ xs, x < n) : xs.length ≤ n := by
  have h1 : xs.length = (List.range n).countP (fun x => decide (x ∈ xs)) := by
    have e : ((List.range n).filter fun x => decide (x ∈ xs)).Perm xs := by
      rw [List.perm_ext_iff_of_nodup (List.nodup_range.filter _) hn]
      intro x
      rw [List.mem_filter, List.mem_range]
      constructor
      · intro z
        simpa using z.2
      · intro hx
        exact ⟨h x hx, by simpa using hx⟩
    rw [← e.length_eq, List.countP_eq_length_filter]
  rw [h1]
  have := List.countP_le_length (p := fun x => decide (x ∈ xs)) (l := List.range n)
  simpa using this
/-- what a walk gives -/
theorem cycW_spec {n : Nat} {o : List Nat} (ho : isOrd n o) {seen : List Nat} (hcl : ∀ x, x < n → o.getD x 0 ∈ seen → x ∈ seen) {s : Nat} (hs : s < n) (hsn : s ∉ seen) :
    ∀ (f : Nat) (own : List Nat) (at_ : Nat), own.Nodup → (∀ x ∈ own, x < n) → at_ < n → Chain o at_ own → (own ++ [at_]).getD 0 0 = s → (∀ x ∈ own, x ∉ seen) → n < f + own.length → isCyc n o (cycW o f seen at_ own) ∧ s ∈ cycW o f seen at_ own ∧ ∀ x ∈ cycW o f seen at_ own, x ∉ seen
  | 0, own, at_, h1, h2, _, _, _, _, h7 => by
    have := nodup_le h1 h2
    omega
  | f + 1, own, at_, h1, h2, h3, h4, h5, h6, h7 => by
    unfold cycW
    -- at is not of what was seen before
    have hat : at_ ∉ seen := by
      cases own with
      | nil =>
        have e : at_ = s := by simpa [List.getD] using h5
        rw [e]
        exact hsn
      | cons x xs =>
        intro hm
        have hl : xs.length < (x :: xs).length := by simp
        have e := h4 xs.length hl
        have e2 : ((x :: xs) ++ [at_]).getD (xs.length + 1) 0 = at_ := by simp [List.getD]
        rw [e2] at e
        have hlast : (x :: xs).getD xs.length 0 ∈ x :: xs := getD_mem hl
        exact h6 _ hlast (hcl _ (h2 _ hlast) (by rw [e]; exact hm))
    by_cases hown : at_ ∈ own
    · rw [if_pos (List.mem_append_right _ hown)]
      -- at is the first one
      have hne : own ≠ [] := fun e => by rw [e] at hown; simp at hown
      have hpos : 0 < own.length := List.length_pos_iff.mpr hne
      have h50 : own.getD 0 0 = s := by
        have : (own ++ [at_]).getD 0 0 = own.getD 0 0 := by simp only [List.getD, List.getElem?_append_left hpos]
        rw [← this, h5]
      have hat0 : at_ = s := by
        obtain ⟨i, hi, ei⟩ := List.getElem_of_mem hown
        by_cases hi0 : i = 0
        · subst hi0
          rw [← h50]
          simp [List.getD, hi, ei]
        · exfalso
          have hl : own.length - 1 < own.length := by omega
          have e1 := h4 (own.length - 1) hl
          have e2 : (own ++ [at_]).getD (own.length - 1 + 1) 0 = at_ := by
            rw [show own.length - 1 + 1 = own.length by omega]
            simp [List.getD]
          have e3 := h4 (i - 1) (by omega)
          have e4 : (own ++ [at_]).getD (i - 1 + 1) 0 = at_ := by
            rw [show i - 1 + 1 = i by omega]
            simp [List.getD, List.getElem?_append_left hi, hi, ei]
          rw [e2] at e1
          rw [e4] at e3
          have := ho.inj (h2 _ (getD_mem hl)) (h2 _ (getD_mem (show i - 1 < own.length by omega))) (e1.trans e3.symm)
          simp only [List.getD, List.getElem?_eq_getElem hl, List.getElem?_eq_getElem (show i - 1 < own.length by omega), Option.getD_some] at this
          have := (List.getElem_inj h1).mp this
          omega
      have hit : ∀ k, k ≤ own.length → iter o k s = (own ++ [at_]).getD k 0 := fun k hk => by
        have := chain_iter h4 k 0 (by omega)
        rw [Nat.zero_add, h5] at this
        exact this
      have hlen : iter o own.length s = s := by
        rw [hit _ (Nat.le_refl _)]
        simp [List.getD, hat0]
      have hmem : ∀ x ∈ own, ∃ i, i < own.length ∧ iter o i s = x := fun x hx => by
        obtain ⟨i, hi, ei⟩ := List.getElem_of_mem hx
        refine ⟨i, hi, ?_⟩
        rw [hit i (by omega)]
        simp [List.getD, List.getElem?_append_left hi, hi, ei]
      refine ⟨⟨h1, hne, h2, fun x hx => ?_, fun x hx y hy => ?_⟩, ?_, h6⟩
      · obtain ⟨i, hi, ei⟩ := List.getElem_of_mem hx
        have e := h4 i hi
        have e0 : own.getD i 0 = x := by simp [List.getD, hi, ei]
        rw [e0] at e
        rw [e]
        by_cases hi1 : i + 1 < own.length
        · simp [List.getD, List.getElem?_append_left hi1, hi1]
        · have : i + 1 = own.length := by omega
          rw [this]
          simp [List.getD]
          exact hown
      · obtain ⟨i, hi, ei⟩ := hmem x hx
        obtain ⟨j, hj, ej⟩ := hmem y hy
        refine ⟨own.length - i + j, ?_⟩
        rw [← ei, ← iter_add, show i + (own.length - i + j) = own.length + j by omega, iter_add, hlen, ej]
      · rw [← h50]
        exact getD_mem hpos
    · rw [if_neg (by simp [hat, hown])]
      refine cycW_spec ho hcl hs hsn f (own ++ [at_]) (o.getD at_ 0) ?_ ?_ (ho.lt h3) ?_ ?_ ?_ ?_
      · rw [List.nodup_append]
        refine ⟨h1, by simp, fun x hx y hy => ?_⟩
        rw [List.mem_singleton.mp hy]
        intro e
        exact hown (e ▸ hx)
      · intro x hx
        rcases List.mem_append.mp hx with hx | hx
        · exact h2 x hx
        · rw [List.mem_singleton.mp hx]
          exact h3
      · intro j hj
        by_cases hjl : j < own.length
        · have e1 : (own ++ [at_]).getD j 0 = own.getD j 0 := by simp [List.getD, List.getElem?_append_left hjl]
          have e2 : (own ++ [at_] ++ [o.getD at_ 0]).getD (j + 1) 0 = (own ++ [at_]).getD (j + 1) 0 := by
            simp only [List.getD]
            rw [List.getElem?_append_left (by simp; omega)]
          rw [e1, e2]
          exact h4 j hjl
        · have : j = own.length := by
            simp at hj
            omega
          subst this
          simp [List.getD]
      · rw [← h5]
        simp only [List.getD]
        rw [List.getElem?_append_left (by simp)]
      · intro x hx
        rcases List.mem_append.mp hx with hx | hx
        · exact h6 x hx
        · rw [List.mem_singleton.mp hx]
          exact hat
      · simp
        omega
theorem cycF_spec {n : Nat} {o : List Nat} (ho : isOrd n o) : ∀ (ss : List Nat) (found : List (List Nat)), (∀ s ∈ ss, s < n) → (∀ c ∈ found, isCyc n o c) → found.flatten.Nodup →
    (∀ c ∈ cycF o n ss found, isCyc n o c) ∧ (cycF o n ss found).flatten.Nodup ∧ (∀ x, x ∈ found.flatten ∨ x ∈ ss → x ∈ (cycF o n ss found).flatten)
  | [], found, _, h2, h3 => ⟨h2, h3, fun x hx => by
    rw [cycF]
    rcases hx with hx | hx
    · exact hx
    · simp at hx⟩
  | s :: ss, found, h1, h2, h3 => by
    unfold cycF
    have hs := h1 s List.mem_cons_self
    split
    · rename_i hm
      obtain ⟨a1, a2, a3⟩ := cycF_spec ho ss found (fun x hx => h1 x (List.mem_cons_of_mem _ hx)) h2 h3
      refine ⟨a1, a2, fun x hx => a3 x ?_⟩
      rcases hx with hx | hx
      · exact .inl hx
      · rcases List.mem_cons.mp hx with rfl | hx
        · exact .inl hm
        · exact .inr hx
    · rename_i hm
      have hcl : ∀ x, x < n → o.getD x 0 ∈ found.flatten → x ∈ found.flatten := fun x hx hox => by
        obtain ⟨c, hc, hxc⟩ := List.mem_flatten.mp hox
        have hC := h2 c hc
        -- the round through o x holds what leads there
        obtain ⟨k, e⟩ := hC.tr _ (hC.cl _ hxc) _ hxc
        have hy := hC.iter k _ hxc
        have e2 : o.getD (iter o k (o.getD x 0)) 0 = o.getD x 0 := by
          have h1 := iter_add o k 1 (o.getD x 0)
          have h2 := iter_add o 1 k (o.getD x 0)
          rw [Nat.add_comm] at h1
          rw [h1] at h2
          exact h2.trans e
        have := ho.inj (hC.lt _ hy) hx e2
        rw [← this]
        exact List.mem_flatten.mpr ⟨c, hc, hy⟩
      obtain ⟨c1, c2, c3⟩ := cycW_spec ho hcl hs hm (n + 1) [] s (by simp) (by simp) hs (fun j hj => by simp at hj) (by simp [List.getD]) (by simp) (by simp)
      obtain ⟨a1, a2, a3⟩ := cycF_spec ho ss (found ++ [cycW o (n + 1) found.flatten s []]) (fun x hx => h1 x (List.mem_cons_of_mem _ hx)) (fun c hc => by
        rcases List.mem_append.mp hc with hc | hc
        · exact h2 c hc
        · rw [List.mem_singleton.mp hc]
          exact c1) (by
        rw [List.flatten_append, List.nodup_append]
        refine ⟨h3, by simpa using c1.nd, fun x hx y hy e => ?_⟩
        subst e
        exact c3 x (by simpa using hy) hx)
      refine ⟨a1, a2, fun x hx => a3 x ?_⟩
      rw [List.flatten_append, List.mem_append]
      rcases hx with hx | hx
      · exact .inl (.inl hx)
      · rcases List.mem_cons.mp hx with rfl | hx
        · exact .inl (.inr (by simpa using c2))
        · exact .inr hx
theorem rounds_cyc {n : Nat} {o : List Nat} (ho : isOrd n o) : Rounds n o (cyc o) := by
  unfold cyc
  rw [ho.1]
  obtain ⟨a1, a2, a3⟩ := cycF_spec ho (List.range n) [] (fun s hs => List.mem_range.mp hs) (by simp) (by simp)
  refine ⟨?_, a1⟩
  rw [List.perm_ext_iff_of_nodup a2 List.nodup_range]
  intro x
  constructor
  · intro hx
    obtain ⟨c, hc, hxc⟩ := List.mem_flatten.mp hx
    exact List.mem_range.mpr ((a1 c hc).lt x hxc)
  · intro hx
    exact a3 x (.inr hx)
/-- LOTS of an order turned -/
theorem lens_turned {n : Nat} (a p : Or n) : ((cyc (Or.tur a p).1).map List.length).Perm ((cyc a.1).map List.length) := by
  have := (rounds_cyc (Or.tur a p).2).lens ((rounds_cyc a.2).turned p)
  rw [List.map_map] at this
  refine this.trans (List.Perm.of_eq (List.map_congr_left fun c _ => ?_))
  simp
end MP

/-! Sorting by an order of one's own; LOTS. -/
namespace MP
open PySem L2 PySem.Spec PyProof.Rows
def insB {α : Type} (le : α → α → Bool) (x : α) : List α → List α
  | [] => [x]
  | y :: ys => if le x y = true then x :: y :: ys else y :: insB le x ys
def sortB {α : Type} (le : α → α → Bool) : List α → List α
  | [] => []
  | x :: xs => insB le x (sortB le xs)
structure Tot {α : Type} (le : α → α → Bool) : Prop where
  tot : ∀ a b, le a b = true ∨ le b a = true
  anti : ∀ a b, le a b = true → le b a = true → a = b
  tr : ∀ a b c, le a b = true → le b c = true → le a c = true
theorem insB_comm {α : Type} {le : α → α → Bool} (h : Tot le) (a b : α) : ∀ l : List α, insB le a (insB le b l) = insB le b (insB le a l)
  | [] => by
    unfold insB insB
    by_cases h1 : le a b = true <;> by_cases h2 : le b a = true
    · rw [h.anti a b h1 h2]
    · simp [insB, h1, h2]
    · simp [insB, h1, h2]
    · rcases h.tot a b with z | z <;> contradiction
  | y :: l => by
    have ih := insB_comm h a b l
    by_cases ha : le a y = true <;> by_cases hb : le b y = true <;> by_cases h1 : le a b = true <;> by_cases h2 : le b a = true
    all_goals first
      | (rcases h.tot a b with z | z <;> contradiction)
      | (have e := h.anti a b h1 h2; subst e; first | rfl | contradiction)
      | (simp [insB, ha, hb, h1, h2, ih]; done)
      | (exact absurd (h.tr _ _ _ h1 hb) ha)
      | (exact absurd (h.tr _ _ _ h2 ha) hb)
theorem sortB_perm {α : Type} {le : α → α → Bool} (h : Tot le) {l l' : List α} (p : l.Perm l') : sortB le l = sortB le l' := by
  induction p with
  | nil => rfl
  | cons x _ ih => simp only [sortB, ih]
  | swap x y l => simp only [sortB]; exact insB_comm h y x _
  | trans _ _ ih1 ih2 => exact ih1.trans ih2
theorem insB_perm' {α : Type} {le : α → α → Bool} (x : α) : ∀ l : List α, (insB le x l).Perm (x :: l)
  | [] => List.Perm.refl _
  | y :: ys => by
    unfold insB
    split
    · exact List.Perm.refl _
    · exact ((insB_perm' x ys).cons y).trans (List.Perm.swap x y ys)
theorem sortB_self {α : Type} {le : α → α → Bool} : ∀ l : List α, (sortB le l).Perm l
  | [] => List.Perm.refl _
  | x :: xs => (insB_perm' x _).trans ((sortB_self xs).cons x)
theorem sortB_iff {α : Type} {le : α → α → Bool} (h : Tot le) {l l' : List α} : sortB le l = sortB le l' ↔ l.Perm l' :=
  ⟨fun e => ((sortB_self l).symm.trans (List.Perm.of_eq e)).trans (sortB_self l'), sortB_perm h⟩
theorem sortB_idem {α : Type} {le : α → α → Bool} (h : Tot le) (l : List α) : sortB le (sortB le l) = sortB le l := sortB_perm h (sortB_self l)
theorem sortD_B {α : Type} {f : α → D} {le : α → α → Bool} (h : ∀ a b, leP (pdd (f a)) (pdd (f b)) = le a b) : ∀ xs : List α, sortD (xs.map f) = (sortB le xs).map f
  | [] => rfl
  | x :: xs => by
    have key : ∀ (x : α) (ys : List α), insD (f x) (ys.map f) = (insB le x ys).map f := by
      intro x ys
      induction ys with
      | nil => rfl
      | cons y ys ih =>
        simp only [List.map_cons, insD, insB, h]
        split
        · rfl
        · rw [ih]; rfl
    rw [List.map_cons, sortD, sortB, sortD_B h xs, key]
/-! numbers -/
def leN (a b : Nat) : Bool := decide (a ≤ b)
theorem tot_leN : Tot leN := ⟨fun a b => by simp [leN]; omega, fun a b h1 h2 => by simp [leN] at h1 h2; omega, fun a b c h1 h2 => by simp [leN] at *; omega⟩
/-! rows of numbers, by their first unlike ones -/
def lexLe : List Nat → List Nat → Bool
  | [], _ => true
  | _ :: _, [] => false
  | x :: xs, y :: ys => decide (x < y) || (decide (x = y) && lexLe xs ys)
theorem tot_lex : Tot lexLe := by
  refine ⟨?_, ?_, ?_⟩
  · intro a
    induction a with
    | nil => intro b; exact .inl rfl
    | cons x xs ih =>
      intro b
      cases b with
      | nil => exact .inr rfl
      | cons y ys =>
        simp only [lexLe, Bool.or_eq_true, Bool.and_eq_true, decide_eq_true_eq]
        rcases Nat.lt_trichotomy x y with h | h | h
        · exact .inl (.inl h)
        · rcases ih ys with h' | h'
          · exact .inl (.inr ⟨h, h'⟩)
          · exact .inr (.inr ⟨h.symm, h'⟩)
        · exact .inr (.inl h)
  · intro a
    induction a with
    | nil => intro b h1 h2; cases b with
      | nil => rfl
      | cons _ _ => simp [lexLe] at h2
    | cons x xs ih =>
      intro b h1 h2
      cases b with
      | nil => simp [lexLe] at h1
      | cons y ys =>
        simp only [lexLe, Bool.or_eq_true, Bool.and_eq_true, decide_eq_true_eq] at h1 h2
        have hxy : x = y := by omega
        have a1 : lexLe xs ys = true := by rcases h1 with h | h; omega; exact h.2
        have a2 : lexLe ys xs = true := by rcases h2 with h | h; omega; exact h.2
        rw [hxy, ih ys a1 a2]
  · intro a
    induction a with
    | nil => intro b c _ _; rfl
    | cons x xs ih =>
      intro b c h1 h2
      cases b with
      | nil => simp [lexLe] at h1
      | cons y ys => cases c with
        | nil => simp [lexLe] at h2
        | cons z zs =>
          simp only [lexLe, Bool.or_eq_true, Bool.and_eq_true, decide_eq_true_eq] at h1 h2 ⊢
          rcases h1 with h1 | h1 <;> rcases h2 with h2 | h2
          · left; omega
          · left; omega
          · left; omega
          · right; exact ⟨by omega, ih ys zs h1.2 h2.2⟩
theorem leP_N (a b : Nat) : leP (pdd (.int (a : Nat))) (pdd (.int (b : Nat))) = leN a b := by
  have h1 : pdd (.int (a : Nat)) = .int (a : Nat) := by simp [pdd, pd0]
  have h2 : pdd (.int (b : Nat)) = .int (b : Nat) := by simp [pdd, pd0]
  rw [h1, h2]
  simp only [leP, PySem.W.dataLt, PySem.W.keyToks, PyProof.Rows.lexLt, itemLt, leN]
  rw [Bool.eq_iff_iff]
  simp
theorem toks_lex : ∀ a b : List Nat, PyProof.Rows.lexLt itemOrd (PySem.W.keyToksAll (b.map fun (n : Nat) => PyData.int n)) (PySem.W.keyToksAll (a.map fun (n : Nat) => PyData.int n)) = !lexLe a b
  | [], [] => by simp [PySem.W.keyToksAll, PyProof.Rows.lexLt, itemLt, lexLe]
  | x :: xs, [] => by simp [PySem.W.keyToksAll, PyProof.Rows.lexLt, itemLt, lexLe]
  | [], y :: ys => by simp [PySem.W.keyToksAll, PyProof.Rows.lexLt, itemLt, lexLe]
  | x :: xs, y :: ys => by
    have ih := toks_lex xs ys
    simp only [List.map_cons, PySem.W.keyToksAll, PySem.W.keyToks, List.singleton_append, PyProof.Rows.lexLt, itemLt, ih, lexLe]
    rw [Bool.eq_iff_iff]
    rcases Nat.lt_trichotomy x y with h | h | h
    · simp [h]
      omega
    · subst h
      simp
    · simp [h]
      omega
theorem leP_tN (a b : List Nat) : leP (pdd (tN a)) (pdd (tN b)) = lexLe a b := by
  have h : ∀ c : List Nat, pdd (tN c) = .tuple (c.map fun (n : Nat) => PyData.int n) := fun c => by
    have := Enc.pd c
    show (pd0 (tN c)).getD .none = _
    rw [show tN c = Enc.e c from rfl, this]
    rfl
  rw [h, h]
  simp only [leP, PySem.W.dataLt, PySem.W.keyToks, toks_lex, Bool.not_not]
/-! LOTS -/
def lens (o : List Nat) : List Nat := (cyc o).map List.length
def lotsN (o : List Nat) : List Nat := (sortB leN (lens o)).reverse
theorem lotsN_turned {n : Nat} (a p : Or n) : lotsN (Or.tur a p).1 = lotsN a.1 := by
  unfold lotsN lens
  rw [sortB_perm tot_leN (lens_turned a p)]
end MP

/-! Orders led ahead and behind: plain mathematics. -/
namespace MP
open PySem L2 PySem.Spec PyProof.Rows
/-- the thing at k goes ahead to g -/
def leadL {α : Type} (xs : List α) (k g : Nat) : List α := xs.take g ++ (xs.drop k).take 1 ++ (xs.drop g).take (k - g) ++ xs.drop (k + 1)
namespace Or
variable {n : Nat}
def ahd (k g : Nat) : List (Nat × Bool) := (List.range (k - g)).map fun i => (k - 1 - i, true)
def bhd (k g : Nat) : List (Nat × Bool) := (List.range (g - k)).map fun i => (k + i, false)
/-- the order at k goes ahead to g, those passed are turned by it -/
def lead (os : List (Or n)) (k g : Nat) : List (Or n) := match os[k]? with
  | some b => os.take g ++ [b] ++ ((os.drop g).take (k - g)).map (tur · b) ++ os.drop (k + 1)
  | none => os
/-- behind all -/
def leadB (os : List (Or n)) (k : Nat) : List (Or n) := match os[k]? with
  | some a => os.take k ++ (os.drop (k + 1)).map (tur · (inv a)) ++ [a]
  | none => os
theorem mv_app (s : Bool) : ∀ (X Y : List (Or n)), mv X.length s (X ++ Y) = X ++ mv 0 s Y
  | [], Y => rfl
  | x :: X, Y => by
    show x :: mv X.length s (X ++ Y) = _
    rw [mv_app s X Y]
    rfl
theorem ahd_succ (k g : Nat) (h : g ≤ k) : ahd (k + 1) g = (k, true) :: ahd k g := by
  unfold ahd
  rw [show k + 1 - g = (k - g) + 1 by omega, List.range_succ_eq_map, List.map_cons, List.map_map]
  refine List.cons_eq_cons.mpr ⟨by simp, List.map_congr_left fun i _ => ?_⟩
  simp only [Function.comp]
  congr 1
  omega
theorem mvs_ahd_app (b : Or n) (A C : List (Or n)) : ∀ (mid : List (Or n)) (X : List (Or n)), mvs (ahd (A.length + mid.length) A.length) (A ++ mid ++ b :: X) = A ++ b :: (mid.map (tur · b)) ++ X := by
  intro mid
  generalize hl : mid.length = l
  induction l generalizing mid with
  | zero =>
    intro X
    have : mid = [] := List.length_eq_zero_iff.mp hl
    subst this
    simp [ahd, mvs]
  | succ l ih =>
    intro X
    have hne : mid ≠ [] := fun e => by rw [e] at hl; simp at hl
    have e : mid = mid.dropLast ++ [mid.getLast hne] := (List.dropLast_concat_getLast hne).symm
    obtain ⟨m', a, rfl⟩ : ∃ m' a, mid = m' ++ [a] := ⟨_, _, e⟩
    have hm : m'.length = l := by simpa using hl
    rw [show A.length + (l + 1) = (A.length + l) + 1 by omega, ahd_succ _ _ (by omega)]
    show mvs (ahd (A.length + l) A.length) (mv (A.length + l) true (A ++ (m' ++ [a]) ++ b :: X)) = _
    have e2 : mv (A.length + l) true (A ++ (m' ++ [a]) ++ b :: X) = A ++ m' ++ b :: tur a b :: X := by
      rw [show A ++ (m' ++ [a]) ++ b :: X = (A ++ m') ++ a :: b :: X by simp, show A.length + l = (A ++ m').length by simp [hm], mv_app]
      rfl
    rw [e2, ih m' hm (tur a b :: X)]
    simp
theorem mvs_ahd (os : List (Or n)) (k g : Nat) (h1 : g ≤ k) (h2 : k < os.length) : mvs (ahd k g) os = lead os k g := by
  have hk : os[k]? = some os[k] := List.getElem?_eq_getElem h2
  unfold lead
  rw [hk]
  have e : os = os.take g ++ (os.drop g).take (k - g) ++ os[k] :: os.drop (k + 1) := by
    rw [← List.drop_eq_getElem_cons h2]
    conv => lhs; rw [← List.take_append_drop g os, ← List.take_append_drop (k - g) (os.drop g)]
    rw [List.drop_drop, show g + (k - g) = k by omega, List.append_assoc]
  have hA : (os.take g).length = g := by simp; omega
  have hM : ((os.drop g).take (k - g)).length = k - g := by simp; omega
  have := mvs_ahd_app os[k] (os.take g) [] ((os.drop g).take (k - g)) (os.drop (k + 1))
  rw [hA, hM, show g + (k - g) = k by omega, ← e] at this
  rw [this]
  simp
theorem bhd_succ (k g : Nat) (h : k < g) : bhd k g = (k, false) :: bhd (k + 1) g := by
  unfold bhd
  rw [show g - k = (g - (k + 1)) + 1 by omega, List.range_succ_eq_map, List.map_cons, List.map_map]
  refine List.cons_eq_cons.mpr ⟨by simp, List.map_congr_left fun i _ => ?_⟩
  simp only [Function.comp]
  congr 1
  omega
theorem mvs_bhd_app (a : Or n) : ∀ (mid A : List (Or n)), mvs (bhd A.length (A.length + mid.length)) (A ++ a :: mid) = A ++ mid.map (tur · (inv a)) ++ [a]
  | [], A => by simp [bhd, mvs]
  | b :: mid, A => by
    rw [bhd_succ _ _ (by simp)]
    show mvs (bhd (A.length + 1) _) (mv A.length false (A ++ a :: b :: mid)) = _
    rw [mv_app]
    have e : A ++ mv 0 false (a :: b :: mid) = (A ++ [tur b (inv a)]) ++ a :: mid := by simp [mv, mv2]
    rw [e, show A.length + 1 = (A ++ [tur b (inv a)]).length by simp, show A.length + (b :: mid).length = (A ++ [tur b (inv a)]).length + mid.length by simp; omega, mvs_bhd_app a mid]
    simp
theorem mvs_bhd (os : List (Or n)) (k : Nat) (h2 : k < os.length) : mvs (bhd k (os.length - 1)) os = leadB os k := by
  have hk : os[k]? = some os[k] := List.getElem?_eq_getElem h2
  unfold leadB
  rw [hk]
  have e : os = os.take k ++ os[k] :: os.drop (k + 1) := by
    rw [← List.drop_eq_getElem_cons h2, List.take_append_drop]
  have hA : (os.take k).length = k := by simp; omega
  have := mvs_bhd_app os[k] (os.drop (k + 1)) (os.take k)
  rw [← e, hA, show k + (os.drop (k + 1)).length = os.length - 1 by simp; omega] at this
  exact this
theorem lead_len (os : List (Or n)) (k g : Nat) (h1 : g ≤ k) (h2 : k < os.length) : (lead os k g).length = os.length := by
  rw [← mvs_ahd os k g h1 h2, mvs_len]
theorem ahd_ok {k g : Nat} {x : Nat × Bool} (h : x ∈ ahd k g) : x.1 + 1 ≤ k ∧ g ≤ x.1 := by
  obtain ⟨i, hi, rfl⟩ := List.mem_map.mp h
  have := List.mem_range.mp hi
  simp
  omega
theorem bhd_ok {k g : Nat} {x : Nat × Bool} (h : x ∈ bhd k g) : x.1 + 1 ≤ g := by
  obtain ⟨i, hi, rfl⟩ := List.mem_map.mp h
  have := List.mem_range.mp hi
  simp
  omega
theorem ahd_len (k g : Nat) : (ahd k g).length = k - g := by simp [ahd]
theorem bhd_len (k g : Nat) : (bhd k g).length = g - k := by simp [bhd]
/-- LOTS of a row -/
def lotsR (os : List (Or n)) : List (List Nat) := os.map fun o => lotsN o.1
theorem lots_lead (os : List (Or n)) (k g : Nat) (h2 : k < os.length) : lotsR (lead os k g) = leadL (lotsR os) k g := by
  have hk : os[k]? = some os[k] := List.getElem?_eq_getElem h2
  unfold lead leadL lotsR
  rw [hk]
  simp only [List.map_append, List.map_map, List.map_cons, List.map_nil, List.map_take, List.map_drop]
  congr 1
  congr 1
  · congr 1
    rw [← List.map_drop, List.drop_eq_getElem_cons h2]
    rfl
  · rw [← List.map_drop, ← List.map_take, ← List.map_drop, ← List.map_take]
    exact List.map_congr_left fun x _ => lotsN_turned x _
end Or
theorem leadL_perm {α : Type} (xs : List α) (k g : Nat) (h1 : g ≤ k) (h2 : k < xs.length) : ∃ x, xs[k]? = some x ∧ leadL xs k g = xs.take g ++ x :: ((xs.drop g).eraseIdx (k - g)) := by
  refine ⟨xs[k], List.getElem?_eq_getElem h2, ?_⟩
  unfold leadL
  have e : (xs.drop k).take 1 = [xs[k]] := by
    rw [List.drop_eq_getElem_cons h2]
    rfl
  rw [List.eraseIdx_eq_take_drop_succ, List.drop_drop, show g + (k - g + 1) = k + 1 by omega, e]
  simp
end MP

/-! Places in turn, LOTS in turn: plain mathematics. -/
namespace MP
open PySem L2 PySem.Spec PyProof.Rows
section
variable {α : Type}
theorem leadL_len (xs : List α) (k g : Nat) (h1 : g ≤ k) (h2 : k < xs.length) : (leadL xs k g).length = xs.length := by
  obtain ⟨x, hx, e⟩ := leadL_perm xs k g h1 h2
  rw [e, List.length_append, List.length_cons, List.length_take, List.length_eraseIdx, List.length_drop]
  split <;> omega
theorem erase_perm0 {xs : List α} {k : Nat} (h : k < xs.length) : (xs[k] :: xs.eraseIdx k).Perm xs := by
  rw [List.eraseIdx_eq_take_drop_succ]
  refine List.Perm.trans (List.perm_middle.symm) ?_
  rw [← List.drop_eq_getElem_cons h, List.take_append_drop]
theorem leadL_pm (xs : List α) (k g : Nat) (h1 : g ≤ k) (h2 : k < xs.length) : (leadL xs k g).Perm xs := by
  obtain ⟨x, hx, e⟩ := leadL_perm xs k g h1 h2
  rw [e]
  have hl : k - g < (xs.drop g).length := by simp; omega
  have hx2 : (xs.drop g)[k - g] = x := by
    rw [List.getElem_drop]
    rw [List.getElem?_eq_getElem h2] at hx
    injection hx with hx
    rw [← hx]
    congr 1
    omega
  have := erase_perm0 hl
  rw [hx2] at this
  have h3 := this.append_left (xs.take g)
  rwa [List.take_append_drop] at h3
theorem leadL_take (xs : List α) (k g : Nat) (h1 : g ≤ k) (h2 : k < xs.length) {x : α} (hx : xs[k]? = some x) : (leadL xs k g).take (g + 1) = xs.take g ++ [x] := by
  obtain ⟨y, hy, e⟩ := leadL_perm xs k g h1 h2
  rw [hx] at hy
  injection hy with hy
  subst hy
  rw [e]
  have : (xs.take g).length = g := by simp; omega
  rw [List.take_append, this, show g + 1 - g = 1 by omega, List.take_of_length_le (by omega)]
  simp
theorem leadL_drop (xs : List α) (k g : Nat) (h1 : g ≤ k) (h2 : k < xs.length) : (leadL xs k g).drop (g + 1) = (xs.drop g).eraseIdx (k - g) := by
  obtain ⟨y, hy, e⟩ := leadL_perm xs k g h1 h2
  rw [e]
  have : (xs.take g).length = g := by simp; omega
  rw [List.drop_append, this, show g + 1 - g = 1 by omega, List.drop_eq_nil_of_le (by omega)]
  simp
end
/-! places -/
section
variable (ps : List Nat) (len : Nat)
def atS (held : List Nat) (i : Nat) : Nat := held.idxOf (ps.getD i 0)
def heldS : Nat → List Nat
  | 0 => List.range len
  | i + 1 => leadL (heldS i) (atS ps (heldS i) i) i
def msS : Nat → List (Nat × Bool)
  | 0 => []
  | i + 1 => msS i ++ Or.ahd (atS ps (heldS ps len i) i) i
def osS {n : Nat} (os : List (Or n)) : Nat → List (Or n)
  | 0 => os
  | i + 1 => Or.lead (osS os i) (atS ps (heldS ps len i) i) i
variable {ps len}
structure PsOk (i : Nat) : Prop where
  pm : (heldS ps len i).Perm (List.range len)
  tk : (heldS ps len i).take i = ps.take i
theorem ps_at (hn : ps.Nodup) (hl : ∀ p ∈ ps, p < len) {i : Nat} (hi : i < ps.length) (h : PsOk (ps := ps) (len := len) i) : atS ps (heldS ps len i) i < (heldS ps len i).length ∧ i ≤ atS ps (heldS ps len i) i ∧ (heldS ps len i)[atS ps (heldS ps len i) i]? = some (ps.getD i 0) := by
  have hm : ps.getD i 0 ∈ ps := getD_mem hi
  have hmem : ps.getD i 0 ∈ heldS ps len i := h.pm.mem_iff.mpr (List.mem_range.mpr (hl _ hm))
  have hlt := List.idxOf_lt_length_of_mem hmem
  have hget : (heldS ps len i)[atS ps (heldS ps len i) i]? = some (ps.getD i 0) := by
    show (heldS ps len i)[List.idxOf (ps.getD i 0) (heldS ps len i)]? = _
    rw [List.getElem?_eq_getElem hlt]
    exact congrArg some (List.getElem_idxOf hlt)
  refine ⟨hlt, ?_, hget⟩
  by_cases hlt2 : atS ps (heldS ps len i) i < i
  · exfalso
    have h1 : ((heldS ps len i).take i)[atS ps (heldS ps len i) i]? = some (ps.getD i 0) := by
      rw [List.getElem?_take, if_pos hlt2, hget]
    rw [h.tk, List.getElem?_take, if_pos hlt2] at h1
    have hps : atS ps (heldS ps len i) i < ps.length := by omega
    have e : ps.getD i 0 = ps[i] := by simp [List.getD, hi]
    rw [List.getElem?_eq_getElem hps, e] at h1
    injection h1 with h1
    have := (List.getElem_inj hn).mp h1
    omega
  · omega
theorem ps_ok (hn : ps.Nodup) (hl : ∀ p ∈ ps, p < len) : ∀ i, i ≤ ps.length → PsOk (ps := ps) (len := len) i
  | 0, _ => ⟨List.Perm.refl _, by simp⟩
  | i + 1, hi => by
    have h := ps_ok hn hl i (by omega)
    obtain ⟨h1, h2, h3⟩ := ps_at hn hl (by omega) h
    refine ⟨(leadL_pm _ _ _ h2 h1).trans h.pm, ?_⟩
    show (leadL (heldS ps len i) _ i).take (i + 1) = _
    rw [leadL_take _ _ _ h2 h1 h3, h.tk, List.take_add_one]
    congr 1
    simp [List.getD, List.getElem?_eq_getElem (show i < ps.length by omega)]
theorem ps_mvs {n : Nat} {os : List (Or n)} (hn : ps.Nodup) (hl : ∀ p ∈ ps, p < len) (hos : os.length = len) : ∀ i, i ≤ ps.length → Or.mvs (msS ps len i) os = osS ps len os i ∧ (osS ps len os i).length = len ∧ (∀ x ∈ msS ps len i, x.1 + 1 < len) ∧ (msS ps len i).length ≤ i * len
  | 0, _ => ⟨rfl, hos, by simp [msS], by simp [msS]⟩
  | i + 1, hi => by
    obtain ⟨a1, a2, a3, a4⟩ := ps_mvs hn hl hos i (by omega)
    obtain ⟨h1, h2, h3⟩ := ps_at hn hl (by omega) (ps_ok hn hl i (by omega))
    have hlen : (heldS ps len i).length = len := by
      rw [(ps_ok hn hl i (by omega)).pm.length_eq]
      simp
    rw [hlen] at h1
    refine ⟨?_, ?_, fun x hx => ?_, ?_⟩
    · show Or.mvs (msS ps len i ++ _) os = _
      rw [Or.mvs_append, a1, Or.mvs_ahd _ _ _ h2 (by omega)]
      rfl
    · show (Or.lead _ _ _).length = _
      rw [Or.lead_len _ _ _ h2 (by omega), a2]
    · rcases List.mem_append.mp (show x ∈ msS ps len i ++ _ from hx) with hx | hx
      · exact a3 x hx
      · have := Or.ahd_ok hx
        omega
    · show (msS ps len i ++ _).length ≤ _
      rw [List.length_append, Or.ahd_len, Nat.succ_mul]
      omega
end
/-! LOTS -/
section
variable (ls pp : List (List Nat))
def atP (held : List (List Nat)) (i : Nat) : Nat := i + ((List.range (held.length - i)).filter fun j => decide (held.getD (i + j) [] = pp.getD i [])).headD 0
def heldP : Nat → List (List Nat)
  | 0 => ls
  | i + 1 => leadL (heldP i) (atP pp (heldP i) i) i
def msP : Nat → List (Nat × Bool)
  | 0 => []
  | i + 1 => msP i ++ Or.ahd (atP pp (heldP ls pp i) i) i
def osP {n : Nat} (os : List (Or n)) : Nat → List (Or n)
  | 0 => os
  | i + 1 => Or.lead (osP os i) (atP pp (heldP ls pp i) i) i
variable {ls pp}
structure PpOk (i : Nat) : Prop where
  dr : ((heldP ls pp i).drop i).Perm (pp.drop i)
  tk : (heldP ls pp i).take i = pp.take i
  ln : (heldP ls pp i).length = pp.length
theorem head_mem {p : Nat → Bool} {k j : Nat} (hj : j < k) (h : p j = true) : ∃ r, ((List.range k).filter p) = ((List.range k).filter p).headD 0 :: r ∧ p (((List.range k).filter p).headD 0) = true ∧ ((List.range k).filter p).headD 0 < k := by
  have hm : j ∈ (List.range k).filter p := List.mem_filter.mpr ⟨List.mem_range.mpr hj, h⟩
  cases e : (List.range k).filter p with
  | nil => rw [e] at hm; simp at hm
  | cons x r =>
    have hx : x ∈ (List.range k).filter p := by rw [e]; simp
    obtain ⟨h1, h2⟩ := List.mem_filter.mp hx
    exact ⟨r, rfl, h2, List.mem_range.mp h1⟩
theorem pp_at {i : Nat} (hi : i < pp.length) (h : PpOk (ls := ls) (pp := pp) i) : atP pp (heldP ls pp i) i < (heldP ls pp i).length ∧ i ≤ atP pp (heldP ls pp i) i ∧ (heldP ls pp i)[atP pp (heldP ls pp i) i]? = some (pp.getD i []) ∧ ∃ r, ((List.range ((heldP ls pp i).length - i)).filter fun j => decide ((heldP ls pp i).getD (i + j) [] = pp.getD i [])) = (atP pp (heldP ls pp i) i - i) :: r := by
  have hm : pp.getD i [] ∈ (heldP ls pp i).drop i := h.dr.mem_iff.mpr (by
    rw [List.drop_eq_getElem_cons hi, show pp.getD i [] = pp[i] by simp [List.getD, hi]]
    exact List.mem_cons_self)
  obtain ⟨j, hj, e⟩ := List.getElem_of_mem hm
  rw [List.length_drop] at hj
  rw [List.getElem_drop] at e
  have hp : (fun j => decide ((heldP ls pp i).getD (i + j) [] = pp.getD i [])) j = true := by
    simp only [decide_eq_true_eq]
    rw [← e]
    simp [List.getD, List.getElem?_eq_getElem (show i + j < (heldP ls pp i).length by omega)]
  obtain ⟨r, h1, h2, h3⟩ := head_mem (p := fun j => decide ((heldP ls pp i).getD (i + j) [] = pp.getD i [])) hj hp
  have hat : atP pp (heldP ls pp i) i < (heldP ls pp i).length := by unfold atP; omega
  refine ⟨hat, by unfold atP; omega, ?_, r, ?_⟩
  · simp only [decide_eq_true_eq] at h2
    rw [← h2]
    show (heldP ls pp i)[atP pp (heldP ls pp i) i]? = some ((heldP ls pp i).getD (atP pp (heldP ls pp i) i) [])
    rw [List.getElem?_eq_getElem hat]
    simp [List.getD, List.getElem?_eq_getElem hat]
  · rw [show atP pp (heldP ls pp i) i - i = ((List.range ((heldP ls pp i).length - i)).filter fun j => decide ((heldP ls pp i).getD (i + j) [] = pp.getD i [])).headD 0 by unfold atP; omega]
    exact h1
theorem pp_ok (hp : ls.Perm pp) : ∀ i, i ≤ pp.length → PpOk (ls := ls) (pp := pp) i
  | 0, _ => ⟨by simpa [heldP] using hp, by simp, hp.length_eq⟩
  | i + 1, hi => by
    have h := pp_ok hp i (by omega)
    obtain ⟨h1, h2, h3, _⟩ := pp_at (by omega) h
    refine ⟨?_, ?_, ?_⟩
    · show ((leadL (heldP ls pp i) _ i).drop (i + 1)).Perm _
      rw [leadL_drop _ _ _ h2 h1]
      have hl : atP pp (heldP ls pp i) i - i < ((heldP ls pp i).drop i).length := by simp; omega
      have e1 := erase_perm0 hl
      have e2 : ((heldP ls pp i).drop i)[atP pp (heldP ls pp i) i - i] = pp.getD i [] := by
        rw [List.getElem_drop]
        rw [List.getElem?_eq_getElem h1] at h3
        injection h3 with h3
        rw [← h3]
        congr 1
        omega
      rw [e2] at e1
      have e3 := e1.trans h.dr
      rw [List.drop_eq_getElem_cons (show i < pp.length by omega), show pp[i] = pp.getD i [] by simp [List.getD, List.getElem?_eq_getElem (show i < pp.length by omega)]] at e3
      exact (List.perm_cons _).mp e3
    · show (leadL (heldP ls pp i) _ i).take (i + 1) = _
      rw [leadL_take _ _ _ h2 h1 h3, h.tk, List.take_add_one]
      congr 1
      simp [List.getD, List.getElem?_eq_getElem (show i < pp.length by omega)]
    · show (leadL (heldP ls pp i) _ i).length = _
      rw [leadL_len _ _ _ h2 h1, h.ln]
theorem pp_mvs {n : Nat} {os : List (Or n)} (hls : ls = Or.lotsR os) (hp : ls.Perm pp) : ∀ i, i ≤ pp.length → Or.mvs (msP ls pp i) os = osP ls pp os i ∧ (osP ls pp os i).length = pp.length ∧ (∀ x ∈ msP ls pp i, x.1 + 1 < pp.length) ∧ (msP ls pp i).length ≤ i * pp.length ∧ Or.lotsR (osP ls pp os i) = heldP ls pp i
  | 0, _ => ⟨rfl, by rw [← hp.length_eq, hls]; simp [osP, Or.lotsR], by simp [msP], by simp [msP], hls.symm⟩
  | i + 1, hi => by
    obtain ⟨a1, a2, a3, a4, a5⟩ := pp_mvs hls hp i (by omega)
    have hok := pp_ok hp i (by omega)
    obtain ⟨h1, h2, h3, _⟩ := pp_at (by omega) hok
    rw [hok.ln] at h1
    refine ⟨?_, ?_, fun x hx => ?_, ?_, ?_⟩
    · show Or.mvs (msP ls pp i ++ _) os = _
      rw [Or.mvs_append, a1, Or.mvs_ahd _ _ _ h2 (by omega)]
      rfl
    · show (Or.lead _ _ _).length = _
      rw [Or.lead_len _ _ _ h2 (by omega), a2]
    · rcases List.mem_append.mp (show x ∈ msP ls pp i ++ _ from hx) with hx | hx
      · exact a3 x hx
      · have := Or.ahd_ok hx
        omega
    · show (msP ls pp i ++ _).length ≤ _
      rw [List.length_append, Or.ahd_len, Nat.succ_mul]
      omega
    · show Or.lotsR (Or.lead _ _ _) = _
      rw [Or.lots_lead _ _ _ (by omega), a5]
      rfl
theorem pp_end (hp : ls.Perm pp) : heldP ls pp pp.length = pp := by
  have h := pp_ok hp pp.length (Nat.le_refl _)
  have := h.tk
  rw [List.take_of_length_le (by rw [h.ln]; exact Nat.le_refl _), List.take_length] at this
  exact this
end
end MP

namespace MP
open PySem L2 PySem.Spec PyProof.Rows
section
variable {C : Nat → List D → Mem → Res D} {env : Env} {m m1 m2 : Mem} {c : Nat} {fs : List D}
/-! an exception on its way -/
theorem s_e0 {e : Ex} {es : Exs} (h : ev C e env m = .exc c fs m1) : evs C (.cons e es) env m = .exc c fs m1 := by
  rw [evs_cons, h]; rfl
theorem s_e1 {e : Ex} {es : Exs} {d : D} (h : ev C e env m = .ok d m1) (hs : evs C es env m1 = .exc c fs m2) : evs C (.cons e es) env m = .exc c fs m2 := by
  rw [evs_cons, h, bnd_ok, hs]; rfl
theorem a_callFe {x : Nat} {es : Exs} (h : evs C es env m = .exc c fs m1) : ev C (.callF x es) env m = .exc c fs m1 := by
  rw [ev_callF, h]; rfl
theorem a_callBe {b : B} {es : Exs} (h : evs C es env m = .exc c fs m1) : ev C (.callB b es) env m = .exc c fs m1 := by
  rw [ev_callB, h]; rfl
theorem r_enumE {e : Ex} (h : ev C e env m = .exc c fs m1) : evSr C (.enum e) env m = .exc c fs m1 := by
  rw [evSr, h]; rfl
theorem x_forSE {t : Tg} {s : Sr} {b ss : Sts} (hs : evSr C s env m = .exc c fs m1) : exs C (.cons (.forS t s b) ss) env m = .exc c fs env m1 := by
  rw [exs_cons, ex, hs]; rfl
theorem h_hit {e : Ex} {dst : Nat} {r : Hds} {x : D} {env1 : Env} (h : ev C e env m = .ok x m1) (ha : asgT (.name dst) x env = some env1) : exh C (.cons c none e dst r) c fs env m = .ok .nx env1 m1 := by
  rw [exh, if_pos rfl, h]
  simp only [ha]
theorem h_miss {c' : Nat} {s : Option Nat} {e : Ex} {dst : Nat} {r : Hds} {R : SRes} (hc : Nat.beq c c' = false) (h : exh C r c fs env m = R) : exh C (.cons c' s e dst r) c fs env m = R := by
  have : c ≠ c' := fun e => by subst e; simp at hc
  rw [exh, if_neg this, h]
end
end MP

namespace MP
open PySem L2 PySem.Spec PyProof.Rows
variable {κ : Bool}
/-! a dict of counts -/
def kvC (t : List (Nat × Nat)) : List (Key × D) := t.map fun q => ((Sum.inl (q.1 : Int) : Key), D.int (q.2 : Nat))
def cget (t : List (Nat × Nat)) (x : Nat) : Nat := ((t.find? fun q => decide (q.1 = x)).map (·.2)).getD 0
def bump (t : List (Nat × Nat)) (x : Nat) : List (Nat × Nat) := if (t.any fun q => decide (q.1 = x)) = true then t.map (fun q => if q.1 = x then (q.1, cget t x + 1) else q) else t ++ [(x, cget t x + 1)]
theorem key_eq (a b : Nat) : decide ((Sum.inl (a : Int) : Key) = Sum.inl (b : Int)) = decide (a = b) := by
  by_cases h : a = b
  · subst h; simp
  · have : ¬ ((Sum.inl (a : Int) : Key) = Sum.inl (b : Int)) := fun e => h (by injection e; omega)
    rw [decide_eq_false this, decide_eq_false h]
theorem kvC_find (t : List (Nat × Nat)) (x : Nat) : getD? (kvC t) (.inl (x : Nat)) = (t.find? fun q => decide (q.1 = x)).map fun q => D.int (q.2 : Nat) := by
  unfold getD?
  induction t with
  | nil => rfl
  | cons q t ih =>
    simp only [kvC, List.map_cons, List.find?_cons, key_eq] at ih ⊢
    cases decide (q.1 = x) with
    | true => rfl
    | false => exact ih
theorem kvC_dget (t : List (Nat × Nat)) (x : Nat) : (getD? (kvC t) (.inl (x : Nat))).getD (.int 0) = .int (cget t x : Nat) := by
  rw [kvC_find]
  unfold cget
  cases t.find? fun q => decide (q.1 = x) <;> rfl
theorem kvC_ix {t : List (Nat × Nat)} {q : Nat × Nat} (h : q ∈ t) : getD? (kvC t) (.inl (q.1 : Nat)) = some (.int (cget t q.1 : Nat)) := by
  rw [kvC_find]
  unfold cget
  cases hf : t.find? fun r => decide (r.1 = q.1) with
  | none => exact absurd (List.find?_eq_none.mp hf q h) (by simp)
  | some r => rfl
theorem kvC_put (t : List (Nat × Nat)) (x : Nat) : putD (kvC t) (.inl (x : Nat)) (.int ((cget t x + 1 : Nat) : Int)) = kvC (bump t x) := by
  unfold putD bump
  have ha : ((kvC t).any fun kv => decide (kv.1 = (Sum.inl (x : Int) : Key))) = t.any fun q => decide (q.1 = x) := by
    simp only [kvC, List.any_map, Function.comp_def, key_eq]
  rw [ha]
  cases t.any fun q => decide (q.1 = x) with
  | true =>
    rw [if_pos rfl, if_pos rfl]
    simp only [kvC, List.map_map, Function.comp_def]
    refine List.map_congr_left fun q _ => ?_
    have := key_eq q.1 x
    by_cases h : q.1 = x
    · subst h; simp
    · rw [decide_eq_false h] at this
      rw [if_neg (of_decide_eq_false this), if_neg h]
  | false =>
    rw [if_neg (by simp), if_neg (by simp)]
    simp [kvC]
theorem kvC_keys (t : List (Nat × Nat)) : ((kvC t).map fun q => keyD q.1) = nI (t.map (·.1)) := by simp [kvC, nI, keyD]
theorem kvC_len (t : List (Nat × Nat)) : (kvC t).length = t.length := by simp [kvC]
theorem bump_len (t : List (Nat × Nat)) (x : Nat) : (bump t x).length ≤ t.length + 1 := by
  unfold bump
  split <;> simp
def cntN (row : List Nat) : List (Nat × Nat) := row.foldl bump []
theorem fold_len : ∀ (row : List Nat) (t : List (Nat × Nat)), (row.foldl bump t).length ≤ t.length + row.length
  | [], t => by simp
  | x :: xs, t => by
    have := fold_len xs (bump t x)
    have := bump_len t x
    simp only [List.foldl_cons, List.length_cons]
    omega
theorem cntN_len (row : List Nat) : (cntN row).length ≤ row.length := by
  have := fold_len row []
  unfold cntN
  simpa using this
/-! plain numbers -/
def factN (k : Nat) : Nat := (List.range (k - 1)).foldl (fun p i => p * (2 + i)) 1
def powN (b e : Nat) : Nat := (List.range e).foldl (fun p _ => p * b) 1
def prodN (ls : List Nat) : Nat := ls.foldl (· * ·) 1
def stayersN (row : List Nat) : Nat := prodN ((cntN row).map fun q => powN q.1 (cget (cntN row) q.1) * factN (cget (cntN row) q.1))
def kinN (row : List Nat) : Nat := factN row.sum / stayersN row
theorem mul_ok {a b : Nat} (ha : a < 2 ^ 20000) (hb : b < 2 ^ 20000) : mulOk (a : Int) (b : Int) = true := by
  have key : ∀ x : Nat, x < 2 ^ 20000 → x.log2 < 20000 := fun x h => by
    by_cases h0 : x = 0
    · subst h0; decide
    · exact (Nat.log2_lt h0).mpr h
  have h1 := key a ha
  have h2 := key b hb
  unfold mulOk
  simp only [Int.natAbs_natCast, decide_eq_true_eq]
  omega
theorem bin_mulN {m : Mem} {a b : Nat} (ha : a < 2 ^ 20000) (hb : b < 2 ^ 20000) : binV .mul m (.int (a : Nat)) (.int (b : Nat)) = some (.int ((a * b : Nat) : Int)) := by
  simp only [binV, mul_ok ha hb, if_true]
  rw [Int.natCast_mul]
end MP

namespace MP
open PySem L2 PySem.Spec PyProof.Rows
variable {κ : Bool} {C : Nat → List D → Mem → Res D} {env : Env} {m m1 : Mem}
/-! comprehensions of two clauses -/
theorem inner_loop {β : Type} {g f : β → D} {tg : Tg} {own : List Nat} {elt : Ex} {v : SrcV} (zs : List β) (w : WF κ m1)
    (e2 : ∀ acc i, v.at (m1 ++ [O.acc acc]) i = some (zs.map g)[i]?)
    (h : ∀ z ∈ zs, ∃ env', asgT tg (g z) (wipeE env own) = some env' ∧ ∀ m' acc, m' = m1 ++ [O.acc acc] → WF κ m' → ev C elt env' m' = .ok (f z) m' ∧ Fk κ (f z)) :
    ∀ (n i : Nat) (acc : List D), i ≤ zs.length → zs.length - i < n → acc.length + (zs.length - i) ≤ 1000000 → (∀ d ∈ acc, Fk κ d) →
      compLoop m1.length v tg own env (fun env' m' => evTs C .nil env' m') (fun env' m' => ev C elt env' m') n i (m1 ++ [.acc acc]) = .ok () (m1 ++ [.acc (((zs.drop i).map f).reverse ++ acc)]) ∧ ∀ d ∈ (zs.drop i).map f, Fk κ d := by
  intro n
  induction n with
  | zero => intro i acc h1 h2; omega
  | succ n ih =>
    intro i acc h1 h2 h3 h4
    unfold compLoop
    have wa : WF κ (m1 ++ [.acc acc]) := w.push (fun k => bndDs_iff.mpr fun d hd => (h4 d hd).1 k) fun hk => noLs_iff.mpr fun d hd => (h4 d hd).2 hk
    rw [e2, List.getElem?_map]
    by_cases hi : i < zs.length
    · rw [List.getElem?_eq_getElem hi]
      obtain ⟨env', q1, q2⟩ := h zs[i] (List.getElem_mem hi)
      obtain ⟨e4, e5⟩ := q2 _ acc rfl wa
      simp only [Option.map_some, q1]
      have hdr : zs.drop i = zs[i] :: zs.drop (i + 1) := List.drop_eq_getElem_cons hi
      have hg : (m1 ++ [O.acc acc])[m1.length]? = some (.acc acc) := by simp
      rw [t_nil, bndN_ok]
      simp only [if_true, e4, bndN_ok, hg]
      rw [if_pos (by rw [sizeLine_eq]; omega)]
      have : (m1 ++ [O.acc acc]).set m1.length (.acc (f zs[i] :: acc)) = m1 ++ [O.acc (f zs[i] :: acc)] := by
        rw [List.set_append_right _ _ (Nat.le_refl _), Nat.sub_self, List.set_cons_zero]
      obtain ⟨i1, i2⟩ := ih (i + 1) (f zs[i] :: acc) (by omega) (by omega) (by simp; omega) (by
        intro d hd
        rcases List.mem_cons.mp hd with rfl | hd
        · exact e5
        · exact h4 d hd)
      rw [this, i1, hdr]
      refine ⟨by simp only [List.map_cons, List.reverse_cons, List.append_assoc, List.singleton_append], fun d hd => ?_⟩
      rw [List.map_cons] at hd
      rcases List.mem_cons.mp hd with rfl | hd
      · exact e5
      · exact i2 d hd
    · have : zs.length = i := by omega
      rw [List.getElem?_eq_none (by omega), List.drop_eq_nil_of_le (by omega)]
      simp
theorem a_comp2 {α β : Type} {g : α → D} (zs : α → List β) {g2 f : α → β → D} {tg tg2 : Tg} {src src2 : Sr} {own own2 : List Nat} {elt : Ex} {v : SrcV} (ys : List α) (w : WF κ m1)
    (e1 : evSr C src env m = .ok v m1) (e2 : ∀ acc i, v.at (m1 ++ [O.acc acc]) i = some (ys.map g)[i]?)
    (h : ∀ y ∈ ys, ∃ env', asgT tg (g y) (wipeE env own) = some env' ∧ ∃ v2, (∀ m' acc, m' = m1 ++ [O.acc acc] → WF κ m' → evSr C src2 env' m' = .ok v2 m') ∧ (∀ acc i, v2.at (m1 ++ [O.acc acc]) i = some ((zs y).map (g2 y))[i]?) ∧
      ∀ z ∈ zs y, ∃ env2, asgT tg2 (g2 y z) (wipeE env' own2) = some env2 ∧ ∀ m' acc, m' = m1 ++ [O.acc acc] → WF κ m' → ev C elt env2 m' = .ok (f y z) m' ∧ Fk κ (f y z))
    (hl : (ys.flatMap fun y => (zs y).map (f y)).length ≤ 1000000) (hl2 : ys.length ≤ 1000000) : ev C (.comp2 tg src .nil tg2 src2 .nil elt own own2) env m = .ok (.lst (ys.flatMap fun y => (zs y).map (f y))) m1 := by
  have key : ∀ (n i : Nat) (acc : List D), i ≤ ys.length → ys.length - i < n → acc.length + ((ys.drop i).flatMap fun y => (zs y).map (f y)).length ≤ 1000000 → (∀ d ∈ acc, Fk κ d) →
      compLoop2 v tg own env (fun env' m' => evTs C .nil env' m') (fun env' m' => (evSr C src2 env' m').bndN fun s2 m2 =>
        compLoop m1.length s2 tg2 own2 env' (fun env2 m' => evTs C .nil env2 m') (fun env2 m' => ev C elt env2 m') turnsMax 0 m2) n i (m1 ++ [.acc acc]) = .ok () (m1 ++ [.acc (((ys.drop i).flatMap fun y => (zs y).map (f y)).reverse ++ acc)]) ∧ ∀ d ∈ (ys.drop i).flatMap fun y => (zs y).map (f y), Fk κ d := by
    intro n
    induction n with
    | zero => intro i acc h1 h2; omega
    | succ n ih =>
      intro i acc h1 h2 h3 h4
      unfold compLoop2
      have wa : WF κ (m1 ++ [.acc acc]) := w.push (fun k => bndDs_iff.mpr fun d hd => (h4 d hd).1 k) fun hk => noLs_iff.mpr fun d hd => (h4 d hd).2 hk
      rw [e2, List.getElem?_map]
      by_cases hi : i < ys.length
      · rw [List.getElem?_eq_getElem hi]
        obtain ⟨env', q1, v2, q2, q3, q4⟩ := h ys[i] (List.getElem_mem hi)
        have hdr : ys.drop i = ys[i] :: ys.drop (i + 1) := List.drop_eq_getElem_cons hi
        rw [hdr, List.flatMap_cons, List.length_append, List.length_map] at h3
        obtain ⟨j1, j2⟩ := inner_loop (κ := κ) (C := C) (env := env') (m1 := m1) (g := g2 ys[i]) (f := f ys[i]) (tg := tg2) (own := own2) (elt := elt) (v := v2) (zs ys[i]) w q3 q4 turnsMax 0 acc (Nat.zero_le _) (by unfold turnsMax; omega) (by omega) h4
        rw [List.drop_zero] at j1 j2
        simp only [Option.map_some, q1]
        rw [t_nil, bndN_ok]
        simp only [if_true]
        rw [q2 _ acc rfl wa, bndN_ok, j1, bndN_ok]
        obtain ⟨i1, i2⟩ := ih (i + 1) (((zs ys[i]).map (f ys[i])).reverse ++ acc) (by omega) (by omega) (by rw [List.length_append, List.length_reverse, List.length_map]; omega) (by
          intro d hd
          rcases List.mem_append.mp hd with hd | hd
          · exact j2 d (List.mem_reverse.mp hd)
          · exact h4 d hd)
        rw [i1, hdr, List.flatMap_cons]
        refine ⟨by rw [List.reverse_append, List.append_assoc], fun d hd => ?_⟩
        rcases List.mem_append.mp hd with hd | hd
        · exact j2 d hd
        · exact i2 d hd
      · have : ys.length = i := by omega
        rw [List.getElem?_eq_none (by omega), List.drop_eq_nil_of_le (by omega)]
        simp
  rw [ev, e1, bnd_ok]
  obtain ⟨k1, hfx⟩ := key turnsMax 0 [] (Nat.zero_le _) (by unfold turnsMax; omega) (by rw [List.drop_zero]; simpa using hl) (by simp)
  rw [k1, bndN_ok]
  unfold compEnd
  have hg : ∀ o : O, (m1 ++ [o])[m1.length]? = some o := fun o => by simp
  rw [hg]
  simp only [List.append_nil, List.reverse_reverse, List.drop_zero] at hfx ⊢
  have : ∀ o o' : O, (m1 ++ [o]).set m1.length o' = m1 ++ [o'] := fun o o' => by
    rw [List.set_append_right _ _ (Nat.le_refl _), Nat.sub_self, List.set_cons_zero]
  rw [this]
  unfold clean
  have ht : ∀ o : O, (m1 ++ [o]).take m1.length = m1 := fun o => by simp
  rw [ht, if_pos w.1]
  simp only [hg, Nat.lt_irrefl, if_false]
  rw [if_pos (bndDs_iff.mpr fun d hd => (hfx d hd).1 _)]
end MP

/-! Rounds of orders under swaps: plain mathematics. -/
namespace MP
/-! chains: each thing leads to the next one, the last one to y -/
def ChT (o : List Nat) : List Nat → Nat → Prop
  | [], _ => True
  | x :: r, y => o.getD x 0 = r.headD y ∧ ChT o r y
theorem headD_app (p q : List Nat) (y : Nat) : (p ++ q).headD y = p.headD (q.headD y) := by cases p <;> rfl
theorem ChT.app {o : List Nat} {y : Nat} {q : List Nat} : ∀ {p : List Nat}, ChT o (p ++ q) y ↔ ChT o p (q.headD y) ∧ ChT o q y
  | [] => by simp [ChT]
  | x :: p => by
    simp only [List.cons_append, ChT, headD_app, ChT.app (p := p), and_assoc]
/-- a round as it is gone -/
structure Cy (n : Nat) (o c : List Nat) : Prop where
  nd : c.Nodup
  ne : c ≠ []
  lt : ∀ x ∈ c, x < n
  ch : ChT o c (c.headD 0)
theorem headD_mem {c : List Nat} {y : Nat} (h : c ≠ []) : c.headD y ∈ c := by
  cases c with
  | nil => exact absurd rfl h
  | cons x r => exact List.mem_cons_self
theorem headD_of {c : List Nat} {y z : Nat} (h : c ≠ []) : c.headD y = c.headD z := by
  cases c with
  | nil => exact absurd rfl h
  | cons x r => rfl
theorem Cy.rot {n : Nat} {o p q : List Nat} (h : Cy n o (p ++ q)) : Cy n o (q ++ p) := by
  cases p with
  | nil => simpa using h
  | cons x p =>
    cases q with
    | nil => simpa using h
    | cons z q =>
      obtain ⟨h1, h2, h3, h4⟩ := h
      refine ⟨(List.perm_append_comm.nodup_iff).mp h1, by simp, fun w hw => h3 w (List.perm_append_comm.mem_iff.mp hw), ?_⟩
      rw [ChT.app] at h4 ⊢
      exact ⟨h4.2, h4.1⟩
theorem ChT.cl {o : List Nat} {y : Nat} : ∀ {c : List Nat}, ChT o c y → ∀ x ∈ c, o.getD x 0 ∈ c ∨ o.getD x 0 = y
  | x :: r, h, z, hz => by
    rcases List.mem_cons.mp hz with rfl | hz
    · rw [h.1]
      cases r with
      | nil => exact .inr rfl
      | cons w r => exact .inl (by simp)
    · rcases h.2.cl z hz with e | e
      · exact .inl (List.mem_cons_of_mem _ e)
      · exact .inr e
/-- from anywhere on to the end -/
theorem ChT.out {o : List Nat} {y : Nat} : ∀ {c : List Nat}, ChT o c y → ∀ x ∈ c, ∃ k, iter o k x = y
  | x :: r, h, z, hz => by
    have key : ∀ z ∈ r, ∃ k, iter o k z = y := fun z hz => h.2.out z hz
    rcases List.mem_cons.mp hz with rfl | hz
    · cases r with
      | nil => exact ⟨1, h.1⟩
      | cons w r =>
        obtain ⟨k, e⟩ := key w List.mem_cons_self
        refine ⟨k + 1, ?_⟩
        show iter o k (o.getD z 0) = y
        rw [h.1]
        exact e
    · exact key z hz
/-- from the head to anything -/
theorem ChT.go {o : List Nat} {y : Nat} : ∀ {c : List Nat}, ChT o c y → ∀ x ∈ c, ∃ k, iter o k (c.headD y) = x
  | x :: r, h, z, hz => by
    rcases List.mem_cons.mp hz with rfl | hz
    · exact ⟨0, rfl⟩
    · obtain ⟨k, e⟩ := h.2.go z hz
      refine ⟨k + 1, ?_⟩
      show iter o k (o.getD x 0) = z
      rw [h.1]
      exact e
theorem Cy.is {n : Nat} {o c : List Nat} (h : Cy n o c) : isCyc n o c := by
  refine ⟨h.nd, h.ne, h.lt, fun x hx => ?_, fun x hx y hy => ?_⟩
  · rcases h.ch.cl x hx with e | e
    · exact e
    · rw [e]
      exact headD_mem h.ne
  · obtain ⟨i, e⟩ := h.ch.out x hx
    obtain ⟨j, f⟩ := h.ch.go y hy
    refine ⟨i + j, ?_⟩
    rw [iter_add, e]
    rw [headD_of h.ne (y := c.headD 0) (z := 0)] at f
    exact f
/-- the told rounds are gone as they stand -/
theorem cycW_line {o : List Nat} : ∀ (f : Nat) (seen : List Nat) (at_ : Nat) (own : List Nat), (∀ j, j + 1 < own.length → o.getD (own.getD j 0) 0 = own.getD (j + 1) 0) → (own ≠ [] → o.getD (own.getD (own.length - 1) 0) 0 = at_) →
    ∀ j, j + 1 < (cycW o f seen at_ own).length → o.getD ((cycW o f seen at_ own).getD j 0) 0 = (cycW o f seen at_ own).getD (j + 1) 0
  | 0, seen, at_, own, h1, _ => h1
  | f + 1, seen, at_, own, h1, h2 => by
    unfold cycW
    split
    · exact h1
    · refine cycW_line f seen _ _ (fun j hj => ?_) (fun _ => ?_)
      · rw [List.length_append, List.length_singleton] at hj
        by_cases hl : j + 1 < own.length
        · simp only [List.getD, List.getElem?_append_left hl, List.getElem?_append_left (show j < own.length by omega)]
          exact h1 j hl
        · have e : j + 1 = own.length := by omega
          have hne : own ≠ [] := fun z => by rw [z] at e; simp at e
          have h3 := h2 hne
          rw [show own.length - 1 = j by omega] at h3
          have e1 : (own ++ [at_]).getD j 0 = own.getD j 0 := by simp only [List.getD, List.getElem?_append_left (show j < own.length by omega)]
          have e2 : (own ++ [at_]).getD (j + 1) 0 = at_ := by
            rw [e]
            simp [List.getD]
          rw [e1, e2, h3]
      · simp [List.getD]
theorem line_ch {o : List Nat} {y : Nat} : ∀ {c : List Nat}, (∀ j, j + 1 < c.length → o.getD (c.getD j 0) 0 = c.getD (j + 1) 0) → (c ≠ [] → o.getD (c.getD (c.length - 1) 0) 0 = y) → ChT o c y
  | [], _, _ => trivial
  | [x], _, h => ⟨by simpa [List.getD] using h (by simp), trivial⟩
  | x :: z :: r, h1, h2 => by
    refine ⟨by simpa [List.getD] using h1 0 (by simp), line_ch (fun j hj => ?_) (fun _ => ?_)⟩
    · have := h1 (j + 1) (by simp at hj ⊢; omega)
      simpa [List.getD] using this
    · have := h2 (by simp)
      simpa [List.getD] using this
theorem isCyc.cy {n : Nat} {o c : List Nat} (ho : isOrd n o) (h : isCyc n o c) (hl : ∀ j, j + 1 < c.length → o.getD (c.getD j 0) 0 = c.getD (j + 1) 0) : Cy n o c := by
  refine ⟨h.nd, h.ne, h.lt, line_ch hl fun _ => ?_⟩
  have hpos : 0 < c.length := List.length_pos_iff.mpr h.ne
  have hlast : c.getD (c.length - 1) 0 ∈ c := getD_mem (by omega)
  have hm := h.cl _ hlast
  obtain ⟨i, hi, ei⟩ := List.getElem_of_mem hm
  by_cases h0 : i = 0
  · subst h0
    rw [← ei]
    cases c with
    | nil => simp at hpos
    | cons x r => rfl
  · exfalso
    have e1 := hl (i - 1) (by omega)
    rw [show i - 1 + 1 = i by omega] at e1
    have e2 : c.getD i 0 = c[i] := by simp [List.getD, hi]
    rw [e2, ei] at e1
    have := ho.inj (h.lt _ (getD_mem (show i - 1 < c.length by omega))) (h.lt _ hlast) e1
    simp only [List.getD, List.getElem?_eq_getElem (show i - 1 < c.length by omega), List.getElem?_eq_getElem (show c.length - 1 < c.length by omega), Option.getD_some] at this
    have := (List.getElem_inj h.nd).mp this
    omega
theorem cycF_mem {o : List Nat} {n : Nat} {P : List Nat → Prop} : ∀ (ss : List Nat) (found : List (List Nat)), (∀ c ∈ found, P c) → (∀ seen s, P (cycW o (n + 1) seen s [])) → ∀ c ∈ cycF o n ss found, P c
  | [], found, h, _ => h
  | s :: ss, found, h, h2 => by
    unfold cycF
    split
    · exact cycF_mem ss found h h2
    · refine cycF_mem ss _ (fun c hc => ?_) h2
      rcases List.mem_append.mp hc with hc | hc
      · exact h c hc
      · rw [List.mem_singleton.mp hc]
        exact h2 _ _
theorem cyc_cy {n : Nat} {o : List Nat} (ho : isOrd n o) : ∀ c ∈ cyc o, Cy n o c := fun c hc => by
  refine ((rounds_cyc ho).cyc c hc).cy ho ?_
  exact cycF_mem (P := fun c => ∀ j, j + 1 < c.length → o.getD (c.getD j 0) 0 = c.getD (j + 1) 0) _ _ (by simp) (fun seen s => cycW_line _ _ _ _ (by simp) (by simp)) c hc
/-! swaps -/
def swpL (n a b : Nat) : List Nat := (List.range n).map fun i => if i = a then b else if i = b then a else i
theorem swpL_get {n a b i : Nat} (h : i < n) : (swpL n a b).getD i 0 = if i = a then b else if i = b then a else i := by simp [swpL, List.getD, h]
theorem isOrd_swp {n a b : Nat} (ha : a < n) (hb : b < n) : isOrd n (swpL n a b) := by
  have lt : ∀ i, i < n → (swpL n a b).getD i 0 < n := fun i hi => by
    rw [swpL_get hi]
    split
    · exact hb
    · split <;> omega
  have inv : ∀ i, i < n → (swpL n a b).getD ((swpL n a b).getD i 0) 0 = i := fun i hi => by
    rw [swpL_get (lt i hi), swpL_get hi]
    by_cases h1 : i = a
    · subst h1
      simp only [if_true]
      split
      · rename_i h; exact h
      · rfl
    · by_cases h2 : i = b
      · subst h2
        simp [h1]
      · simp [h1, h2]
  exact isOrd_of (by simp [swpL]) lt (fun j hj => ⟨_, lt j hj, inv j hj⟩) fun i j hi hj e => by rw [← inv i hi, e, inv j hj]
def Sw {n : Nat} (a b : Nat) (ha : a < n) (hb : b < n) : Or n := ⟨swpL n a b, isOrd_swp ha hb⟩
theorem Sw_get {n a b : Nat} {ha : a < n} {hb : b < n} {i : Nat} (h : i < n) : (Sw a b ha hb).1.getD i 0 = if i = a then b else if i = b then a else i := swpL_get h
theorem Sw_comm {n a b : Nat} (ha : a < n) (hb : b < n) : Sw a b ha hb = Sw b a hb ha := Or.ext fun i hi => by
  rw [Sw_get hi, Sw_get hi]
  by_cases h1 : i = a
  · subst h1
    by_cases h2 : i = b
    · simp [h2]
    · simp [h2]
  · by_cases h2 : i = b
    · simp [h1, h2]
    · simp [h1, h2]
theorem Sw_sq {n a b : Nat} (ha : a < n) (hb : b < n) : Sw a b ha hb * Sw a b ha hb = Or.one := Or.ext fun i hi => by
  rw [Or.mul_get _ _ hi, Sw_get hi]
  show _ = (List.range n).getD i 0
  rw [range_get hi]
  by_cases h1 : i = a
  · subst h1
    rw [if_pos rfl, Sw_get hb]
    split
    · rename_i h; exact h
    · simp
  · by_cases h2 : i = b
    · subst h2
      rw [if_neg h1, if_pos rfl, Sw_get ha]
      simp
    · rw [if_neg h1, if_neg h2, Sw_get hi]
      simp [h1, h2]
theorem Sw_inv {n a b : Nat} (ha : a < n) (hb : b < n) : Or.inv (Sw a b ha hb) = Sw a b ha hb := Or.inv_of (Sw_sq ha hb)
/-- what a swap behind does -/
theorem swp_get {n : Nat} (o : Or n) {a b : Nat} {ha : a < n} {hb : b < n} {x : Nat} (hx : x < n) : (o * Sw a b ha hb).1.getD x 0 = if o.1.getD x 0 = a then b else if o.1.getD x 0 = b then a else o.1.getD x 0 := by
  rw [Or.mul_get _ _ hx, Sw_get (o.2.lt hx)]
theorem Sw_left {n : Nat} (o : Or n) {a b : Nat} (ha : a < n) (hb : b < n) : Sw a b ha hb * o = o * Sw (o.1.getD a 0) (o.1.getD b 0) (o.2.lt ha) (o.2.lt hb) := Or.ext fun i hi => by
  rw [Or.mul_get _ _ hi, swp_get o hi, Sw_get hi]
  by_cases h1 : i = a
  · subst h1
    simp
  · by_cases h2 : i = b
    · subst h2
      have : o.1.getD i 0 ≠ o.1.getD a 0 := fun e => h1 (o.2.inj hi ha e)
      rw [if_neg h1, if_pos rfl, if_neg this, if_pos rfl]
    · have e1 : o.1.getD i 0 ≠ o.1.getD a 0 := fun e => h1 (o.2.inj hi ha e)
      have e2 : o.1.getD i 0 ≠ o.1.getD b 0 := fun e => h2 (o.2.inj hi hb e)
      rw [if_neg h1, if_neg h2, if_neg e1, if_neg e2]
/-- a chain that does not come to a or b but at its end -/
theorem ChT.swp {n : Nat} {o : Or n} {a b : Nat} {ha : a < n} {hb : b < n} {y : Nat} : ∀ {c : List Nat}, (∀ x ∈ c, x < n) → ChT o.1 c y → (∀ x ∈ c.tail, x ≠ a ∧ x ≠ b) → ChT (o * Sw a b ha hb).1 c (if y = a then b else if y = b then a else y)
  | [], _, _, _ => trivial
  | x :: r, hl, h, hn => by
    refine ⟨?_, ChT.swp (fun z hz => hl z (List.mem_cons_of_mem _ hz)) h.2 fun z hz => hn z (List.mem_of_mem_tail hz)⟩
    rw [swp_get o (hl x List.mem_cons_self), h.1]
    cases r with
    | nil => rfl
    | cons w r =>
      obtain ⟨h1, h2⟩ := hn w (by simp)
      simp [h1, h2]
/-- a round that has neither -/
theorem Cy.swp_off {n : Nat} {o : Or n} {a b : Nat} {ha : a < n} {hb : b < n} {c : List Nat} (h : Cy n o.1 c) (h1 : a ∉ c) (h2 : b ∉ c) : Cy n (o * Sw a b ha hb).1 c := by
  have hx : ∀ x ∈ c, x ≠ a ∧ x ≠ b := fun x hx => ⟨fun e => h1 (e ▸ hx), fun e => h2 (e ▸ hx)⟩
  refine ⟨h.nd, h.ne, h.lt, ?_⟩
  have := h.ch.swp (ha := ha) (hb := hb) h.lt fun x hx' => hx x (List.mem_of_mem_tail hx')
  obtain ⟨e1, e2⟩ := hx _ (headD_mem (y := 0) h.ne)
  rwa [if_neg e1, if_neg e2] at this
/-- parted: from a to ahead of b, from b on to ahead of a -/
theorem Cy.parted {n : Nat} {o : Or n} {a b : Nat} {ha : a < n} {hb : b < n} {u v : List Nat} (h : Cy n o.1 (a :: u ++ b :: v)) : Cy n (o * Sw a b ha hb).1 (a :: u) ∧ Cy n (o * Sw a b ha hb).1 (b :: v) := by
  have hnd := h.nd
  rw [List.nodup_append] at hnd
  obtain ⟨n1, n2, n3⟩ := hnd
  have hab : a ≠ b := n3 a List.mem_cons_self b List.mem_cons_self
  have hch := h.ch
  rw [ChT.app] at hch
  have hu : ∀ x ∈ u, x ≠ a ∧ x ≠ b := fun x hx => ⟨fun e => by subst e; exact (List.nodup_cons.mp n1).1 hx, n3 x (List.mem_cons_of_mem _ hx) b List.mem_cons_self⟩
  have hv : ∀ x ∈ v, x ≠ a ∧ x ≠ b := fun x hx => ⟨fun e => n3 a List.mem_cons_self x (List.mem_cons_of_mem _ hx) e.symm, fun e => by subst e; exact (List.nodup_cons.mp n2).1 hx⟩
  refine ⟨⟨n1, by simp, fun x hx => h.lt x (List.mem_append_left _ hx), ?_⟩, n2, by simp, fun x hx => h.lt x (List.mem_append_right _ hx), ?_⟩
  · have := hch.1.swp (ha := ha) (hb := hb) (fun x hx => h.lt x (List.mem_append_left _ hx)) hu
    have e : ((b :: v).headD ((a :: u ++ b :: v).headD 0)) = b := rfl
    rw [e, if_neg (Ne.symm hab), if_pos rfl] at this
    exact this
  · have := hch.2.swp (ha := ha) (hb := hb) (fun x hx => h.lt x (List.mem_append_right _ hx)) hv
    have e : (a :: u ++ b :: v).headD 0 = a := rfl
    rw [e, if_pos rfl] at this
    exact this
/-- joined -/
theorem Cy.joined {n : Nat} {o : Or n} {a b : Nat} {ha : a < n} {hb : b < n} {u v : List Nat} (h : Cy n o.1 (a :: u)) (k : Cy n o.1 (b :: v)) (hd : ∀ x ∈ a :: u, x ∉ b :: v) : Cy n (o * Sw a b ha hb).1 (a :: u ++ b :: v) := by
  have hab : a ≠ b := fun e => hd a List.mem_cons_self (e ▸ List.mem_cons_self)
  have hu : ∀ x ∈ u, x ≠ a ∧ x ≠ b := fun x hx => ⟨fun e => by subst e; exact (List.nodup_cons.mp h.nd).1 hx, fun e => hd x (List.mem_cons_of_mem _ hx) (e ▸ List.mem_cons_self)⟩
  have hv : ∀ x ∈ v, x ≠ a ∧ x ≠ b := fun x hx => ⟨fun e => hd a List.mem_cons_self (e ▸ List.mem_cons_of_mem _ hx), fun e => by subst e; exact (List.nodup_cons.mp k.nd).1 hx⟩
  refine ⟨?_, by simp, fun x hx => ?_, ?_⟩
  · rw [List.nodup_append]
    exact ⟨h.nd, k.nd, fun x hx y hy e => hd x hx (e ▸ hy)⟩
  · rcases List.mem_append.mp hx with hx | hx
    · exact h.lt x hx
    · exact k.lt x hx
  · rw [ChT.app]
    have h1 := h.ch.swp (ha := ha) (hb := hb) h.lt hu
    have h2 := k.ch.swp (ha := ha) (hb := hb) k.lt hv
    have e1 : (a :: u).headD 0 = a := rfl
    have e2 : (b :: v).headD 0 = b := rfl
    rw [e1, if_pos rfl] at h1
    rw [e2, if_neg (Ne.symm hab), if_pos rfl] at h2
    exact ⟨h1, h2⟩
/-! rounds as they are gone -/
structure RoundsC (n : Nat) (o : List Nat) (cs : List (List Nat)) : Prop where
  perm : cs.flatten.Perm (List.range n)
  cy : ∀ c ∈ cs, Cy n o c
theorem RoundsC.rd {n : Nat} {o : List Nat} {cs : List (List Nat)} (h : RoundsC n o cs) : Rounds n o cs := ⟨h.perm, fun c hc => (h.cy c hc).is⟩
theorem cyc_rc {n : Nat} {o : List Nat} (ho : isOrd n o) : RoundsC n o (cyc o) := ⟨(rounds_cyc ho).perm, cyc_cy ho⟩
theorem RoundsC.len {n : Nat} {o : List Nat} {cs : List (List Nat)} (ho : isOrd n o) (h : RoundsC n o cs) : cs.length = (cyc o).length := by
  have := (h.rd.lens (rounds_cyc ho)).length_eq
  simpa using this
theorem RoundsC.of_perm {n : Nat} {o : List Nat} {cs ds : List (List Nat)} (h : RoundsC n o cs) (p : cs.Perm ds) : RoundsC n o ds := ⟨(p.flatten).symm.trans h.perm, fun c hc => h.cy c (p.mem_iff.mpr hc)⟩
theorem RoundsC.nd {n : Nat} {o : List Nat} {cs : List (List Nat)} (h : RoundsC n o cs) : cs.flatten.Nodup := h.perm.nodup_iff.mpr List.nodup_range
/-- with a round ahead -/
theorem RoundsC.pull {n : Nat} {o : List Nat} {cs : List (List Nat)} {c : List Nat} (h : RoundsC n o cs) (hc : c ∈ cs) : ∃ rest, cs.Perm (c :: rest) ∧ RoundsC n o (c :: rest) := ⟨cs.erase c, List.perm_cons_erase hc, h.of_perm (List.perm_cons_erase hc)⟩
/-- the head may be turned -/
theorem RoundsC.turn {n : Nat} {o : List Nat} {rest : List (List Nat)} {p q : List Nat} (h : RoundsC n o ((p ++ q) :: rest)) : RoundsC n o ((q ++ p) :: rest) := by
  refine ⟨?_, fun c hc => ?_⟩
  · have := h.perm
    rw [List.flatten_cons] at this ⊢
    exact (List.perm_append_comm.append_right _).trans this
  · rcases List.mem_cons.mp hc with rfl | hc
    · exact (h.cy _ List.mem_cons_self).rot
    · exact h.cy c (List.mem_cons_of_mem _ hc)
theorem RoundsC.off {n : Nat} {o : List Nat} {rest : List (List Nat)} {c d : List Nat} (h : RoundsC n o (c :: rest)) (hd : d ∈ rest) {x : Nat} (hx : x ∈ c) : x ∉ d := fun z => by
  have := h.nd
  rw [List.flatten_cons, List.nodup_append] at this
  exact this.2.2 x hx x (List.mem_flatten.mpr ⟨d, hd, z⟩) rfl
theorem RoundsC.part {n : Nat} {o : Or n} {a b : Nat} {ha : a < n} {hb : b < n} {u v : List Nat} {rest : List (List Nat)} (h : RoundsC n o.1 ((a :: u ++ b :: v) :: rest)) : RoundsC n (o * Sw a b ha hb).1 ((a :: u) :: (b :: v) :: rest) := by
  obtain ⟨h1, h2⟩ := (h.cy _ List.mem_cons_self).parted (ha := ha) (hb := hb)
  refine ⟨?_, fun c hc => ?_⟩
  · have := h.perm
    simp only [List.flatten_cons, List.append_assoc] at this ⊢
    exact this
  · rcases List.mem_cons.mp hc with rfl | hc
    · exact h1
    · rcases List.mem_cons.mp hc with rfl | hc
      · exact h2
      · exact (h.cy c (List.mem_cons_of_mem _ hc)).swp_off (h.off hc (by simp)) (h.off hc (by simp))
theorem RoundsC.join {n : Nat} {o : Or n} {a b : Nat} {ha : a < n} {hb : b < n} {u v : List Nat} {rest : List (List Nat)} (h : RoundsC n o.1 ((a :: u) :: (b :: v) :: rest)) : RoundsC n (o * Sw a b ha hb).1 ((a :: u ++ b :: v) :: rest) := by
  refine ⟨?_, fun c hc => ?_⟩
  · have := h.perm
    simp only [List.flatten_cons, List.append_assoc] at this ⊢
    exact this
  · rcases List.mem_cons.mp hc with rfl | hc
    · exact (h.cy _ List.mem_cons_self).joined (h.cy _ (by simp)) fun x hx => h.off (by simp) hx
    · refine (h.cy c (by simp [hc])).swp_off (h.off (by simp [hc]) (by simp)) ?_
      have h' : RoundsC n o.1 ((b :: v) :: (a :: u) :: rest) := h.of_perm (List.Perm.swap _ _ _)
      exact h'.off (by simp [hc]) (by simp)
/-- how many rounds -/
def nrd {n : Nat} (o : Or n) : Nat := (cyc o.1).length
def SameR {n : Nat} (o : Or n) (a b : Nat) : Prop := ∃ c ∈ cyc o.1, a ∈ c ∧ b ∈ c
theorem mem_split' {a : Nat} {c : List Nat} (h : a ∈ c) : ∃ p q, c = p ++ a :: q := List.append_of_mem h
theorem nrd_part {n : Nat} {o : Or n} {a b : Nat} (ha : a < n) (hb : b < n) (hab : a ≠ b) (h : SameR o a b) : nrd (o * Sw a b ha hb) = nrd o + 1 := by
  obtain ⟨c, hc, h1, h2⟩ := h
  obtain ⟨rest, p, r⟩ := (cyc_rc o.2).pull hc
  obtain ⟨p1, q1, rfl⟩ := mem_split' h1
  have r2 := r.turn
  have hb2 : b ∈ q1 ++ p1 := by
    rcases List.mem_append.mp h2 with z | z
    · exact List.mem_append_right _ z
    · rcases List.mem_cons.mp z with z | z
      · exact absurd z.symm hab
      · exact List.mem_append_left _ z
  obtain ⟨u, v, e⟩ := mem_split' hb2
  rw [List.cons_append, e, ← List.cons_append] at r2
  have r3 := r2.part (ha := ha) (hb := hb)
  have l1 := r3.len (o * Sw a b ha hb).2
  have l2 := p.length_eq
  simp only [List.length_cons] at l1 l2
  unfold nrd
  omega
theorem nrd_join {n : Nat} {o : Or n} {a b : Nat} (ha : a < n) (hb : b < n) (h : ¬SameR o a b) : nrd o = nrd (o * Sw a b ha hb) + 1 := by
  have hm : ∀ x, x < n → ∃ c ∈ cyc o.1, x ∈ c := fun x hx => by
    have := (cyc_rc o.2).perm.mem_iff.mpr (List.mem_range.mpr hx)
    obtain ⟨c, hc, h⟩ := List.mem_flatten.mp this
    exact ⟨c, hc, h⟩
  obtain ⟨c, hc, h1⟩ := hm a ha
  obtain ⟨d, hd, h2⟩ := hm b hb
  obtain ⟨rest, p, r⟩ := (cyc_rc o.2).pull hc
  have hdr : d ∈ rest := by
    rcases List.mem_cons.mp (p.mem_iff.mp hd) with z | z
    · exact absurd ⟨c, hc, h1, z ▸ h2⟩ h
    · exact z
  have p2 : (c :: rest).Perm (c :: d :: rest.erase d) := (List.perm_cons_erase hdr).cons c
  have r2 := r.of_perm p2
  obtain ⟨p1, q1, rfl⟩ := mem_split' h1
  have r3 := r2.turn
  have r4 := r3.of_perm (List.Perm.swap _ _ _)
  obtain ⟨p3, q3, rfl⟩ := mem_split' h2
  have r5 := r4.turn.of_perm (List.Perm.swap _ _ _)
  rw [List.cons_append, List.cons_append] at r5
  have r6 := r5.join (ha := ha) (hb := hb)
  have l1 := r6.len (o * Sw a b ha hb).2
  have l2 := p.length_eq
  have l3 := p2.length_eq
  simp only [List.length_cons] at l1 l2 l3
  unfold nrd
  omega
theorem SameR.of {n : Nat} {o : Or n} {cs : List (List Nat)} (h : RoundsC n o.1 cs) {c : List Nat} (hc : c ∈ cs) {a b : Nat} (h1 : a ∈ c) (h2 : b ∈ c) : SameR o a b := by
  have hC := (h.cy c hc).is
  have := (cyc_rc o.2).perm.mem_iff.mpr (List.mem_range.mpr (hC.lt a h1))
  obtain ⟨d, hd, h3⟩ := List.mem_flatten.mp this
  exact ⟨d, hd, h3, (hC.perm ((rounds_cyc o.2).cyc d hd) h1 h3).mem_iff.mp h2⟩
theorem SameR.lead {n : Nat} {o : Or n} {a b : Nat} (h : SameR o a b) : SameR o (o.1.getD a 0) (o.1.getD b 0) := by
  obtain ⟨c, hc, h1, h2⟩ := h
  have := (rounds_cyc o.2).cyc c hc
  exact ⟨c, hc, this.cl a h1, this.cl b h2⟩
/-- a swap ahead of an order, of two things of one round -/
theorem nrd_ahead {n : Nat} {o : Or n} {a b : Nat} (ha : a < n) (hb : b < n) (hab : a ≠ b) (h : SameR o a b) : nrd (Sw a b ha hb * o) = nrd o + 1 := by
  rw [Sw_left]
  exact nrd_part _ _ (fun e => hab (o.2.inj ha hb e)) h.lead
end MP

/-! Rows of as few swaps as can be; orders whose rounds rise and do not cross: plain mathematics. -/
namespace MP
/-! ### rows of swaps -/
section
variable {n : Nat}
def isSw (t : Or n) : Prop := ∃ a b, ∃ (ha : a < n) (hb : b < n), a ≠ b ∧ t = Sw a b ha hb
theorem nrd_one : nrd (Or.one : Or n) = n := by
  have h : RoundsC n (Or.one : Or n).1 ((List.range n).map fun x => [x]) := by
    refine ⟨List.Perm.of_eq ?_, fun c hc => ?_⟩
    · induction List.range n with
      | nil => rfl
      | cons x xs ih => rw [List.map_cons, List.flatten_cons, ih]; rfl
    · obtain ⟨x, hx, rfl⟩ := List.mem_map.mp hc
      have hx := List.mem_range.mp hx
      exact ⟨by simp, by simp, fun y hy => by rw [List.mem_singleton.mp hy]; exact hx, range_get hx, trivial⟩
  have := h.len (Or.one : Or n).2
  unfold nrd
  rw [← this]
  simp
theorem nrd_step {o t : Or n} (h : isSw t) : nrd o ≤ nrd (o * t) + 1 ∧ nrd (o * t) ≤ nrd o + 1 := by
  obtain ⟨a, b, ha, hb, hab, rfl⟩ := h
  by_cases hs : SameR o a b
  · have := nrd_part ha hb hab hs
    omega
  · have := nrd_join ha hb hs
    omega
theorem nrd_le (o : Or n) : nrd o ≤ n := by
  have h := cyc_rc o.2
  have h2 := h.perm.length_eq
  rw [List.length_range] at h2
  have key : ∀ cs : List (List Nat), (∀ c ∈ cs, c ≠ []) → cs.length ≤ cs.flatten.length := fun cs => by
    induction cs with
    | nil => intro _; simp
    | cons c cs ih =>
      intro hc
      have := ih fun d hd => hc d (List.mem_cons_of_mem _ hd)
      have := List.length_pos_iff.mpr (hc c List.mem_cons_self)
      simp only [List.length_cons, List.flatten_cons, List.length_append]
      omega
  have := key (cyc o.1) fun c hc => (h.cy c hc).ne
  unfold nrd
  omega
/-- all rounds are single things -/
theorem nrd_all {o : Or n} (h : nrd o = n) : o = Or.one := by
  refine Or.ext fun i hi => ?_
  show _ = (List.range n).getD i 0
  rw [range_get hi]
  refine Classical.byContradiction fun hne => ?_
  have hC := cyc_rc o.2
  obtain ⟨c, hc, hic⟩ := List.mem_flatten.mp (hC.perm.mem_iff.mpr (List.mem_range.mpr hi))
  have hs : SameR o i (o.1.getD i 0) := ⟨c, hc, hic, (hC.cy c hc).is.cl i hic⟩
  have := nrd_part hi (o.2.lt hi) (Ne.symm hne) hs
  have := nrd_le (o * Sw i (o.1.getD i 0) hi (o.2.lt hi))
  omega
def pre (os : List (Or n)) (k : Nat) : Or n := Or.prod (os.take k)
theorem prod_snoc : ∀ (os : List (Or n)) (t : Or n), Or.prod (os ++ [t]) = Or.prod os * t
  | [], t => by
    show t * Or.one = Or.one * t
    rw [Or.mul_one, Or.one_mul]
  | a :: r, t => by
    show a * Or.prod (r ++ [t]) = a * Or.prod r * t
    rw [prod_snoc r t, Or.assoc]
theorem pre_zero (os : List (Or n)) : pre os 0 = Or.one := rfl
theorem pre_succ {os : List (Or n)} {k : Nat} (h : k < os.length) : pre os (k + 1) = pre os k * os[k] := by
  unfold pre
  rw [List.take_add_one, List.getElem?_eq_getElem h]
  exact prod_snoc _ _
theorem pre_all (os : List (Or n)) : pre os os.length = Or.prod os := by
  unfold pre
  rw [List.take_length]
/-- as few as can be -/
structure Few (os : List (Or n)) : Prop where
  sw : ∀ t ∈ os, isSw t
  ln : nrd (Or.prod os) + os.length = n
theorem pre_lo {os : List (Or n)} (h : ∀ t ∈ os, isSw t) : ∀ k, k ≤ os.length → n ≤ nrd (pre os k) + k
  | 0, _ => by rw [pre_zero, nrd_one]; omega
  | k + 1, hk => by
    have := pre_lo h k (by omega)
    have := (nrd_step (o := pre os k) (h _ (List.getElem_mem (show k < os.length by omega)))).1
    rw [← pre_succ] at this
    omega
theorem pre_hi {os : List (Or n)} (h : ∀ t ∈ os, isSw t) : ∀ j k, k + j = os.length → nrd (pre os k) ≤ nrd (Or.prod os) + j
  | 0, k, hk => by
    have : k = os.length := by omega
    rw [this, pre_all]
    omega
  | j + 1, k, hk => by
    have := pre_hi h j (k + 1) (by omega)
    have := (nrd_step (o := pre os k) (h _ (List.getElem_mem (show k < os.length by omega)))).1
    rw [← pre_succ] at this
    omega
theorem Few.at {os : List (Or n)} (h : Few os) {k : Nat} (hk : k ≤ os.length) : nrd (pre os k) + k = n := by
  have := pre_lo h.sw k hk
  have := pre_hi h.sw (os.length - k) k (by omega)
  have := h.ln
  omega
theorem sq_l {o : Or n} {a b : Nat} {ha : a < n} {hb : b < n} : o * Sw a b ha hb * Sw a b ha hb = o := by rw [Or.assoc, Sw_sq, Or.mul_one]
/-- behind the k-th swap, its things are in one round -/
theorem Few.same {os : List (Or n)} (h : Few os) {k : Nat} (hk : k < os.length) {a b : Nat} {ha : a < n} {hb : b < n} (hab : a ≠ b) (e : os[k] = Sw a b ha hb) : SameR (pre os (k + 1)) a b := by
  refine Classical.byContradiction fun hn => ?_
  have h1 := nrd_join ha hb hn
  rw [pre_succ hk, e, sq_l, ← e, ← pre_succ hk] at h1
  have := h.at (show k ≤ os.length by omega)
  have := h.at (show k + 1 ≤ os.length by omega)
  omega
end
/-! ### changes on a ring -/
def df (a b : Bool) : Nat := if a = b then 0 else 1
theorem df_tri (a b c : Bool) : df a c ≤ df a b + df b c := by cases a <;> cases b <;> cases c <;> decide
theorem df_self (a : Bool) : df a a = 0 := by cases a <;> rfl
theorem df_le (a b : Bool) : df a b ≤ 1 := by cases a <;> cases b <;> decide
/-- from p through l to e -/
def tot : Bool → List Bool → Bool → Nat
  | p, [], e => df p e
  | p, x :: l, e => df p x + tot x l e
def chg : List Bool → Nat
  | [] => 0
  | x :: l => tot x l x
theorem tot_app : ∀ (l m : List Bool) (p y e : Bool), tot p (l ++ y :: m) e = tot p l y + tot y m e
  | [], m, p, y, e => rfl
  | x :: l, m, p, y, e => by
    show df p x + tot x (l ++ y :: m) e = df p x + tot x l y + tot y m e
    rw [tot_app l m x y e]
    omega
theorem tot_skip (x : Bool) : ∀ (l : List Bool) (p e : Bool), tot p l e ≤ df p x + tot x l e
  | [], p, e => df_tri p x e
  | y :: l, p, e => by
    have := df_tri p x y
    show df p y + tot y l e ≤ df p x + (df x y + tot y l e)
    omega
theorem tot_sub {l m : List Bool} (h : l.Sublist m) : ∀ p e : Bool, tot p l e ≤ tot p m e := by
  induction h with
  | slnil => intro p e; exact Nat.le_refl _
  | cons x h ih =>
    intro p e
    exact Nat.le_trans (tot_skip x _ p e) (Nat.add_le_add_left (ih x e) _)
  | cons_cons x h ih =>
    intro p e
    exact Nat.add_le_add_left (ih x e) _
theorem chg_rot (l m : List Bool) : chg (l ++ m) = chg (m ++ l) := by
  cases l with
  | nil => simp
  | cons x l =>
    cases m with
    | nil => simp
    | cons y m =>
      show tot x (l ++ y :: m) x = tot y (m ++ x :: l) y
      rw [tot_app, tot_app]
      omega
theorem sub_split {y : Bool} {l : List Bool} : ∀ {m : List Bool}, (y :: l).Sublist m → ∃ m1 m2, m = m1 ++ y :: m2 ∧ l.Sublist m2
  | [], h => by cases h
  | x :: m, h => by
    cases h with
    | cons _ h =>
      obtain ⟨m1, m2, rfl, h2⟩ := sub_split h
      exact ⟨x :: m1, m2, rfl, h2⟩
    | cons_cons _ h => exact ⟨[], m, rfl, h⟩
theorem chg_sub : ∀ {l m : List Bool}, l.Sublist m → chg l ≤ chg m
  | [], m, _ => Nat.zero_le _
  | y :: l, m, h => by
    obtain ⟨m1, m2, rfl, h2⟩ := sub_split h
    rw [chg_rot]
    show tot y l y ≤ tot y (m2 ++ m1) y
    exact tot_sub (h2.trans (List.sublist_append_left _ _)) y y
theorem tot_blk (b : Bool) (m : List Bool) (e : Bool) : ∀ (l : List Bool), (∀ x ∈ l, x = b) → ∀ p, tot p (l ++ m) e ≤ df p b + tot b m e
  | [], _, p => tot_skip b m p e
  | x :: l, h, p => by
    have hx := h x List.mem_cons_self
    subst hx
    have := tot_blk x m e l (fun y hy => h y (List.mem_cons_of_mem _ hy)) x
    rw [df_self, Nat.zero_add] at this
    exact Nat.add_le_add_left this _
theorem chg_blk {b : Bool} {l1 l2 l3 : List Bool} (h1 : ∀ x ∈ l1, x = b) (h2 : ∀ x ∈ l2, x = !b) (h3 : ∀ x ∈ l3, x = b) : chg (l1 ++ (l2 ++ l3)) ≤ 2 := by
  have e3 : ∀ p e, tot p l3 e ≤ df p b + df b e := fun p e => by
    have := tot_blk b [] e l3 h3 p
    rwa [List.append_nil] at this
  cases l1 with
  | cons x l1 =>
    have hx := h1 x List.mem_cons_self
    subst hx
    show tot x (l1 ++ (l2 ++ l3)) x ≤ 2
    have a1 := tot_blk x (l2 ++ l3) x l1 (fun y hy => h1 y (List.mem_cons_of_mem _ hy)) x
    have a2 := tot_blk (!x) l3 x l2 h2 x
    have a3 := e3 (!x) x
    have := df_self x
    have := df_le x (!x)
    have := df_le (!x) x
    omega
  | nil =>
    cases l2 with
    | cons x l2 =>
      have hx := h2 x List.mem_cons_self
      show tot x (l2 ++ l3) x ≤ 2
      have a2 := tot_blk x l3 x l2 (fun y hy => by rw [h2 y (List.mem_cons_of_mem _ hy), hx]) x
      have a3 := e3 x x
      have := df_self x
      have := df_le x b
      have := df_le b x
      omega
    | nil =>
      cases l3 with
      | nil => exact Nat.zero_le _
      | cons x l3 =>
        have hx := h3 x List.mem_cons_self
        subst hx
        show tot x l3 x ≤ 2
        have := tot_blk x [] x l3 (fun y hy => h3 y (List.mem_cons_of_mem _ hy)) x
        rw [List.append_nil] at this
        have e : tot x [] x = df x x := rfl
        have := df_self x
        omega
/-! ### sorted rows -/
theorem ins_asc (x : Nat) : ∀ l : List Nat, l.Pairwise (· ≤ ·) → (insB leN x l).Pairwise (· ≤ ·)
  | [], _ => by simp [insB]
  | y :: ys, h => by
    rw [List.pairwise_cons] at h
    unfold insB
    split
    · rename_i hxy
      simp [leN] at hxy
      rw [List.pairwise_cons, List.pairwise_cons]
      refine ⟨fun z hz => ?_, h.1, h.2⟩
      rcases List.mem_cons.mp hz with rfl | hz
      · exact hxy
      · have := h.1 z hz
        omega
    · rename_i hxy
      simp [leN] at hxy
      rw [List.pairwise_cons]
      refine ⟨fun z hz => ?_, ins_asc x ys h.2⟩
      rcases List.mem_cons.mp ((insB_perm' x ys).mem_iff.mp hz) with rfl | hz
      · omega
      · exact h.1 z hz
theorem sort_asc : ∀ l : List Nat, (sortB leN l).Pairwise (· ≤ ·)
  | [] => List.Pairwise.nil
  | x :: xs => ins_asc x _ (sort_asc xs)
theorem asc_fix : ∀ {l : List Nat}, l.Pairwise (· ≤ ·) → sortB leN l = l
  | [], _ => rfl
  | x :: xs, h => by
    rw [List.pairwise_cons] at h
    show insB leN x (sortB leN xs) = _
    rw [asc_fix h.2]
    cases xs with
    | nil => rfl
    | cons y ys =>
      unfold insB
      rw [if_pos (by simpa [leN] using h.1 y List.mem_cons_self)]
theorem asc_of {l : List Nat} (h : l.Pairwise (· < ·)) : sortB leN l = l := asc_fix (h.imp fun h => Nat.le_of_lt h)
theorem asc_uniq {l m : List Nat} (h : l.Pairwise (· ≤ ·)) (k : m.Pairwise (· ≤ ·)) (p : l.Perm m) : l = m := by
  rw [← asc_fix h, ← asc_fix k]
  exact sortB_perm tot_leN p
/-! ### sets that cross -/
def sg (c d : List Nat) : List Bool := (sortB leN (c ++ d)).map fun x => decide (x ∈ c)
def crN (c d : List Nat) : Bool := decide (2 < chg (sg c d))
theorem cr_sub {c d c' d' : List Nat} (hn : (c ++ d).Nodup) (h1 : c'.Sublist c) (h2 : d'.Sublist d) (h : crN c d = false) : crN c' d' = false := by
  have hsub : (c' ++ d').Sublist (c ++ d) := h1.append h2
  have hdis : ∀ x, x ∈ c → x ∉ d := fun x hx hd => (List.nodup_append.mp hn).2.2 x hx x hd rfl
  have e : sortB leN (c' ++ d') = (sortB leN (c ++ d)).filter fun x => decide (x ∈ c' ++ d') := by
    refine asc_uniq (sort_asc _) ((sort_asc _).sublist List.filter_sublist) ?_
    refine (sortB_self _).trans ?_
    have p : ((sortB leN (c ++ d)).filter fun x => decide (x ∈ c' ++ d')).Perm ((c ++ d).filter fun x => decide (x ∈ c' ++ d')) := (sortB_self _).filter _
    refine List.Perm.trans ?_ p.symm
    rw [List.perm_ext_iff_of_nodup (hn.sublist hsub) (hn.filter _)]
    intro x
    rw [List.mem_filter, decide_eq_true_eq]
    exact ⟨fun hx => ⟨hsub.subset hx, hx⟩, fun hx => hx.2⟩
  have e2 : sg c' d' = ((sortB leN (c ++ d)).filter fun x => decide (x ∈ c' ++ d')).map fun x => decide (x ∈ c) := by
    unfold sg
    rw [e]
    refine List.map_congr_left fun x hx => ?_
    have hx := (List.mem_filter.mp hx).2
    rw [decide_eq_true_eq] at hx
    refine decide_eq_decide.mpr ⟨fun z => h1.subset z, fun z => ?_⟩
    rcases List.mem_append.mp hx with hx | hx
    · exact hx
    · exact absurd (h2.subset hx) (hdis x z)
  unfold crN at h ⊢
  rw [decide_eq_false_iff_not] at h ⊢
  have : chg (sg c' d') ≤ chg (sg c d) := by
    rw [e2]
    exact chg_sub (List.filter_sublist.map _)
  omega
theorem cr_mid {p q r : List Nat} (h : (p ++ (q ++ r)).Pairwise (· < ·)) : crN q (p ++ r) = false ∧ crN (p ++ r) q = false := by
  have hnd : (p ++ (q ++ r)).Nodup := h.imp fun h => Nat.ne_of_lt h
  have s1 : sortB leN (q ++ (p ++ r)) = p ++ (q ++ r) := by
    rw [← asc_of h]
    refine sortB_perm tot_leN ?_
    rw [← List.append_assoc, ← List.append_assoc]
    exact List.perm_append_comm.append_right _
  have s2 : sortB leN ((p ++ r) ++ q) = p ++ (q ++ r) := by
    rw [← asc_of h]
    refine sortB_perm tot_leN ?_
    rw [List.append_assoc]
    exact List.perm_append_comm.append_left _
  rw [List.nodup_append] at hnd
  obtain ⟨n1, n2, n3⟩ := hnd
  rw [List.nodup_append] at n2
  obtain ⟨n4, n5, n6⟩ := n2
  have hpq : ∀ x ∈ p, x ∉ q := fun x hx hq => n3 x hx x (List.mem_append_left _ hq) rfl
  have hqr : ∀ x ∈ q, x ∉ r := fun x hx hr => n6 x hx x hr rfl
  constructor
  · unfold crN
    rw [decide_eq_false_iff_not]
    have : chg (sg q (p ++ r)) ≤ 2 := by
      unfold sg
      rw [s1, List.map_append, List.map_append]
      refine chg_blk (b := false) (fun x hx => ?_) (fun x hx => ?_) (fun x hx => ?_)
      · obtain ⟨y, hy, rfl⟩ := List.mem_map.mp hx
        exact decide_eq_false (hpq y hy)
      · obtain ⟨y, hy, rfl⟩ := List.mem_map.mp hx
        exact decide_eq_true hy
      · obtain ⟨y, hy, rfl⟩ := List.mem_map.mp hx
        exact decide_eq_false fun z => hqr y z hy
    omega
  · unfold crN
    rw [decide_eq_false_iff_not]
    have : chg (sg (p ++ r) q) ≤ 2 := by
      unfold sg
      rw [s2, List.map_append, List.map_append]
      refine chg_blk (b := true) (fun x hx => ?_) (fun x hx => ?_) (fun x hx => ?_)
      · obtain ⟨y, hy, rfl⟩ := List.mem_map.mp hx
        exact decide_eq_true (List.mem_append_left _ hy)
      · obtain ⟨y, hy, rfl⟩ := List.mem_map.mp hx
        refine decide_eq_false fun z => ?_
        rcases List.mem_append.mp z with z | z
        · exact hpq y z hy
        · exact hqr y hy z
      · obtain ⟨y, hy, rfl⟩ := List.mem_map.mp hx
        exact decide_eq_true (List.mem_append_right _ hy)
    omega
/-! ### orders below the round -/
def NC (c d : List Nat) : Prop := crN c d = false ∧ crN d c = false
structure Bel (n : Nat) (o : List Nat) (cs : List (List Nat)) : Prop where
  rc : RoundsC n o cs
  asc : ∀ c ∈ cs, c.Pairwise (· < ·)
  nc : cs.Pairwise NC
theorem Bel.of_perm {n : Nat} {o : List Nat} {cs ds : List (List Nat)} (h : Bel n o cs) (p : cs.Perm ds) : Bel n o ds := ⟨h.rc.of_perm p, fun c hc => h.asc c (p.mem_iff.mpr hc), (p.pairwise_iff (fun {x y} h => ⟨h.2, h.1⟩)).mp h.nc⟩
/-- a lot finer -/
def Fin (cs ds : List (List Nat)) : Prop := ∀ c ∈ cs, ∃ d ∈ ds, ∀ x ∈ c, x ∈ d
theorem Bel.part_lt {n : Nat} {o : Or n} {cs : List (List Nat)} (h : Bel n o.1 cs) {a b : Nat} (ha : a < n) (hb : b < n) (hab : a < b) {c : List Nat} (hc : c ∈ cs) (h1 : a ∈ c) (h2 : b ∈ c) : ∃ ds, Bel n (o * Sw a b ha hb).1 ds ∧ Fin ds cs := by
  have hpe := List.perm_cons_erase hc
  have h0 := h.of_perm hpe
  have hsub : ∀ d ∈ c :: cs.erase c, d ∈ cs := fun d hd => hpe.mem_iff.mpr hd
  generalize cs.erase c = rest at h0 hsub
  have hasc := h0.asc c List.mem_cons_self
  obtain ⟨p, q1, rfl⟩ := mem_split' h1
  have hb2 : b ∈ q1 := by
    rcases List.mem_append.mp h2 with z | z
    · have := (List.pairwise_append.mp hasc).2.2 b z a List.mem_cons_self
      omega
    · rcases List.mem_cons.mp z with z | z
      · omega
      · exact z
  obtain ⟨u, v, rfl⟩ := mem_split' hb2
  -- a round: p, then q from a on, then r from b on
  have e : p ++ a :: (u ++ b :: v) = p ++ ((a :: u) ++ (b :: v)) := rfl
  rw [e] at hasc h0 hsub
  have hmid := cr_mid hasc
  have r1 := h0.rc.turn
  rw [List.append_assoc] at r1
  have r2 := RoundsC.part (ha := ha) (hb := hb) (u := u) (v := v ++ p) r1
  have r3 := (r2.of_perm (List.Perm.swap _ _ _))
  rw [← List.cons_append] at r3
  have r4 := r3.turn
  have hnd : ∀ d ∈ rest, ((p ++ ((a :: u) ++ (b :: v))) ++ d).Nodup := fun d hd => by
    have hn := h0.rc.nd
    rw [List.flatten_cons, List.nodup_append] at hn
    rw [List.nodup_append]
    refine ⟨hn.1, (h0.rc.cy d (List.mem_cons_of_mem _ hd)).nd, fun x hx y hy => hn.2.2 x hx y (List.mem_flatten.mpr ⟨d, hd, hy⟩)⟩
  have hnd' : ∀ d ∈ rest, (d ++ (p ++ ((a :: u) ++ (b :: v)))).Nodup := fun d hd => (List.perm_append_comm.nodup_iff).mp (hnd d hd)
  have s1 : (a :: u).Sublist (p ++ ((a :: u) ++ (b :: v))) := (List.sublist_append_left _ _).trans (List.sublist_append_right _ _)
  have s2 : (p ++ (b :: v)).Sublist (p ++ ((a :: u) ++ (b :: v))) := (List.Sublist.refl p).append (List.sublist_append_right _ _)
  have hpw := List.pairwise_cons.mp h0.nc
  refine ⟨(p ++ b :: v) :: (a :: u) :: rest, ⟨r4, fun d hd => ?_, ?_⟩, fun d hd => ?_⟩
  · rcases List.mem_cons.mp hd with rfl | hd
    · exact hasc.sublist s2
    · rcases List.mem_cons.mp hd with rfl | hd
      · exact hasc.sublist s1
      · exact h0.asc d (List.mem_cons_of_mem _ hd)
  · rw [List.pairwise_cons, List.pairwise_cons]
    refine ⟨fun d hd => ?_, fun d hd => ?_, hpw.2⟩
    · rcases List.mem_cons.mp hd with rfl | hd
      · exact ⟨hmid.2, hmid.1⟩
      · exact ⟨cr_sub (hnd d hd) s2 (List.Sublist.refl _) (hpw.1 d hd).1, cr_sub (hnd' d hd) (List.Sublist.refl _) s2 (hpw.1 d hd).2⟩
    · exact ⟨cr_sub (hnd d hd) s1 (List.Sublist.refl _) (hpw.1 d hd).1, cr_sub (hnd' d hd) (List.Sublist.refl _) s1 (hpw.1 d hd).2⟩
  · rcases List.mem_cons.mp hd with rfl | hd
    · exact ⟨_, hsub _ List.mem_cons_self, fun x hx => s2.subset hx⟩
    · rcases List.mem_cons.mp hd with rfl | hd
      · exact ⟨_, hsub _ List.mem_cons_self, fun x hx => s1.subset hx⟩
      · exact ⟨d, hsub d (List.mem_cons_of_mem _ hd), fun x hx => hx⟩
theorem Bel.part {n : Nat} {o : Or n} {cs : List (List Nat)} (h : Bel n o.1 cs) {a b : Nat} (ha : a < n) (hb : b < n) (hab : a ≠ b) (hs : SameR o a b) : ∃ ds, Bel n (o * Sw a b ha hb).1 ds ∧ Fin ds cs := by
  obtain ⟨c, hc, h1, h2⟩ : ∃ c ∈ cs, a ∈ c ∧ b ∈ c := by
    obtain ⟨d, hd, h1, h2⟩ := hs
    obtain ⟨c, hc, h3⟩ := List.mem_flatten.mp (h.rc.perm.mem_iff.mpr (List.mem_range.mpr ha))
    exact ⟨c, hc, h3, (((rounds_cyc o.2).cyc d hd).perm (h.rc.cy c hc).is h1 h3).mem_iff.mp h2⟩
  rcases Nat.lt_or_gt_of_ne hab with z | z
  · exact h.part_lt ha hb z hc h1 h2
  · rw [Sw_comm]
    exact h.part_lt hb ha z hc h2 h1
/-- the round of all -/
def stepL (n : Nat) : List Nat := (List.range n).map fun i => (i + 1) % n
theorem step_get {n i : Nat} (h : i < n) : (stepL n).getD i 0 = (i + 1) % n := by simp [stepL, List.getD, h]
theorem isOrd_step {n : Nat} : isOrd n (stepL n) := by
  by_cases h0 : n = 0
  · subst h0
    exact isOrd_still 0
  refine isOrd_of (by simp [stepL]) (fun i hi => by rw [step_get hi]; exact Nat.mod_lt _ (by omega)) (fun j hj => ?_) fun i j hi hj e => ?_
  · by_cases hj0 : j = 0
    · exact ⟨n - 1, by omega, by rw [step_get (by omega), show n - 1 + 1 = n by omega, Nat.mod_self, hj0]⟩
    · exact ⟨j - 1, by omega, by rw [step_get (by omega), show j - 1 + 1 = j by omega, Nat.mod_eq_of_lt hj]⟩
  · rw [step_get hi, step_get hj] at e
    by_cases h1 : i + 1 = n
    · by_cases h2 : j + 1 = n
      · omega
      · rw [h1, Nat.mod_self, Nat.mod_eq_of_lt (by omega)] at e
        omega
    · by_cases h2 : j + 1 = n
      · rw [h2, Nat.mod_self, Nat.mod_eq_of_lt (by omega)] at e
        omega
      · rw [Nat.mod_eq_of_lt (by omega), Nat.mod_eq_of_lt (by omega)] at e
        omega
def step (n : Nat) : Or n := ⟨stepL n, isOrd_step⟩
theorem bel_step {n : Nat} (h1 : 1 ≤ n) : Bel n (step n).1 [List.range n] := by
  have hhd : ∀ y, (List.range n).headD y = 0 := fun y => by
    cases n with
    | zero => omega
    | succ k => rw [List.range_succ_eq_map]; rfl
  refine ⟨⟨by simp, fun c hc => ?_⟩, fun c hc => ?_, List.pairwise_singleton _ _⟩
  · rw [List.mem_singleton.mp hc]
    refine ⟨List.nodup_range, by simp; omega, fun x hx => List.mem_range.mp hx, ?_⟩
    rw [hhd]
    refine line_ch (fun j hj => ?_) (fun _ => ?_)
    · rw [List.length_range] at hj
      show (stepL n).getD _ 0 = _
      rw [range_get (by omega), step_get (by omega), range_get hj, Nat.mod_eq_of_lt hj]
    · rw [List.length_range]
      show (stepL n).getD _ 0 = _
      rw [range_get (by omega), step_get (by omega), show n - 1 + 1 = n by omega, Nat.mod_self]
  · rw [List.mem_singleton.mp hc]
    exact List.pairwise_lt_range
/-- what is made on the way to the round -/
theorem Few.bel {n : Nat} {os : List (Or n)} (h1 : 1 ≤ n) (h : Few os) (hp : Or.prod os = step n) : ∀ j k, k + j = os.length → ∃ cs, Bel n (pre os k).1 cs
  | 0, k, hk => by
    have : k = os.length := by omega
    rw [this, pre_all, hp]
    exact ⟨_, bel_step h1⟩
  | j + 1, k, hk => by
    obtain ⟨cs, hc⟩ := Few.bel h1 h hp j (k + 1) (by omega)
    obtain ⟨a, b, ha, hb, hab, e⟩ := h.sw _ (List.getElem_mem (show k < os.length by omega))
    obtain ⟨ds, hd, _⟩ := hc.part ha hb hab (h.same (by omega) hab e)
    refine ⟨ds, ?_⟩
    have e2 : pre os (k + 1) * Sw a b ha hb = pre os k := by rw [pre_succ (by omega), e, sq_l]
    rwa [e2] at hd
/-! ### what is told of an order's rounds -/
def ptg (o : List Nat) : List (List Nat) := sortB lexLe ((cyc o).map (sortB leN))
theorem nodup_rounds {n : Nat} {o : List Nat} {cs : List (List Nat)} (h : RoundsC n o cs) : cs.Nodup := by
  have hn := h.nd
  have hne : ∀ c ∈ cs, c ≠ [] := fun c hc => (h.cy c hc).ne
  clear h
  induction cs with
  | nil => exact List.nodup_nil
  | cons c cs ih =>
    rw [List.flatten_cons, List.nodup_append] at hn
    rw [List.nodup_cons]
    refine ⟨fun z => ?_, ih hn.2.1 fun d hd => hne d (List.mem_cons_of_mem _ hd)⟩
    have := headD_mem (y := 0) (hne c List.mem_cons_self)
    exact hn.2.2 _ this _ (List.mem_flatten.mpr ⟨c, z, this⟩) rfl
theorem Bel.part_perm {n : Nat} {o : Or n} {cs : List (List Nat)} (h : Bel n o.1 cs) : (ptg o.1).Perm cs := by
  refine (sortB_self _).trans ?_
  have hC := cyc_rc o.2
  have hto : ∀ c ∈ cyc o.1, ∃ d ∈ cs, sortB leN c = d ∧ c.Perm d := fun c hc => by
    have hx := headD_mem (y := 0) (hC.cy c hc).ne
    have hlt := (hC.cy c hc).lt _ hx
    obtain ⟨d, hd, h3⟩ := List.mem_flatten.mp (h.rc.perm.mem_iff.mpr (List.mem_range.mpr hlt))
    have p := (hC.cy c hc).is.perm (h.rc.cy d hd).is hx h3
    exact ⟨d, hd, by rw [sortB_perm tot_leN p, asc_of (h.asc d hd)], p⟩
  rw [List.perm_ext_iff_of_nodup ?_ (nodup_rounds h.rc)]
  · intro d
    constructor
    · intro hd
      obtain ⟨c, hc, rfl⟩ := List.mem_map.mp hd
      obtain ⟨d, hd, e, _⟩ := hto c hc
      rw [e]
      exact hd
    · intro hd
      have hx := headD_mem (y := 0) (h.rc.cy d hd).ne
      have hlt := (h.rc.cy d hd).lt _ hx
      obtain ⟨c, hc, h3⟩ := List.mem_flatten.mp (hC.perm.mem_iff.mpr (List.mem_range.mpr hlt))
      have p := (hC.cy c hc).is.perm (h.rc.cy d hd).is h3 hx
      exact List.mem_map.mpr ⟨c, hc, by rw [sortB_perm tot_leN p, asc_of (h.asc d hd)]⟩
  · have hn := nodup_rounds hC
    rw [List.Nodup, List.pairwise_map]
    refine List.Pairwise.imp_of_mem (fun {c d} hc hd hcd e => ?_) hn
    have hx := headD_mem (y := 0) (hC.cy c hc).ne
    have p1 : c.Perm d := (sortB_self c).symm.trans ((List.Perm.of_eq e).trans (sortB_self d))
    have hx2 := p1.mem_iff.mp hx
    -- a thing in two rounds
    obtain ⟨rest, p, r⟩ := hC.pull hc
    rcases List.mem_cons.mp (p.mem_iff.mp hd) with z | z
    · exact hcd z.symm
    · exact r.off z hx hx2
theorem Bel.told {n : Nat} {o : Or n} {cs : List (List Nat)} (h : Bel n o.1 cs) : Bel n o.1 (ptg o.1) := h.of_perm h.part_perm.symm
theorem part_sorted (o : List Nat) : sortB lexLe (ptg o) = ptg o := sortB_idem tot_lex _
theorem part_len {n : Nat} (o : Or n) : (ptg o.1).length = nrd o := by
  unfold ptg nrd
  rw [(sortB_self _).length_eq, List.length_map]
/-- the chain of what is told -/
theorem Few.fin {n : Nat} {os : List (Or n)} (h1 : 1 ≤ n) (h : Few os) (hp : Or.prod os = step n) {k : Nat} (hk : k < os.length) : Fin (ptg (pre os k).1) (ptg (pre os (k + 1)).1) := by
  obtain ⟨cs, hc⟩ := Few.bel h1 h hp (os.length - (k + 1)) (k + 1) (by omega)
  have ht := hc.told
  obtain ⟨a, b, ha, hb, hab, e⟩ := h.sw _ (List.getElem_mem hk)
  obtain ⟨ds, hd, hf⟩ := ht.part ha hb hab (h.same hk hab e)
  have e2 : pre os (k + 1) * Sw a b ha hb = pre os k := by rw [pre_succ hk, e, sq_l]
  rw [e2] at hd
  intro c hc
  exact hf c (hd.part_perm.mem_iff.mp hc)
end MP

/-! Partings as they are told: plain mathematics. -/
namespace MP
def lin : Bool → List Bool → Nat
  | _, [] => 0
  | p, x :: l => df p x + lin x l
theorem tot_lin : ∀ (l : List Bool) (p e : Bool), tot p l e = lin p l + df ((p :: l).getD l.length false) e
  | [], p, e => by simp [tot, lin]
  | x :: l, p, e => by
    show df p x + tot x l e = df p x + lin x l + _
    rw [tot_lin l x e, Nat.add_assoc]
    rfl
theorem lin_count : ∀ (l : List Bool) (p : Bool), ((List.range l.length).filter fun k => (p :: l).getD (k + 1) false != (p :: l).getD k false).length = lin p l
  | [], p => rfl
  | x :: l, p => by
    rw [List.length_cons, List.range_succ_eq_map, List.filter_cons, List.filter_map, ]
    have ih := lin_count l x
    have e : ((fun k => (p :: x :: l).getD (k + 1) false != (p :: x :: l).getD k false) ∘ Nat.succ) = fun k => (x :: l).getD (k + 1) false != (x :: l).getD k false := by
      funext k
      rfl
    rw [e]
    show (if (x != p) = true then _ else _ : List Nat).length = df p x + lin x l
    rw [← ih]
    unfold df
    cases p <;> cases x <;> simp <;> omega
/-- as the program counts -/
theorem chg_count (l : List Bool) : ((List.range l.length).filter fun k => l.getD k false != l.getD (if k = 0 then l.length - 1 else k - 1) false).length = chg l := by
  cases l with
  | nil => rfl
  | cons x l =>
    rw [List.length_cons, List.range_succ_eq_map, List.filter_cons, List.filter_map]
    have e : ((fun k => (x :: l).getD k false != (x :: l).getD (if k = 0 then l.length + 1 - 1 else k - 1) false) ∘ Nat.succ) = fun k => (x :: l).getD (k + 1) false != (x :: l).getD k false := by
      funext k
      simp
    rw [e]
    have ih := lin_count l x
    show (if (x != (x :: l).getD l.length false) = true then _ else _ : List Nat).length = tot x l x
    rw [tot_lin, ← ih]
    generalize (x :: l).getD l.length false = z
    unfold df
    cases x <;> cases z <;> simp <;> omega
/-- a round, place by place -/
theorem ChT.get {o : List Nat} {y : Nat} : ∀ {c : List Nat}, ChT o c y → ∀ j, j < c.length → o.getD (c.getD j 0) 0 = (c ++ [y]).getD (j + 1) 0
  | x :: r, h, 0, _ => by
    have := h.1
    cases r with
    | nil => simpa [List.getD] using this
    | cons z r => simpa [List.getD] using this
  | x :: r, h, j + 1, hj => by
    have := h.2.get j (by simpa using hj)
    simpa [List.getD] using this
theorem Cy.nxt {n : Nat} {o c : List Nat} (h : Cy n o c) {j : Nat} (hj : j < c.length) : c.getD ((j + 1) % c.length) 0 = o.getD (c.getD j 0) 0 := by
  rw [h.ch.get j hj]
  by_cases hl : j + 1 < c.length
  · rw [Nat.mod_eq_of_lt hl]
    simp only [List.getD, List.getElem?_append_left hl]
  · have e : j + 1 = c.length := by omega
    rw [e, Nat.mod_self]
    have hne := h.ne
    cases c with
    | nil => exact absurd rfl hne
    | cons x r => simp [List.getD]
/-- a parting as it is told -/
structure PartOk (n : Nat) (T : List (List Nat)) : Prop where
  ne : ∀ c ∈ T, c ≠ []
  pm : T.flatten.Perm (List.range n)
  so : sortB lexLe T = T
  asc : ∀ c ∈ T, c.Pairwise (· < ·)
  nc : T.Pairwise NC
theorem Bel.partOk {n : Nat} {o : Or n} {cs : List (List Nat)} (h : Bel n o.1 cs) : PartOk n (ptg o.1) := by
  have ht := h.told
  exact ⟨fun c hc => (ht.rc.cy c hc).ne, ht.rc.perm, part_sorted _, ht.asc, ht.nc⟩
theorem len_le_flat : ∀ {T : List (List Nat)}, (∀ c ∈ T, c ≠ []) → T.length ≤ T.flatten.length
  | [], _ => Nat.zero_le _
  | c :: T, h => by
    have := len_le_flat (T := T) fun d hd => h d (List.mem_cons_of_mem _ hd)
    have := List.length_pos_iff.mpr (h c List.mem_cons_self)
    simp only [List.length_cons, List.flatten_cons, List.length_append]
    omega
theorem PartOk.len {n : Nat} {T : List (List Nat)} (h : PartOk n T) : T.length ≤ n := by
  have := len_le_flat h.ne
  have := h.pm.length_eq
  rw [List.length_range] at this
  omega
theorem PartOk.el {n : Nat} {T : List (List Nat)} (h : PartOk n T) {c : List Nat} (hc : c ∈ T) : c.length ≤ n := by
  have h1 : c.Nodup := (h.asc c hc).imp fun h => Nat.ne_of_lt h
  exact nodup_le h1 fun x hx => List.mem_range.mp (h.pm.mem_iff.mp (List.mem_flatten.mpr ⟨c, hc, hx⟩))
theorem PartOk.get {n : Nat} {T : List (List Nat)} (h : PartOk n T) {i j : Nat} (hi : i < T.length) (hj : j < i) : crN (T.getD i []) (T.getD j []) = false := by
  have hj' : j < T.length := by omega
  have := (List.pairwise_iff_getElem.mp h.nc) j i hj' hi hj
  simp only [List.getD, List.getElem?_eq_getElem hi, List.getElem?_eq_getElem hj', Option.getD_some]
  exact this.2
end MP

/-! Pieces of rows: plain mathematics. -/
namespace MP
section
variable {n : Nat} {os : List (Or n)}
/-- what orders lead to -/
inductive Rch (os : List (Or n)) (s : Nat) : Nat → Prop where
  | refl : Rch os s s
  | step {x : Nat} {o : Or n} (h : Rch os s x) (ho : o ∈ os) : Rch os s (o.1.getD x 0)
theorem Rch.trans {s x y : Nat} (h : Rch os s x) (k : Rch os x y) : Rch os s y := by
  induction k with
  | refl => exact h
  | step _ ho ih => exact ih.step ho
theorem Rch.lt {s x : Nat} (h : Rch os s x) (hs : s < n) : x < n := by
  induction h with
  | refl => exact hs
  | @step x o _ _ ih => exact o.2.lt ih
theorem Rch.iter {o : Or n} (ho : o ∈ os) : ∀ (k x : Nat), Rch os x (MP.iter o.1 k x)
  | 0, x => .refl
  | k + 1, x => (Rch.step .refl ho).trans (Rch.iter ho k _)
theorem Rch.back {o : Or n} (ho : o ∈ os) {x : Nat} (hx : x < n) : Rch os (o.1.getD x 0) x := by
  have hC := rounds_cyc o.2
  obtain ⟨c, hc, h⟩ := List.mem_flatten.mp (hC.perm.mem_iff.mpr (List.mem_range.mpr hx))
  have hc := hC.cyc c hc
  obtain ⟨k, e⟩ := hc.tr _ (hc.cl x h) _ h
  have := Rch.iter ho k (o.1.getD x 0)
  rwa [e] at this
theorem Rch.symm {s x : Nat} (h : Rch os s x) (hs : s < n) : Rch os x s := by
  induction h with
  | refl => exact .refl
  | @step x o h ho ih => exact (Rch.back ho (h.lt hs)).trans ih
open Classical in
noncomputable def pce (os : List (Or n)) (s : Nat) : List Nat := (List.range n).filter fun x => decide (Rch os s x)
open Classical in
theorem mem_pce {s x : Nat} : x ∈ pce os s ↔ x < n ∧ Rch os s x := by
  unfold pce
  rw [List.mem_filter, List.mem_range]
  exact and_congr Iff.rfl decide_eq_true_iff
theorem pce_asc (s : Nat) : (pce os s).Pairwise (· < ·) := List.pairwise_lt_range.sublist List.filter_sublist
theorem pce_nd (s : Nat) : (pce os s).Nodup := (pce_asc s).imp fun h => Nat.ne_of_lt h
theorem self_pce {s : Nat} (hs : s < n) : s ∈ pce os s := mem_pce.mpr ⟨hs, .refl⟩
theorem pce_cl {s x : Nat} {o : Or n} (ho : o ∈ os) (h : x ∈ pce os s) : o.1.getD x 0 ∈ pce os s := by
  obtain ⟨h1, h2⟩ := mem_pce.mp h
  exact mem_pce.mpr ⟨o.2.lt h1, h2.step ho⟩
theorem pce_len (s : Nat) : (pce os s).length ≤ n := nodup_le (pce_nd s) fun x hx => (mem_pce.mp hx).1
open Classical in
theorem pce_eq {s t : Nat} (hs : s < n) (h : t ∈ pce os s) : pce os t = pce os s := by
  obtain ⟨h1, h2⟩ := mem_pce.mp h
  unfold pce
  refine List.filter_congr fun x _ => ?_
  rw [Bool.eq_iff_iff, decide_eq_true_iff, decide_eq_true_iff]
  exact ⟨fun k => h2.trans k, fun k => (h2.symm hs).trans k⟩
/-- what a walk has found -/
theorem pce_of {s : Nat} {F : List Nat} (hs : s < n) (hn : F.Nodup) (h1 : ∀ x ∈ F, x < n ∧ Rch os s x) (h2 : s ∈ F) (h3 : ∀ x ∈ F, ∀ o ∈ os, o.1.getD x 0 ∈ F) : sortB leN F = pce os s := by
  rw [← asc_of (pce_asc s)]
  refine sortB_perm tot_leN ?_
  rw [List.perm_ext_iff_of_nodup hn (pce_nd s)]
  intro x
  rw [mem_pce]
  refine ⟨h1 x, fun z => ?_⟩
  have hr := z.2
  clear z
  induction hr with
  | refl => exact h2
  | @step x o h ho ih => exact h3 x ih o ho
/-! all pieces -/
noncomputable def pcF (os : List (Or n)) : List Nat → List (List Nat) → List (List Nat)
  | [], found => found
  | s :: ss, found => if s ∈ found.flatten then pcF os ss found else pcF os ss (found ++ [pce os s])
noncomputable def pcs (os : List (Or n)) : List (List Nat) := pcF os (List.range n) []
/-- pieces, each once -/
structure Pcs (os : List (Or n)) (T : List (List Nat)) : Prop where
  el : ∀ c ∈ T, ∃ s, s < n ∧ c = pce os s
  nd : T.flatten.Nodup
theorem Pcs.add {T : List (List Nat)} (h : Pcs os T) {s : Nat} (hs : s < n) (hn : s ∉ T.flatten) : Pcs os (T ++ [pce os s]) := by
  refine ⟨fun c hc => ?_, ?_⟩
  · rcases List.mem_append.mp hc with hc | hc
    · exact h.el c hc
    · rw [List.mem_singleton.mp hc]
      exact ⟨s, hs, rfl⟩
  · rw [List.flatten_append, List.nodup_append]
    refine ⟨h.nd, by simpa using pce_nd s, fun x hx y hy e => ?_⟩
    subst e
    have hy : x ∈ pce os s := by simpa using hy
    obtain ⟨c, hc, hxc⟩ := List.mem_flatten.mp hx
    obtain ⟨t, ht, rfl⟩ := h.el c hc
    refine hn (List.mem_flatten.mpr ⟨_, hc, ?_⟩)
    rw [← pce_eq ht hxc, pce_eq hs hy]
    exact self_pce hs
theorem Pcs.ne {T : List (List Nat)} (h : Pcs os T) : ∀ c ∈ T, c ≠ [] := fun c hc e => by
  obtain ⟨s, hs, rfl⟩ := h.el c hc
  have := self_pce (os := os) hs
  rw [e] at this
  simp at this
theorem Pcs.nd2 {T : List (List Nat)} (h : Pcs os T) : T.Nodup := by
  have hn := h.nd
  have hne := h.ne
  clear h
  induction T with
  | nil => exact List.nodup_nil
  | cons c cs ih =>
    rw [List.flatten_cons, List.nodup_append] at hn
    rw [List.nodup_cons]
    refine ⟨fun z => ?_, ih hn.2.1 fun d hd => hne d (List.mem_cons_of_mem _ hd)⟩
    have := headD_mem (y := 0) (hne c List.mem_cons_self)
    exact hn.2.2 _ this _ (List.mem_flatten.mpr ⟨c, z, this⟩) rfl
theorem Pcs.uniq {T U : List (List Nat)} (h : Pcs os T) (k : Pcs os U) (ht : ∀ x, x < n → x ∈ T.flatten) (hu : ∀ x, x < n → x ∈ U.flatten) : T.Perm U := by
  rw [List.perm_ext_iff_of_nodup h.nd2 k.nd2]
  have key : ∀ {T U : List (List Nat)}, Pcs os T → Pcs os U → (∀ x, x < n → x ∈ U.flatten) → ∀ c ∈ T, c ∈ U := fun h k hu c hc => by
    obtain ⟨s, hs, rfl⟩ := h.el c hc
    obtain ⟨d, hd, hsd⟩ := List.mem_flatten.mp (hu s hs)
    obtain ⟨t, htn, rfl⟩ := k.el d hd
    rw [pce_eq htn hsd]
    exact hd
  exact fun c => ⟨key h k hu c, key k h ht c⟩
/-- the heads rise -/
def HdAsc : List (List Nat) → Prop := List.Pairwise fun c d => c.headD 0 < d.headD 0
theorem head_sorted : ∀ {T : List (List Nat)}, (∀ c ∈ T, c ≠ []) → HdAsc T → sortB lexLe T = T
  | [], _, _ => rfl
  | c :: T, hne, h => by
    have h := List.pairwise_cons.mp h
    show insB lexLe c (sortB lexLe T) = _
    rw [head_sorted (fun d hd => hne d (List.mem_cons_of_mem _ hd)) h.2]
    cases T with
    | nil => rfl
    | cons d T =>
      unfold insB
      have h1 := h.1 d List.mem_cons_self
      have : lexLe c d = true := by
        have hc := hne c List.mem_cons_self
        have hd := hne d (by simp)
        cases c with
        | nil => exact absurd rfl hc
        | cons x c =>
          cases d with
          | nil => exact absurd rfl hd
          | cons y d =>
            have h1 : x < y := h1
            unfold lexLe
            first
              | (simp [h1]; done)
              | (simp [h1, Nat.ne_of_lt h1]; done)
              | (simp; omega)
      rw [if_pos this]
theorem pcF_ok : ∀ (ss : List Nat) (found : List (List Nat)), Pcs os found → HdAsc found → (∀ c ∈ found, ∀ s ∈ ss, c.headD 0 < s) → ss.Pairwise (· < ·) → (∀ s ∈ ss, s < n) → (∀ x, x < n → x ∉ ss → x ∈ found.flatten) →
    Pcs os (pcF os ss found) ∧ HdAsc (pcF os ss found) ∧ ∀ x, x < n → x ∈ (pcF os ss found).flatten
  | [], found, h1, h2, _, _, _, h6 => ⟨h1, h2, fun x hx => h6 x hx (List.not_mem_nil)⟩
  | s :: ss, found, h1, h2, h3, h4, h5, h6 => by
    unfold pcF
    have h4' := List.pairwise_cons.mp h4
    have hs := h5 s List.mem_cons_self
    split
    · rename_i hm
      refine pcF_ok ss found h1 h2 (fun c hc t ht => h3 c hc t (List.mem_cons_of_mem _ ht)) h4'.2 (fun t ht => h5 t (List.mem_cons_of_mem _ ht)) fun x hx hn => ?_
      by_cases e : x = s
      · exact e ▸ hm
      · exact h6 x hx fun z => by
          rcases List.mem_cons.mp z with z | z
          · exact e z
          · exact hn z
    · rename_i hm
      have hadd := h1.add hs hm
      -- the head of the new piece
      have hhd : (pce os s).headD 0 = s := by
        have hne : pce os s ≠ [] := fun e => by
          have := self_pce (os := os) hs
          rw [e] at this
          simp at this
        have hmem := headD_mem (y := 0) hne
        have hle : (pce os s).headD 0 ≤ s := by
          have hself := self_pce (os := os) hs
          have hasc := pce_asc (os := os) s
          cases hp : pce os s with
          | nil => exact absurd hp hne
          | cons y r =>
            rw [hp] at hself hasc
            rcases List.mem_cons.mp hself with e | e
            · exact Nat.le_of_eq e.symm
            · exact Nat.le_of_lt ((List.pairwise_cons.mp hasc).1 s e)
        by_cases he : (pce os s).headD 0 = s
        · exact he
        · exfalso
          have hlt : (pce os s).headD 0 < s := by omega
          have hx := (mem_pce.mp hmem).1
          have hin := h6 _ hx (fun z => by
            rcases List.mem_cons.mp z with z | z
            · exact he z
            · have := h4'.1 _ z
              omega)
          obtain ⟨c, hc, hxc⟩ := List.mem_flatten.mp hin
          obtain ⟨t, ht, rfl⟩ := h1.el c hc
          refine hm (List.mem_flatten.mpr ⟨_, hc, ?_⟩)
          rw [← pce_eq ht hxc, pce_eq hs hmem]
          exact self_pce hs
      refine pcF_ok ss _ hadd ?_ (fun c hc t ht => ?_) h4'.2 (fun t ht => h5 t (List.mem_cons_of_mem _ ht)) fun x hx hn => ?_
      · refine List.pairwise_append.mpr ⟨h2, List.pairwise_singleton _ _, fun c hc d hd => ?_⟩
        rw [List.mem_singleton.mp hd, hhd]
        exact h3 c hc s List.mem_cons_self
      · rcases List.mem_append.mp hc with hc | hc
        · exact h3 c hc t (List.mem_cons_of_mem _ ht)
        · rw [List.mem_singleton.mp hc, hhd]
          exact h4'.1 t ht
      · rw [List.flatten_append, List.mem_append]
        by_cases e : x = s
        · subst e
          exact .inr (by simpa using self_pce hs)
        · exact .inl (h6 x hx fun z => by
            rcases List.mem_cons.mp z with z | z
            · exact e z
            · exact hn z)
theorem pcs_ok (os : List (Or n)) : Pcs os (pcs os) ∧ HdAsc (pcs os) ∧ ∀ x, x < n → x ∈ (pcs os).flatten := by
  refine pcF_ok (List.range n) [] ⟨by simp, by simp⟩ List.Pairwise.nil (by simp) List.pairwise_lt_range (fun s hs => List.mem_range.mp hs) fun x hx hn => absurd (List.mem_range.mpr hx) hn
theorem pcs_sorted (os : List (Or n)) : sortB lexLe (pcs os) = pcs os := head_sorted (pcs_ok os).1.ne (pcs_ok os).2.1
theorem pcs_of {T : List (List Nat)} (h : Pcs os T) (ht : ∀ x, x < n → x ∈ T.flatten) : sortB lexLe T = pcs os := by
  rw [← pcs_sorted os]
  exact sortB_perm tot_lex (h.uniq (pcs_ok os).1 ht (pcs_ok os).2.2)
theorem pcs_len (os : List (Or n)) : (pcs os).length ≤ n := by
  obtain ⟨h1, _, h3⟩ := pcs_ok os
  have a := len_le_flat h1.ne
  have b := nodup_le (n := n) h1.nd fun x hx => by
    obtain ⟨c, hc, hx⟩ := List.mem_flatten.mp hx
    obtain ⟨s, hs, rfl⟩ := h1.el c hc
    exact (mem_pce.mp hx).1
  omega
end
end MP
namespace MP
theorem pcF_snoc {n : Nat} (os : List (Or n)) (s : Nat) : ∀ (ss : List Nat) (found : List (List Nat)), pcF os (ss ++ [s]) found = if s ∈ (pcF os ss found).flatten then pcF os ss found else pcF os ss found ++ [pce os s]
  | [], found => rfl
  | t :: ss, found => by
    rw [List.cons_append]
    unfold pcF
    split
    · exact pcF_snoc os s ss found
    · exact pcF_snoc os s ss _
theorem pcF_pcs {n : Nat} (os : List (Or n)) : ∀ (ss : List Nat) (found : List (List Nat)), Pcs os found → (∀ s ∈ ss, s < n) → Pcs os (pcF os ss found)
  | [], found, h, _ => h
  | s :: ss, found, h, hs => by
    unfold pcF
    split
    · exact pcF_pcs os ss found h fun t ht => hs t (List.mem_cons_of_mem _ ht)
    · rename_i hm
      exact pcF_pcs os ss _ (h.add (hs s List.mem_cons_self) hm) fun t ht => hs t (List.mem_cons_of_mem _ ht)
theorem Pcs.len {n : Nat} {os : List (Or n)} {T : List (List Nat)} (h : Pcs os T) : T.length ≤ n ∧ T.flatten.length ≤ n := by
  have a := len_le_flat h.ne
  have b := nodup_le (n := n) h.nd fun x hx => by
    obtain ⟨c, hc, hx⟩ := List.mem_flatten.mp hx
    obtain ⟨s, hs, rfl⟩ := h.el c hc
    exact (mem_pce.mp hx).1
  omega
end MP

/-! Rows on pieces, rows pulled together: plain mathematics. -/
namespace MP
theorem nodup_full {n : Nat} {xs : List Nat} (hn : xs.Nodup) (h : ∀ x ∈ xs, x < n) (hl : xs.length = n) : xs.Perm (List.range n) := by
  have e : ((List.range n).filter fun x => decide (x ∈ xs)).Perm xs := by
    rw [List.perm_ext_iff_of_nodup (List.nodup_range.filter _) hn]
    intro x
    rw [List.mem_filter, List.mem_range, decide_eq_true_eq]
    exact ⟨fun z => z.2, fun hx => ⟨h x hx, hx⟩⟩
  have hlen : ((List.range n).filter fun x => decide (x ∈ xs)).length = (List.range n).length := by rw [e.length_eq, hl, List.length_range]
  have hall := List.length_filter_eq_length_iff.mp hlen
  rw [List.perm_ext_iff_of_nodup hn List.nodup_range]
  intro x
  rw [List.mem_range]
  exact ⟨h x, fun hx => of_decide_eq_true (hall x (List.mem_range.mpr hx))⟩
/-- an order on a closed set, its things named by their places -/
def onO (c o : List Nat) : List Nat := c.map fun x => c.idxOf (o.getD x 0)
theorem idx_get {c : List Nat} {x : Nat} (h : x ∈ c) : c.getD (c.idxOf x) 0 = x := by
  have hl := List.idxOf_lt_length_of_mem h
  simp only [List.getD, List.getElem?_eq_getElem hl, Option.getD_some]
  exact List.getElem_idxOf hl
theorem get_idx {c : List Nat} (hn : c.Nodup) {i : Nat} (hi : i < c.length) : c.idxOf (c.getD i 0) = i := by
  have hm : c.getD i 0 ∈ c := getD_mem hi
  have hl := List.idxOf_lt_length_of_mem hm
  have h1 := idx_get hm
  simp only [List.getD, List.getElem?_eq_getElem hl, List.getElem?_eq_getElem hi, Option.getD_some] at h1
  have h2 : c[c.idxOf (c.getD i 0)] = c[i] := by
    simpa [List.getD, hi] using h1
  exact (List.getElem_inj hn).mp h2
theorem onO_get {c o : List Nat} {i : Nat} (hi : i < c.length) : (onO c o).getD i 0 = c.idxOf (o.getD (c.getD i 0) 0) := by simp [onO, List.getD, hi]
theorem isOrd_on {n : Nat} {o : Or n} {c : List Nat} (hn : c.Nodup) (hl : ∀ x ∈ c, x < n) (hc : ∀ x ∈ c, o.1.getD x 0 ∈ c) : isOrd c.length (onO c o.1) := by
  refine isOrd_of_perm (nodup_full ?_ (fun x hx => ?_) (by simp [onO]))
  · unfold onO
    rw [List.Nodup, List.pairwise_map]
    refine List.Pairwise.imp_of_mem (fun {x y} hx hy hxy e => ?_) hn
    have h1 := idx_get (hc x hx)
    have h2 := idx_get (hc y hy)
    rw [e] at h1
    exact hxy (o.2.inj (hl x hx) (hl y hy) (h1.symm.trans h2))
  · obtain ⟨y, hy, rfl⟩ := List.mem_map.mp hx
    exact List.idxOf_lt_length_of_mem (hc y hy)
/-- a row on a piece -/
def OnOk {n : Nat} (os : List (Or n)) (c : List Nat) : Prop := c.Nodup ∧ (∀ x ∈ c, x < n) ∧ ∀ o ∈ os, ∀ x ∈ c, o.1.getD x 0 ∈ c
theorem on_pce {n : Nat} (os : List (Or n)) (s : Nat) : OnOk os (pce os s) := ⟨pce_nd s, fun x hx => (mem_pce.mp hx).1, fun o ho x hx => pce_cl ho hx⟩
theorem on_pcs {n : Nat} {os : List (Or n)} {c : List Nat} (h : c ∈ pcs os) : OnOk os c := by
  obtain ⟨s, _, rfl⟩ := (pcs_ok os).1.el c h
  exact on_pce os s
theorem row_on {n : Nat} {os : List (Or n)} {c : List Nat} (h : OnOk os c) : ∃ ps : List (Or c.length), ps.map (fun p => p.1) = os.map fun o => onO c o.1 := by
  obtain ⟨h1, h2, h3⟩ := h
  induction os with
  | nil => exact ⟨[], rfl⟩
  | cons o os ih =>
    obtain ⟨ps, hp⟩ := ih fun o ho => h3 o (List.mem_cons_of_mem _ ho)
    refine ⟨⟨onO c o.1, isOrd_on h1 h2 (h3 o List.mem_cons_self)⟩ :: ps, ?_⟩
    rw [List.map_cons, List.map_cons, hp]
/-! rows pulled together: a pair by one number -/
theorem pair_div {i j b : Nat} (hj : j < b) : (i * b + j) / b = i := by
  rw [Nat.add_comm, Nat.add_mul_div_right _ _ (by omega), Nat.div_eq_of_lt hj, Nat.zero_add]
theorem pair_mod {i j b : Nat} (hj : j < b) : (i * b + j) % b = j := by
  rw [Nat.add_comm, Nat.add_mul_mod_self_right, Nat.mod_eq_of_lt hj]
theorem pair_lt {i j a b : Nat} (hi : i < a) (hj : j < b) : i * b + j < a * b := by
  have : (i + 1) * b ≤ a * b := Nat.mul_le_mul_right b hi
  rw [Nat.succ_mul] at this
  omega
def pulL (a b : Nat) (o p : List Nat) : List Nat := (List.range a).flatMap fun i => (List.range b).map fun j => o.getD i 0 * b + p.getD j 0
theorem flat_get {α : Type} {f : Nat → Nat → α} (b : Nat) (d : α) : ∀ (a i j : Nat), i < a → j < b → ((List.range a).flatMap fun i => (List.range b).map (f i)).getD (i * b + j) d = f i j := by
  have key : ∀ (a k i j : Nat), i < a → j < b → (((List.range' k a).flatMap fun i => (List.range b).map (f i)).getD (i * b + j) d) = f (k + i) j := by
    intro a
    induction a with
    | zero => intro k i j hi; omega
    | succ a ih =>
      intro k i j hi hj
      rw [List.range'_succ, List.flatMap_cons]
      cases i with
      | zero =>
        rw [Nat.zero_mul, Nat.zero_add]
        simp only [List.getD]
        rw [List.getElem?_append_left (by simpa using hj)]
        simp [hj]
      | succ i =>
        simp only [List.getD]
        rw [List.getElem?_append_right (by simp [Nat.succ_mul]; omega)]
        have e : (i + 1) * b + j - ((List.range b).map (f k)).length = i * b + j := by
          rw [List.length_map, List.length_range, Nat.succ_mul]
          omega
        rw [e]
        have := ih (k + 1) i j (by omega) hj
        simp only [List.getD] at this
        rw [this, show k + 1 + i = k + (i + 1) by omega]
  intro a i j hi hj
  have := key a 0 i j hi hj
  rw [← List.range_eq_range', Nat.zero_add] at this
  exact this
theorem pulL_get {a b : Nat} (o p : List Nat) {i j : Nat} (hi : i < a) (hj : j < b) : (pulL a b o p).getD (i * b + j) 0 = o.getD i 0 * b + p.getD j 0 := flat_get b 0 a i j hi hj
theorem flat_len {α : Type} {f : Nat → Nat → α} (a b : Nat) : ((List.range a).flatMap fun i => (List.range b).map (f i)).length = a * b := by
  rw [List.length_flatMap]
  have : ∀ l : List Nat, (l.map fun i => ((List.range b).map (f i)).length).sum = l.length * b := fun l => by
    induction l with
    | nil => simp
    | cons x l ih => rw [List.map_cons, List.sum_cons, ih, List.length_map, List.length_range, List.length_cons, Nat.succ_mul, Nat.add_comm]
  rw [this, List.length_range]
theorem of_pair {a b k : Nat} (h : k < a * b) : ∃ i j, i < a ∧ j < b ∧ k = i * b + j := by
  have hb : 0 < b := Nat.pos_of_ne_zero fun e => by rw [e, Nat.mul_zero] at h; omega
  refine ⟨k / b, k % b, ?_, Nat.mod_lt _ hb, ?_⟩
  · exact Nat.div_lt_of_lt_mul (by rwa [Nat.mul_comm] at h)
  · have := Nat.div_add_mod k b
    rw [Nat.mul_comm] at this
    exact this.symm
theorem isOrd_pul {a b : Nat} (o : Or a) (p : Or b) : isOrd (a * b) (pulL a b o.1 p.1) := by
  refine isOrd_of (flat_len a b) (fun k hk => ?_) (fun k hk => ?_) fun k l hk hl e => ?_
  · obtain ⟨i, j, hi, hj, rfl⟩ := of_pair hk
    rw [pulL_get _ _ hi hj]
    exact pair_lt (o.2.lt hi) (p.2.lt hj)
  · obtain ⟨i, j, hi, hj, rfl⟩ := of_pair hk
    obtain ⟨i', hi', ei⟩ := o.2.surj hi
    obtain ⟨j', hj', ej⟩ := p.2.surj hj
    exact ⟨i' * b + j', pair_lt hi' hj', by rw [pulL_get _ _ hi' hj', ei, ej]⟩
  · obtain ⟨i, j, hi, hj, rfl⟩ := of_pair hk
    obtain ⟨i', j', hi', hj', rfl⟩ := of_pair hl
    rw [pulL_get _ _ hi hj, pulL_get _ _ hi' hj'] at e
    have e1 := congrArg (· / b) e
    have e2 := congrArg (· % b) e
    simp only [pair_div (p.2.lt hj), pair_div (p.2.lt hj'), pair_mod (p.2.lt hj), pair_mod (p.2.lt hj')] at e1 e2
    rw [o.2.inj hi hi' e1, p.2.inj hj hj' e2]
def pul {a b : Nat} (o : Or a) (p : Or b) : Or (a * b) := ⟨pulL a b o.1 p.1, isOrd_pul o p⟩
def puls {a b : Nat} (os : List (Or a)) (ps : List (Or b)) : List (Or (a * b)) := (os.zip ps).map fun x => pul x.1 x.2
/-! whole rows -/
theorem whole_iff {n : Nat} {os : List (Or n)} (h1 : 1 ≤ n) : (pcs os).length = 1 ↔ (pce os 0).length = n := by
  obtain ⟨hP, _, hcov⟩ := pcs_ok os
  constructor
  · intro h
    obtain ⟨c, hc⟩ : ∃ c, pcs os = [c] := List.length_eq_one_iff.mp h
    have h0 := hcov 0 (by omega)
    rw [hc] at h0 hcov hP
    obtain ⟨s, hs, e⟩ := hP.el c List.mem_cons_self
    have hc0 : 0 ∈ pce os s := by simpa [e] using h0
    have : pce os 0 = c := by rw [e]; exact pce_eq hs hc0
    rw [this]
    have hperm : c.Perm (List.range n) := by
      rw [List.perm_ext_iff_of_nodup (by rw [e]; exact pce_nd s) List.nodup_range]
      intro x
      rw [List.mem_range]
      exact ⟨fun hx => by rw [e] at hx; exact (mem_pce.mp hx).1, fun hx => by simpa using hcov x hx⟩
    rw [hperm.length_eq, List.length_range]
  · intro h
    have hfull := nodup_full (pce_nd (os := os) 0) (fun x hx => (mem_pce.mp hx).1) h
    have hall : ∀ c ∈ pcs os, c = pce os 0 := fun c hc => by
      obtain ⟨s, hs, rfl⟩ := hP.el c hc
      exact pce_eq (by omega) (hfull.mem_iff.mpr (List.mem_range.mpr hs))
    have hne : pcs os ≠ [] := fun e => by
      have := hcov 0 (by omega)
      rw [e] at this
      simp at this
    have hnd := hP.nd2
    cases hp : pcs os with
    | nil => exact absurd hp hne
    | cons c T =>
      rw [hp] at hall hnd
      cases T with
      | nil => rfl
      | cons d T =>
        exfalso
        have e1 := hall c List.mem_cons_self
        have e2 := hall d (by simp)
        rw [List.nodup_cons] at hnd
        exact hnd.1 (by rw [e1, e2]; exact List.mem_cons_self)
end MP

/-! Data in lists; rows on pieces are whole; rows pulled together: what the law's own hands tell. -/
namespace MP
open PySem L2 PySem.Spec PyProof.Rows
section
variable {α : Type} [DecidableEq α] [Enc α]
theorem shaped_lstE (h : Enc.dep α < 64) (xs : List α) : SeqAt.shaped (.list (xs.map Enc.p)) = true := by
  unfold SeqAt.shaped
  rw [Bool.and_eq_true, decide_eq_true_eq]
  refine ⟨by simp only [PyData.canLay0]; exact lay_map Enc.lay xs, ?_⟩
  have := dep_map (Enc.depth (α := α)) xs
  simp only [PyData.depth]
  omega
theorem in_lstE (h : Enc.dep α < 64) (x : α) (xs : List α) (m : Mem) : cmpV .inn m (Enc.e x) (.lst (xs.map Enc.e)) = some (decide (x ∈ xs)) := by
  have h1 : pd0 (Enc.e x) = some (Enc.p x) := Enc.pd x
  have h2 : pd0s (xs.map Enc.e) = some (xs.map Enc.p) := pd0s_map Enc.pd xs
  have h3 : SeqAt.shaped (Enc.p x) = true := shaped_e (by omega) x
  simp only [cmpV, inV2, h1, h2, h3, shaped_lstE h, Bool.and_self, if_true]
  refine congrArg some ?_
  rw [Bool.eq_iff_iff, List.any_eq_true, decide_eq_true_eq]
  constructor
  · rintro ⟨z, hz, e⟩
    obtain ⟨y, hy, rfl⟩ := List.mem_map.mp hz
    rw [Enc.eqv, decide_eq_true_eq] at e
    exact e ▸ hy
  · intro hx
    exact ⟨_, List.mem_map.mpr ⟨x, hx, rfl⟩, by rw [Enc.eqv, decide_eq_true_eq]⟩
theorem notIn_lstE (h : Enc.dep α < 64) (x : α) (xs : List α) (m : Mem) : cmpV .notIn m (Enc.e x) (.lst (xs.map Enc.e)) = some (!decide (x ∈ xs)) := by
  have := in_lstE h x xs m
  simp only [cmpV] at this ⊢
  rw [this]
  rfl
theorem find_idx (x : α) : ∀ xs : List α, x ∈ xs → findPD (Enc.p x) (xs.map Enc.p) = some (xs.idxOf x)
  | [], h => by simp at h
  | y :: xs, h => by
    rw [List.map_cons]
    unfold findPD
    rw [Enc.eqv, List.idxOf_cons]
    by_cases e : y = x
    · simp [e]
    · have := find_idx x xs (by
        rcases List.mem_cons.mp h with h | h
        · exact absurd h.symm e
        · exact h)
      have h2 : (y == x) = false := by simpa using e
      simp [e, this, h2]
theorem index_lstE (h : Enc.dep α < 64) {x : α} {xs : List α} (hx : x ∈ xs) (m : Mem) (hn : ∀ k, Enc.e x ≠ .int k) : methV .index m (.lst (xs.map Enc.e)) [Enc.e x] = some (.int (xs.idxOf x : Nat), m) := by
  have h1 : pd0 (Enc.e x) = some (Enc.p x) := Enc.pd x
  have h2 : pdV m (.lst (xs.map Enc.e)) = some (.list (xs.map Enc.p)) := by
    have h2 : pd0s (xs.map Enc.e) = some (xs.map Enc.p) := pd0s_map Enc.pd xs
    show pd0 (.lst (xs.map Enc.e)) = _
    simp [pd0, h2]
  have h3 : SeqAt.shaped (Enc.p x) = true := shaped_e (by omega) x
  simp only [methV, h1, h2, h3, shaped_lstE h, Bool.and_self, if_true, find_idx x xs hx, Option.map_some]
end
theorem any_map {α : Type} (f : α → Bool) (ds : List α) (m : Mem) : callV .any m [.lst (ds.map fun y => D.bl (f y))] = some (.bl (ds.any f), m) := by
  have h : bls? (ds.map fun y => D.bl (f y)) = some (ds.map f) := by
    induction ds with
    | nil => rfl
    | cons x xs ih => simp only [List.map_cons, bls?, ih, Option.map_some]
  show (bls? (ds.map fun y => D.bl (f y))).map (fun bs => (D.bl (bs.any id), m)) = _
  rw [h, Option.map_some, List.any_map]
  rfl
/-! pairs -/
theorem flat_eq {α : Type} (f : Nat → Nat → α) (a b : Nat) : ((List.range a).flatMap fun i => (List.range b).map (f i)) = (List.range (a * b)).map fun k => f (k / b) (k % b) := by
  refine List.ext_getElem (by rw [flat_len, List.length_map, List.length_range]) fun k h1 h2 => ?_
  have hk : k < a * b := by rwa [flat_len] at h1
  obtain ⟨i, j, hi, hj, rfl⟩ := of_pair hk
  have := flat_get (f := f) b (f 0 0) a i j hi hj
  simp only [List.getD, List.getElem?_eq_getElem h1, Option.getD_some] at this
  rw [this]
  simp [pair_div hj, pair_mod hj]
theorem pulL_eq {a b : Nat} (o p : List Nat) : pulL a b o p = (List.range (a * b)).map fun k => o.getD (k / b) 0 * b + p.getD (k % b) 0 := flat_eq (fun i j => o.getD i 0 * b + p.getD j 0) a b
theorem pul_div {a b : Nat} (o : Or a) (p : Or b) {k : Nat} (hk : k < a * b) : ((pul o p).1.getD k 0) / b = o.1.getD (k / b) 0 := by
  obtain ⟨i, j, hi, hj, rfl⟩ := of_pair hk
  show (pulL a b o.1 p.1).getD (i * b + j) 0 / b = _
  rw [pulL_get _ _ hi hj, pair_div (p.2.lt hj), pair_div hj]
theorem pul_mod {a b : Nat} (o : Or a) (p : Or b) {k : Nat} (hk : k < a * b) : ((pul o p).1.getD k 0) % b = p.1.getD (k % b) 0 := by
  obtain ⟨i, j, hi, hj, rfl⟩ := of_pair hk
  show (pulL a b o.1 p.1).getD (i * b + j) 0 % b = _
  rw [pulL_get _ _ hi hj, pair_mod (p.2.lt hj), pair_mod hj]
theorem div_lt {a b k : Nat} (hk : k < a * b) : k / b < a := by
  obtain ⟨i, j, hi, hj, rfl⟩ := of_pair hk
  rwa [pair_div hj]
theorem mod_lt' {a b k : Nat} (hk : k < a * b) : k % b < b := by
  obtain ⟨i, j, hi, hj, rfl⟩ := of_pair hk
  rwa [pair_mod hj]
/-- where a pair lies -/
theorem pair_idx {a b i j : Nat} (hi : i < a) (hj : j < b) : ((List.range (a * b)).map fun k => (k / b, k % b)).idxOf (i, j) = i * b + j := by
  have hlt := pair_lt hi hj
  have hl : i * b + j < ((List.range (a * b)).map fun k => (k / b, k % b)).length := by simpa using hlt
  have hnd : ((List.range (a * b)).map fun k => (k / b, k % b)).Nodup := by
    rw [List.Nodup, List.pairwise_map]
    refine List.Pairwise.imp_of_mem (fun {x y} hx hy hxy e => ?_) List.nodup_range
    obtain ⟨e1, e2⟩ := Prod.mk.inj e
    have h1 := Nat.div_add_mod x b
    have h2 := Nat.div_add_mod y b
    rw [e1, e2, h2] at h1
    exact hxy h1.symm
  have := hnd.idxOf_getElem (i * b + j) hl
  have e : ((List.range (a * b)).map fun k => (k / b, k % b))[i * b + j] = (i, j) := by simp [pair_div hj, pair_mod hj]
  rwa [e] at this
theorem pair_mem {a b i j : Nat} (hi : i < a) (hj : j < b) : (i, j) ∈ (List.range (a * b)).map fun k => (k / b, k % b) :=
  List.mem_map.mpr ⟨i * b + j, List.mem_range.mpr (pair_lt hi hj), by rw [pair_div hj, pair_mod hj]⟩
/-! a row on a piece is whole -/
section
variable {n : Nat} {os : List (Or n)}
theorem rch_on {c : List Nat} (h : OnOk os c) {qs : List (Or c.length)} (hq : qs.map (fun p => p.1) = os.map fun o => onO c o.1) {x y : Nat} (hx : x ∈ c) (hr : Rch os x y) : y ∈ c ∧ Rch qs (c.idxOf x) (c.idxOf y) := by
  obtain ⟨h1, h2, h3⟩ := h
  induction hr with
  | refl => exact ⟨hx, .refl⟩
  | @step y o hr ho ih =>
    refine ⟨h3 o ho y ih.1, ?_⟩
    have hm : onO c o.1 ∈ qs.map fun p => p.1 := by
      rw [hq]
      exact List.mem_map.mpr ⟨o, ho, rfl⟩
    obtain ⟨q, hqm, e⟩ := List.mem_map.mp hm
    have hl := List.idxOf_lt_length_of_mem ih.1
    have := ih.2.step hqm
    rw [e, onO_get hl, idx_get ih.1] at this
    exact this
theorem on_whole {s : Nat} (hs : s < n) {qs : List (Or (pce os s).length)} (hq : qs.map (fun p => p.1) = os.map fun o => onO (pce os s) o.1) : (pce qs 0).length = (pce os s).length := by
  have hok := on_pce os s
  have hself := self_pce (os := os) hs
  have hlen : 0 < (pce os s).length := List.length_pos_of_mem hself
  obtain ⟨z, hz⟩ : ∃ z, (pce os s).getD 0 0 = z := ⟨_, rfl⟩
  have hz0 : z ∈ pce os s := hz ▸ getD_mem hlen
  have hi0 : (pce os s).idxOf z = 0 := hz ▸ get_idx hok.1 hlen
  obtain ⟨zl, zr⟩ := mem_pce.mp hz0
  have hall : ∀ i, i < (pce os s).length → Rch qs 0 i := fun i hi => by
    have hm := getD_mem hi
    obtain ⟨yl, yr⟩ := mem_pce.mp hm
    have := (rch_on hok hq hz0 ((zr.symm hs).trans yr)).2
    rwa [hi0, get_idx hok.1 hi] at this
  unfold pce
  rw [List.filter_eq_self.mpr fun i hi => by
    classical
    exact decide_eq_true (hall i (List.mem_range.mp hi)), List.length_range]
end
/-! the first of the shortest -/
theorem argBest_spec {bt : Nat → Nat → Bool} {f : Nat → Nat} : ∀ k, (∀ i j, j < i → i ≤ k → bt i j = decide (f i < f j)) → argBest bt k ≤ k ∧ (∀ j, j ≤ k → f (argBest bt k) ≤ f j) ∧ ∀ j, j < argBest bt k → f (argBest bt k) < f j
  | 0, _ => ⟨Nat.le_refl _, fun j hj => by rw [Nat.le_zero.mp hj]; exact Nat.le_refl _, fun j hj => absurd hj (Nat.not_lt_zero _)⟩
  | k + 1, h => by
    obtain ⟨h1, h2, h3⟩ := argBest_spec k fun i j hji hi => h i j hji (by omega)
    have hb := h (k + 1) (argBest bt k) (by omega) (Nat.le_refl _)
    unfold argBest
    rw [hb]
    by_cases hlt : f (k + 1) < f (argBest bt k)
    · rw [if_pos (decide_eq_true hlt)]
      refine ⟨Nat.le_refl _, fun j hj => ?_, fun j hj => ?_⟩
      · by_cases e : j = k + 1
        · rw [e]
          exact Nat.le_refl _
        · have := h2 j (by omega)
          omega
      · have := h2 j (by omega)
        omega
    · rw [if_neg (by simpa using hlt)]
      refine ⟨by omega, fun j hj => ?_, h3⟩
      by_cases e : j = k + 1
      · rw [e]
        omega
      · exact h2 j (by omega)
theorem filter_first {α : Type} (p : α → Bool) : ∀ (xs : List α) (i : Nat) (hi : i < xs.length), p xs[i] = true → (∀ j (hj : j < i), p (xs[j]'(by omega)) = false) → (xs.filter p)[0]? = some xs[i]
  | x :: xs, 0, _, h, _ => by
    have h : p x = true := h
    rw [List.filter_cons_of_pos h]
    rfl
  | x :: xs, i + 1, hi, h, hj => by
    have hx : p x = false := hj 0 (by omega)
    rw [List.filter_cons_of_neg (by rw [hx]; decide)]
    have := filter_first p xs i (by simpa using hi) (by simpa using h) fun j hji => by simpa using hj (j + 1) (by omega)
    simpa using this
theorem sort_first {l : List Nat} {x : Nat} (hx : x ∈ l) : (sortB leN l).getD 0 0 ∈ l ∧ (sortB leN l).getD 0 0 ≤ x := by
  have hm := (sortB_self (le := leN) l).mem_iff.mpr hx
  have hs := sort_asc l
  cases h : sortB leN l with
  | nil =>
    rw [h] at hm
    simp at hm
  | cons y r =>
    rw [h] at hm hs
    have hy : y ∈ l := (sortB_self (le := leN) l).mem_iff.mp (by rw [h]; exact List.mem_cons_self)
    refine ⟨hy, ?_⟩
    show y ≤ x
    rcases List.mem_cons.mp hm with e | hm
    · exact Nat.le_of_eq e.symm
    · exact (List.pairwise_cons.mp hs).1 x hm
theorem sort_last {l : List Nat} {x : Nat} (hx : x ∈ l) : (sortB leN l).getD (l.length - 1) 0 ∈ l ∧ x ≤ (sortB leN l).getD (l.length - 1) 0 := by
  have hp := sortB_self (le := leN) l
  have hm := hp.mem_iff.mpr hx
  have hs := sort_asc l
  have hpos : 0 < l.length := List.length_pos_of_mem hx
  have hl : l.length - 1 < (sortB leN l).length := by rw [hp.length_eq]; omega
  refine ⟨hp.mem_iff.mp (getD_mem hl), ?_⟩
  obtain ⟨i, hi, e⟩ := List.getElem_of_mem hm
  rw [← e]
  simp only [List.getD, List.getElem?_eq_getElem hl, Option.getD_some]
  by_cases he : i = l.length - 1
  · subst he
    exact Nat.le_refl _
  · exact List.pairwise_iff_getElem.mp hs i _ hi hl (by rw [hp.length_eq] at hi; omega)
end MP

namespace Hd
open PySem L2 PySem.Spec PyProof.Rows
def top (i : Nat) : Stmt := PySem.Challenge.pw_roworbits_k22_whole_rows_pulled_together.main.body.getD i (.Pass ⟨0, 0, 0, 0⟩)
def mkD (x : Str) (i : Nat) : He.DefD := ⟨(x, none), x, x, defArgs (top i), defBody (top i), defScope (top i), [], []⟩
def d0 : MP.DefC := ⟨mkD "is_number" 5, ["thing"], ["thing"], [], false⟩
theorem b0 : MP.BindOk d0 := ⟨fun _ _ _ _ _ _ us hl => match us, hl with | [_], _ => rfl, fun q hq => match q, hq with | _, rfl => fun _ _ _ _ _ _ _ => rfl⟩
def d1 : MP.DefC := ⟨mkD "is_within" 6, ["thing", "least", "most"], ["thing", "least", "most"], [], false⟩
theorem b1 : MP.BindOk d1 := ⟨fun _ _ _ _ _ _ us hl => match us, hl with | [_, _, _], _ => rfl, fun q hq => by cases hq⟩
def d2 : MP.DefC := ⟨mkD "is_long" 7, ["thing", "length"], ["thing", "length"], [], false⟩
theorem b2 : MP.BindOk d2 := ⟨fun _ _ _ _ _ _ us hl => match us, hl with | [_, _], _ => rfl, fun q hq => by cases hq⟩
def d3 : MP.DefC := ⟨mkD "tupled" 8, ["value", "own"], ["value"], [], false⟩
theorem b3 : MP.BindOk d3 := ⟨fun _ _ _ _ _ _ us hl => match us, hl with | [_], _ => rfl, fun q hq => match q, hq with | _, rfl => fun _ _ _ _ _ _ _ => rfl⟩
def d4 : MP.DefC := ⟨mkD "are_within" 9, ["thing", "least", "most", "own"], ["thing", "least", "most"], [], false⟩
theorem b4 : MP.BindOk d4 := ⟨fun _ _ _ _ _ _ us hl => match us, hl with | [_, _, _], _ => rfl, fun q hq => by cases hq⟩
def d5 : MP.DefC := ⟨mkD "is_order_of" 11, ["many", "thing"], ["many", "thing"], [], false⟩
theorem b5 : MP.BindOk d5 := ⟨fun _ _ _ _ _ _ us hl => match us, hl with | [_, _], _ => rfl, fun q hq => by cases hq⟩
def d6 : MP.DefC := ⟨mkD "is_row_of" 15, ["thing", "own"], ["thing"], [], false⟩
theorem b6 : MP.BindOk d6 := ⟨fun _ _ _ _ _ _ us hl => match us, hl with | [_], _ => rfl, fun q hq => match q, hq with | _, rfl => fun _ _ _ _ _ _ _ => rfl⟩
def d7 : MP.DefC := ⟨mkD "piece_from" 16, ["row", "start", "found", "rows", "at", "order"], ["row", "start"], ["found", "rows"], false⟩
theorem b7 : MP.BindOk d7 := ⟨fun _ _ _ _ _ _ us hl => match us, hl with | [_, _], _ => rfl, fun q hq => by cases hq⟩
def d8 : MP.DefC := ⟨mkD "pieces_by" 17, ["row", "start", "found", "seen", "own", "its"], ["row"], ["found", "seen"], false⟩
theorem b8 : MP.BindOk d8 := ⟨fun _ _ _ _ _ _ us hl => match us, hl with | [_], _ => rfl, fun q hq => match q, hq with | _, rfl => fun _ _ _ _ _ _ _ => rfl⟩
def d9 : MP.DefC := ⟨mkD "is_whole_by" 18, ["row"], ["row"], [], false⟩
theorem b9 : MP.BindOk d9 := ⟨fun _ _ _ _ _ _ us hl => match us, hl with | [_], _ => rfl, fun q hq => match q, hq with | _, rfl => fun _ _ _ _ _ _ _ => rfl⟩
def d10 : MP.DefC := ⟨mkD "on_piece" 19, ["row", "piece", "names", "place", "own", "order"], ["row", "piece"], [], false⟩
theorem b10 : MP.BindOk d10 := ⟨fun _ _ _ _ _ _ us hl => match us, hl with | [_, _], _ => rfl, fun q hq => by cases hq⟩
def d11 : MP.DefC := ⟨mkD "sure_row" 20, ["thing", "row"], ["thing"], [], false⟩
theorem b11 : MP.BindOk d11 := ⟨fun _ _ _ _ _ _ us hl => match us, hl with | [_], _ => rfl, fun q hq => match q, hq with | _, rfl => fun _ _ _ _ _ _ _ => rfl⟩
def d12 : MP.DefC := ⟨mkD "is_leading_of" 23, ["row", "other", "thing", "own", "near", "far"], ["row", "other", "thing"], [], false⟩
theorem b12 : MP.BindOk d12 := ⟨fun _ _ _ _ _ _ us hl => match us, hl with | [_, _, _], _ => rfl, fun q hq => by cases hq⟩
def d13 : MP.DefC := ⟨mkD "sure_pair" 24, ["row", "other", "one", "two"], ["row", "other"], [], false⟩
theorem b13 : MP.BindOk d13 := ⟨fun _ _ _ _ _ _ us hl => match us, hl with | [_, _], _ => rfl, fun q hq => by cases hq⟩
def d14 : MP.DefC := ⟨mkD "sure_over" 25, ["row", "other", "one", "two"], ["row", "other"], [], false⟩
theorem b14 : MP.BindOk d14 := ⟨fun _ _ _ _ _ _ us hl => match us, hl with | [_, _], _ => rfl, fun q hq => by cases hq⟩
def d15 : MP.DefC := ⟨mkD "pulled_by" 26, ["row", "other", "many", "orders", "near", "far", "own", "its"], ["row", "other"], ["orders"], false⟩
theorem b15 : MP.BindOk d15 := ⟨fun _ _ _ _ _ _ us hl => match us, hl with | [_, _], _ => rfl, fun q hq => by cases hq⟩
def d16 : MP.DefC := ⟨mkD "is_leading" 27, ["row", "other", "thing", "one", "two"], ["row", "other", "thing"], [], false⟩
theorem b16 : MP.BindOk d16 := ⟨fun _ _ _ _ _ _ us hl => match us, hl with | [_, _, _], _ => rfl, fun q hq => by cases hq⟩
def d17 : MP.DefC := ⟨mkD "pulled_pieces" 28, ["row", "other", "both", "one", "two", "piece", "own"], ["row", "other"], [], false⟩
theorem b17 : MP.BindOk d17 := ⟨fun _ _ _ _ _ _ us hl => match us, hl with | [_, _], _ => rfl, fun q hq => by cases hq⟩
def d18 : MP.DefC := ⟨mkD "pulled_rows" 29, ["row", "other", "both", "pieces", "one", "two", "own"], ["row", "other"], [], false⟩
theorem b18 : MP.BindOk d18 := ⟨fun _ _ _ _ _ _ us hl => match us, hl with | [_, _], _ => rfl, fun q hq => by cases hq⟩
def d19 : MP.DefC := ⟨mkD "pulled_lots" 30, ["row", "other", "both", "found", "order", "one", "two", "start", "left", "lots", "long", "at", "own"], ["row", "other"], ["found", "left", "lots"], false⟩
theorem b19 : MP.BindOk d19 := ⟨fun _ _ _ _ _ _ us hl => match us, hl with | [_, _], _ => rfl, fun q hq => by cases hq⟩
def d20 : MP.DefC := ⟨mkD "least_over" 31, ["row", "other", "both", "piece", "one", "two", "own"], ["row", "other"], [], false⟩
theorem b20 : MP.BindOk d20 := ⟨fun _ _ _ _ _ _ us hl => match us, hl with | [_, _], _ => rfl, fun q hq => by cases hq⟩
def d21 : MP.DefC := ⟨mkD "sides_of" 32, ["row", "other", "piece", "told", "pieces", "one", "two", "its", "own", "pair"], ["row", "other", "piece"], [], false⟩
theorem b21 : MP.BindOk d21 := ⟨fun _ _ _ _ _ _ us hl => match us, hl with | [_, _, _], _ => rfl, fun q hq => by cases hq⟩
def d22 : MP.DefC := ⟨mkD "image_sizes" 33, ["row", "other", "one", "two", "own"], ["row", "other"], [], false⟩
theorem b22 : MP.BindOk d22 := ⟨fun _ _ _ _ _ _ us hl => match us, hl with | [_, _], _ => rfl, fun q hq => by cases hq⟩
def d23 : MP.DefC := ⟨mkD "_law_box" 35, ["script", "k", "bit_so"], ["script", "k"], [], true⟩
theorem b23 : MP.BindOk d23 := ⟨fun _ _ _ _ _ _ us hl => match us, hl with | [_, _], _ => rfl, fun q hq => by cases hq⟩
def d24 : MP.DefC := ⟨mkD "_law_take" 36, ["tin", "below_so", "once_so", "wide_so", "twice_so", "drawn_so"], ["tin", "below_so"], ["tin"], false⟩
theorem b24 : MP.BindOk d24 := ⟨fun _ _ _ _ _ _ us hl => match us, hl with | [_, _], _ => rfl, fun q hq => by cases hq⟩
def d25 : MP.DefC := ⟨mkD "_law_cells" 37, ["script", "most_so", "cells_so", "k", "bit_so", "at_so"], ["script", "most_so"], ["cells_so"], false⟩
theorem b25 : MP.BindOk d25 := ⟨fun _ _ _ _ _ _ us hl => match us, hl with | [_, _], _ => rfl, fun q hq => by cases hq⟩
def d26 : MP.DefC := ⟨mkD "_law_pick" 38, ["tin", "goods_so", "count_so", "lap", "pool_so", "found"], ["tin", "goods_so", "count_so"], ["found", "pool_so", "tin"], false⟩
theorem b26 : MP.BindOk d26 := ⟨fun _ _ _ _ _ _ us hl => match us, hl with | [_, _, _], _ => rfl, fun q hq => by cases hq⟩
def d27 : MP.DefC := ⟨mkD "_law_same" 39, ["got", "due", "mine", "its"], ["got", "due"], [], false⟩
theorem b27 : MP.BindOk d27 := ⟨fun _ _ _ _ _ _ us hl => match us, hl with | [_, _], _ => rfl, fun q hq => by cases hq⟩
def d28 : MP.DefC := ⟨mkD "_law_twos" 40, ["one", "two", "found", "own", "its"], ["one", "two"], ["found"], false⟩
theorem b28 : MP.BindOk d28 := ⟨fun _ _ _ _ _ _ us hl => match us, hl with | [_, _], _ => rfl, fun q hq => by cases hq⟩
def d29 : MP.DefC := ⟨mkD "_law_order" 41, ["tin", "many"], ["tin", "many"], ["tin"], false⟩
theorem b29 : MP.BindOk d29 := ⟨fun _ _ _ _ _ _ us hl => match us, hl with | [_, _], _ => rfl, fun q hq => by cases hq⟩
def d30 : MP.DefC := ⟨mkD "_law_rounds" 42, ["order_so", "start_so", "found", "seen_so", "round_so", "at_so"], ["order_so"], ["found", "round_so", "seen_so"], false⟩
theorem b30 : MP.BindOk d30 := ⟨fun _ _ _ _ _ _ us hl => match us, hl with | [_], _ => rfl, fun q hq => match q, hq with | _, rfl => fun _ _ _ _ _ _ _ => rfl⟩
def d31 : MP.DefC := ⟨mkD "_law_lots" 43, ["order_so", "own"], ["order_so"], [], false⟩
theorem b31 : MP.BindOk d31 := ⟨fun _ _ _ _ _ _ us hl => match us, hl with | [_], _ => rfl, fun q hq => match q, hq with | _, rfl => fun _ _ _ _ _ _ _ => rfl⟩
def d32 : MP.DefC := ⟨mkD "_law_pieces" 44, ["row", "left", "found", "piece_so", "rows_so", "at_so", "own", "order_so"], ["row"], ["found", "piece_so", "rows_so"], false⟩
theorem b32 : MP.BindOk d32 := ⟨fun _ _ _ _ _ _ us hl => match us, hl with | [_], _ => rfl, fun q hq => match q, hq with | _, rfl => fun _ _ _ _ _ _ _ => rfl⟩
def d33 : MP.DefC := ⟨mkD "_law_on" 45, ["row", "piece_so", "order_so", "own"], ["row", "piece_so"], [], false⟩
theorem b33 : MP.BindOk d33 := ⟨fun _ _ _ _ _ _ us hl => match us, hl with | [_, _], _ => rfl, fun q hq => by cases hq⟩
def d34 : MP.DefC := ⟨mkD "_law_named" 46, ["row", "names_so", "found", "order_so", "told_so", "own"], ["row", "names_so"], ["found", "told_so"], false⟩
theorem b34 : MP.BindOk d34 := ⟨fun _ _ _ _ _ _ us hl => match us, hl with | [_, _], _ => rfl, fun q hq => by cases hq⟩
def d35 : MP.DefC := ⟨mkD "_law_any_row" 47, ["tin", "many", "length", "own"], ["tin", "many", "length"], ["tin"], false⟩
theorem b35 : MP.BindOk d35 := ⟨fun _ _ _ _ _ _ us hl => match us, hl with | [_, _, _], _ => rfl, fun q hq => by cases hq⟩
def d36 : MP.DefC := ⟨mkD "_law_heard" 48, ["door_so", "one", "two", "thing", "caught", "told_so"], ["door_so", "one", "two", "thing"], [], false⟩
theorem b36 : MP.BindOk d36 := ⟨fun _ _ _ _ _ _ us hl => match us, hl with | [_, _, _, _], _ => rfl, fun q hq => by cases hq⟩
def d37 : MP.DefC := ⟨mkD "law" 49, ["script", "tin", "lap", "got", "length", "pairs_so", "both_so", "pieces_so", "named_so", "rows_so", "sizes_so", "due", "k", "sides_so", "whole_so", "row", "other_so", "least_so", "piece_so", "own", "near", "far", "one", "two"], ["script"], ["tin"], false⟩
theorem b37 : MP.BindOk d37 := ⟨fun _ _ _ _ _ _ us hl => match us, hl with | [_], _ => rfl, fun q hq => match q, hq with | _, rfl => fun _ _ _ _ _ _ _ => rfl⟩
def pr : List MP.DefC := ([d0, d1, d2, d3, d4, d5, d6, d7, d8, d9, d10, d11, d12, d13, d14, d15, d16, d17, d18, d19, d20, d21, d22, d23, d24] : List MP.DefC) ++ ([d25, d26, d27, d28, d29, d30, d31, d32, d33, d34, d35, d36, d37] : List MP.DefC)
def pg : MP.PgD := ⟨pr, ["CanNot", "TooMany", "Unfit"], [("MOST_rows", 24), ("LONGEST", 60), ("MOST_pulls", 24)], [], ["ValueError", "abs", "all", "any", "bool", "dict", "enumerate", "int", "isinstance", "len", "list", "min", "range", "set", "sorted", "str", "tuple", "zip"]⟩
theorem prB : ∀ d ∈ pr, MP.BindOk d ∧ d.d.at_ = (d.d.name, none) ∧ (∀ K, d.d.dvs K = []) ∧ (∀ K, d.d.kws K = []) := by
  unfold pr
  simp only [List.forall_mem_append, List.forall_mem_cons]
  exact ⟨⟨⟨b0, rfl, fun _ => rfl, fun _ => rfl⟩, ⟨b1, rfl, fun _ => rfl, fun _ => rfl⟩, ⟨b2, rfl, fun _ => rfl, fun _ => rfl⟩, ⟨b3, rfl, fun _ => rfl, fun _ => rfl⟩, ⟨b4, rfl, fun _ => rfl, fun _ => rfl⟩, ⟨b5, rfl, fun _ => rfl, fun _ => rfl⟩, ⟨b6, rfl, fun _ => rfl, fun _ => rfl⟩, ⟨b7, rfl, fun _ => rfl, fun _ => rfl⟩, ⟨b8, rfl, fun _ => rfl, fun _ => rfl⟩, ⟨b9, rfl, fun _ => rfl, fun _ => rfl⟩, ⟨b10, rfl, fun _ => rfl, fun _ => rfl⟩, ⟨b11, rfl, fun _ => rfl, fun _ => rfl⟩, ⟨b12, rfl, fun _ => rfl, fun _ => rfl⟩, ⟨b13, rfl, fun _ => rfl, fun _ => rfl⟩, ⟨b14, rfl, fun _ => rfl, fun _ => rfl⟩, ⟨b15, rfl, fun _ => rfl, fun _ => rfl⟩, ⟨b16, rfl, fun _ => rfl, fun _ => rfl⟩, ⟨b17, rfl, fun _ => rfl, fun _ => rfl⟩, ⟨b18, rfl, fun _ => rfl, fun _ => rfl⟩, ⟨b19, rfl, fun _ => rfl, fun _ => rfl⟩, ⟨b20, rfl, fun _ => rfl, fun _ => rfl⟩, ⟨b21, rfl, fun _ => rfl, fun _ => rfl⟩, ⟨b22, rfl, fun _ => rfl, fun _ => rfl⟩, ⟨b23, rfl, fun _ => rfl, fun _ => rfl⟩, ⟨b24, rfl, fun _ => rfl, fun _ => rfl⟩, fun _ h => nomatch h⟩, ⟨⟨b25, rfl, fun _ => rfl, fun _ => rfl⟩, ⟨b26, rfl, fun _ => rfl, fun _ => rfl⟩, ⟨b27, rfl, fun _ => rfl, fun _ => rfl⟩, ⟨b28, rfl, fun _ => rfl, fun _ => rfl⟩, ⟨b29, rfl, fun _ => rfl, fun _ => rfl⟩, ⟨b30, rfl, fun _ => rfl, fun _ => rfl⟩, ⟨b31, rfl, fun _ => rfl, fun _ => rfl⟩, ⟨b32, rfl, fun _ => rfl, fun _ => rfl⟩, ⟨b33, rfl, fun _ => rfl, fun _ => rfl⟩, ⟨b34, rfl, fun _ => rfl, fun _ => rfl⟩, ⟨b35, rfl, fun _ => rfl, fun _ => rfl⟩, ⟨b36, rfl, fun _ => rfl, fun _ => rfl⟩, ⟨b37, rfl, fun _ => rfl, fun _ => rfl⟩, fun _ h => nomatch h⟩⟩
theorem prK : (pg.pr.all MP.DefC.ok) = true := by decide +kernel
abbrev R : PySem.W.OpenRow := PySem.W.OpenLaw.row PySem.Challenge.rw_roworbits_k22_whole_rows_pulled_together
abbrev hk : PySem.W.Hook := He.hookD 4 pg.fa pg.fn
def ob (s : PySem.W.SharedT) : He.AlD := He.obsDG 4 pg.fa pg.fn (HandSHeadRun.getT s)
theorem ob_eq (s : PySem.W.SharedT) : ob s = hk.obs s.abs := He.obsDG_eq (HandSHeadRun.getT_eq s)
def loose : List Str := (["is_number", "is_within", "is_long", "tupled", "are_within", "is_order_of", "is_row_of", "piece_from", "pieces_by", "is_whole_by", "on_piece", "sure_row", "is_leading_of", "sure_pair", "sure_over", "pulled_by", "is_leading", "pulled_pieces", "pulled_rows", "pulled_lots", "least_over", "sides_of", "image_sizes", "_law_box", "_law_take", "_law_cells", "_law_pick", "_law_same", "_law_twos", "_law_order"] : List Str) ++ (["_law_rounds", "_law_lots", "_law_pieces", "_law_on", "_law_named", "_law_any_row", "_law_heard", "CanNot", "TooMany", "Unfit", "LONGEST", "MOST_pulls", "MOST_rows"] : List Str)
theorem run (w : World) : HandSHeadRun.RunEq R (PySem.W.view R.prog [49]) hk ob 4000 loose w := by
  intro os
  kernel_rfl
end Hd
namespace Hd
abbrev i_is_number : Nat := 0
abbrev i_is_within : Nat := 1
abbrev i_is_long : Nat := 2
abbrev i_tupled : Nat := 3
abbrev i_are_within : Nat := 4
abbrev i_is_order_of : Nat := 5
abbrev i_is_row_of : Nat := 6
abbrev i_piece_from : Nat := 7
abbrev i_pieces_by : Nat := 8
abbrev i_is_whole_by : Nat := 9
abbrev i_on_piece : Nat := 10
abbrev i_sure_row : Nat := 11
abbrev i_is_leading_of : Nat := 12
abbrev i_sure_pair : Nat := 13
abbrev i_sure_over : Nat := 14
abbrev i_pulled_by : Nat := 15
abbrev i_is_leading : Nat := 16
abbrev i_pulled_pieces : Nat := 17
abbrev i_pulled_rows : Nat := 18
abbrev i_pulled_lots : Nat := 19
abbrev i_least_over : Nat := 20
abbrev i_sides_of : Nat := 21
abbrev i_image_sizes : Nat := 22
abbrev i_l_box : Nat := 23
abbrev i_l_take : Nat := 24
abbrev i_l_cells : Nat := 25
abbrev i_l_pick : Nat := 26
abbrev i_l_same : Nat := 27
abbrev i_l_twos : Nat := 28
abbrev i_l_order : Nat := 29
abbrev i_l_rounds : Nat := 30
abbrev i_l_lots : Nat := 31
abbrev i_l_pieces : Nat := 32
abbrev i_l_on : Nat := 33
abbrev i_l_named : Nat := 34
abbrev i_l_any_row : Nat := 35
abbrev i_l_heard : Nat := 36
abbrev i_law : Nat := 37
def q_is_number : MP.DefI := ⟨1, 1, false, (.cons (.ret false (.andE (.isi (.var 0) [.int]) (.notE (.isi (.var 0) [.bool])))) .nil)⟩
def q_is_within : MP.DefI := ⟨3, 3, false, (.cons (.ret false (.andE (.callF 0 (.cons (.var 0) .nil)) (.cmp2 .le .le (.var 1) (.var 0) (.var 2)))) .nil)⟩
def q_is_long : MP.DefI := ⟨2, 2, false, (.cons (.ret false (.andE (.isi (.var 0) [.tuple]) (.cmp .eq (.callB .len (.cons (.var 0) .nil)) (.var 1)))) .nil)⟩
def q_tupled : MP.DefI := ⟨1, 2, false, (.cons (.ret false (.ite (.isi (.var 0) [.list, .tuple]) (.callB .tuple (.cons (.comp (.name 1) (.of (.var 0)) .nil (.callF 3 (.cons (.var 1) .nil)) [1]) .nil)) (.var 0))) .nil)⟩
def q_are_within : MP.DefI := ⟨3, 4, false, (.cons (.ret false (.andE (.isi (.var 0) [.tuple]) (.callB .all (.cons (.comp (.name 3) (.of (.var 0)) .nil (.callF 1 (.cons (.var 3) (.cons (.var 1) (.cons (.var 2) .nil)))) [3]) .nil)))) .nil)⟩
def q_is_order_of : MP.DefI := ⟨2, 2, false, (.cons (.ret false (.andE (.callF 4 (.cons (.var 1) (.cons (.lit (.int 0)) (.cons (.bin .sub (.var 0) (.lit (.int 1))) .nil)))) (.andE (.cmp .eq (.callB .len (.cons (.var 1) .nil)) (.var 0)) (.cmp .eq (.callB .lenset (.cons (.var 1) .nil)) (.var 0))))) .nil)⟩
def q_is_row_of : MP.DefI := ⟨1, 2, false, (.cons (.ifS (.orE (.notE (.callF 2 (.cons (.var 0) (.cons (.lit (.int 2)) .nil)))) (.orE (.notE (.callF 1 (.cons (.ix (.var 0) (.lit (.int 0))) (.cons (.lit (.int 1)) (.cons (.lit (.int 24)) .nil))))) (.notE (.isi (.ix (.var 0) (.lit (.int 1))) [.tuple])))) (.cons (.ret false (.lit (.bl false))) .nil) .nil) (.cons (.ret false (.andE (.cmp .le (.callB .len (.cons (.ix (.var 0) (.lit (.int 1))) .nil)) (.lit (.int 60))) (.callB .all (.cons (.comp (.name 1) (.of (.ix (.var 0) (.lit (.int 1)))) .nil (.callF 5 (.cons (.ix (.var 0) (.lit (.int 0))) (.cons (.var 1) .nil))) [1]) .nil)))) .nil))⟩
def q_piece_from : MP.DefI := ⟨2, 6, false, (.cons (.par 2 3 (.thaw (.dict1 (.var 1) (.lit (.bl true)))) (.newL (.cons (.var 1) .nil))) (.cons (.whileS (.cmp .ne (.var 3) (.lst .nil)) (.cons (.asg (.name 4) (.meth .pop (.var 3) .nil)) (.cons (.forS (.name 5) (.of (.ix (.var 0) (.lit (.int 1)))) (.cons (.ifS (.cmp .notIn (.ix (.var 5) (.var 4)) (.var 2)) (.cons (.setIx (.var 2) (.ix (.var 5) (.var 4)) (.lit (.bl true))) (.cons (.expr (.meth .append (.var 3) (.cons (.ix (.var 5) (.var 4)) .nil))) .nil)) .nil) .nil)) .nil))) (.cons (.ret true (.callB .tuple (.cons (.callB .sorted (.cons (.var 2) .nil)) .nil))) .nil)))⟩
def q_pieces_by : MP.DefI := ⟨1, 6, false, (.cons (.par 2 3 (.newL .nil) (.thaw (.emptyDict))) (.cons (.forS (.name 1) (.rng1 (.ix (.var 0) (.lit (.int 0)))) (.cons (.ifS (.cmp .notIn (.var 1) (.var 3)) (.cons (.asg (.name 4) (.callF 7 (.cons (.var 0) (.cons (.var 1) .nil)))) (.cons (.expr (.meth .update (.var 3) (.cons (.callB .dict (.cons (.comp (.name 5) (.of (.var 4)) .nil (.tup (.cons (.var 5) (.cons (.lit (.bl true)) .nil))) [5]) .nil)) .nil))) (.cons (.expr (.meth .append (.var 2) (.cons (.var 4) .nil))) .nil))) .nil) .nil)) (.cons (.ret false (.var 2)) .nil)))⟩
def q_is_whole_by : MP.DefI := ⟨1, 1, false, (.cons (.ret false (.cmp .eq (.callB .len (.cons (.callF 7 (.cons (.var 0) (.cons (.lit (.int 0)) .nil))) .nil)) (.ix (.var 0) (.lit (.int 0))))) .nil)⟩
def q_on_piece : MP.DefI := ⟨2, 6, false, (.cons (.asg (.name 2) (.callB .dict (.cons (.comp (.pair (.cons (.name 3) (.cons (.name 4) .nil))) (.enum (.var 1)) .nil (.tup (.cons (.var 4) (.cons (.var 3) .nil))) [3, 4]) .nil))) (.cons (.ret false (.tup (.cons (.callB .len (.cons (.var 1) .nil)) (.cons (.callB .tuple (.cons (.comp (.name 5) (.of (.ix (.var 0) (.lit (.int 1)))) .nil (.callB .tuple (.cons (.comp (.name 4) (.of (.var 1)) .nil (.ix (.var 2) (.ix (.var 5) (.var 4))) [4]) .nil)) [5]) .nil)) .nil)))) .nil))⟩
def q_sure_row : MP.DefI := ⟨1, 2, false, (.cons (.asg (.name 1) (.callF 3 (.cons (.var 0) .nil))) (.cons (.ifS (.notE (.callF 6 (.cons (.var 1) .nil))) (.cons (.raise 2 .nil) .nil) .nil) (.cons (.ret false (.var 1)) .nil)))⟩
def q_is_leading_of : MP.DefI := ⟨3, 6, false, (.cons (.ifS (.orE (.notE (.callF 4 (.cons (.var 2) (.cons (.lit (.int 0)) (.cons (.bin .sub (.ix (.var 1) (.lit (.int 0))) (.lit (.int 1))) .nil))))) (.cmp .ne (.callB .len (.cons (.var 2) .nil)) (.ix (.var 0) (.lit (.int 0))))) (.cons (.ret false (.lit (.bl false))) .nil) .nil) (.cons (.ret true (.callB .all (.cons (.comp2 (.pair (.cons (.name 4) (.cons (.name 5) .nil))) (.zip (.ix (.var 0) (.lit (.int 1))) (.ix (.var 1) (.lit (.int 1)))) .nil (.name 3) (.rng1 (.ix (.var 0) (.lit (.int 0)))) .nil (.cmp .eq (.ix (.var 2) (.ix (.var 4) (.var 3))) (.ix (.var 5) (.ix (.var 2) (.var 3)))) [4, 5, 3] [3]) .nil))) .nil))⟩
def q_sure_pair : MP.DefI := ⟨2, 4, false, (.cons (.par 2 3 (.callF 11 (.cons (.var 0) .nil)) (.callF 11 (.cons (.var 1) .nil))) (.cons (.ifS (.cmp .ne (.callB .len (.cons (.ix (.var 2) (.lit (.int 1))) .nil)) (.callB .len (.cons (.ix (.var 3) (.lit (.int 1))) .nil))) (.cons (.raise 0 .nil) .nil) .nil) (.cons (.ret false (.tup (.cons (.var 2) (.cons (.var 3) .nil)))) .nil)))⟩
def q_sure_over : MP.DefI := ⟨2, 4, false, (.cons (.asg (.pair (.cons (.name 2) (.cons (.name 3) .nil))) (.callF 13 (.cons (.var 0) (.cons (.var 1) .nil)))) (.cons (.ifS (.orE (.notE (.callF 9 (.cons (.var 2) .nil))) (.notE (.callF 9 (.cons (.var 3) .nil)))) (.cons (.raise 0 .nil) .nil) .nil) (.cons (.ret false (.tup (.cons (.var 2) (.cons (.var 3) .nil)))) .nil)))⟩
def q_pulled_by : MP.DefI := ⟨2, 8, false, (.cons (.asg (.pair (.cons (.name 2) (.cons (.name 3) .nil))) (.tup (.cons (.ix (.var 1) (.lit (.int 0))) (.cons (.newL .nil) .nil)))) (.cons (.forS (.pair (.cons (.name 4) (.cons (.name 5) .nil))) (.zip (.ix (.var 0) (.lit (.int 1))) (.ix (.var 1) (.lit (.int 1)))) (.cons (.expr (.meth .append (.var 3) (.cons (.callB .tuple (.cons (.comp2 (.name 6) (.rng1 (.ix (.var 0) (.lit (.int 0)))) .nil (.name 7) (.rng1 (.var 2)) .nil (.bin .add (.bin .mul (.ix (.var 4) (.var 6)) (.var 2)) (.ix (.var 5) (.var 7))) [6, 7] [7]) .nil)) .nil))) .nil)) (.cons (.ret false (.tup (.cons (.bin .mul (.ix (.var 0) (.lit (.int 0))) (.var 2)) (.cons (.callB .tuple (.cons (.var 3) .nil)) .nil)))) .nil)))⟩
def q_is_leading : MP.DefI := ⟨3, 5, false, (.cons (.asg (.pair (.cons (.name 3) (.cons (.name 4) .nil))) (.callF 14 (.cons (.var 0) (.cons (.var 1) .nil)))) (.cons (.ret false (.callF 12 (.cons (.var 3) (.cons (.var 4) (.cons (.var 2) .nil))))) .nil))⟩
def q_pulled_pieces : MP.DefI := ⟨2, 7, false, (.cons (.asg (.pair (.cons (.name 3) (.cons (.name 4) .nil))) (.callF 13 (.cons (.var 0) (.cons (.var 1) .nil)))) (.cons (.asg (.name 2) (.callF 15 (.cons (.var 3) (.cons (.var 4) .nil)))) (.cons (.ret true (.callB .tuple (.cons (.comp (.name 5) (.of (.callF 8 (.cons (.var 2) .nil))) .nil (.callB .tuple (.cons (.comp (.name 6) (.of (.var 5)) .nil (.tup (.cons (.bin .fdiv (.var 6) (.ix (.var 4) (.lit (.int 0)))) (.cons (.bin .mod (.var 6) (.ix (.var 4) (.lit (.int 0)))) .nil))) [6]) .nil)) [5]) .nil))) .nil)))⟩
def q_pulled_rows : MP.DefI := ⟨2, 7, false, (.cons (.asg (.pair (.cons (.name 4) (.cons (.name 5) .nil))) (.callF 13 (.cons (.var 0) (.cons (.var 1) .nil)))) (.cons (.asg (.name 2) (.callF 15 (.cons (.var 4) (.cons (.var 5) .nil)))) (.cons (.asg (.name 3) (.callF 8 (.cons (.var 2) .nil))) (.cons (.ifS (.callB .any (.cons (.comp (.name 6) (.of (.var 3)) .nil (.cmp .gt (.callB .len (.cons (.var 6) .nil)) (.lit (.int 24))) [6]) .nil)) (.cons (.raise 1 .nil) .nil) .nil) (.cons (.ret true (.callB .tuple (.cons (.comp (.name 6) (.of (.var 3)) .nil (.callF 10 (.cons (.var 2) (.cons (.var 6) .nil))) [6]) .nil))) .nil)))))⟩
def q_pulled_lots : MP.DefI := ⟨2, 13, false, (.cons (.asg (.pair (.cons (.name 5) (.cons (.name 6) .nil))) (.callF 13 (.cons (.var 0) (.cons (.var 1) .nil)))) (.cons (.asg (.name 2) (.callF 15 (.cons (.var 5) (.cons (.var 6) .nil)))) (.cons (.asg (.name 3) (.newL .nil)) (.cons (.forS (.name 4) (.of (.ix (.var 2) (.lit (.int 1)))) (.cons (.par 8 9 (.thaw (.callB .dict (.cons (.comp (.name 12) (.of (.var 4)) .nil (.tup (.cons (.var 12) (.cons (.lit (.bl true)) .nil))) [12]) .nil))) (.newL .nil)) (.cons (.forS (.name 7) (.rng1 (.ix (.var 2) (.lit (.int 0)))) (.cons (.par 10 11 (.lit (.int 0)) (.var 7)) (.cons (.whileS (.cmp .inn (.var 11) (.var 8)) (.cons (.delIx (.var 8) (.var 11)) (.cons (.par 10 11 (.bin .add (.var 10) (.lit (.int 1))) (.ix (.var 4) (.var 11))) .nil))) (.cons (.ifS (.cmp .gt (.var 10) (.lit (.int 0))) (.cons (.expr (.meth .append (.var 9) (.cons (.var 10) .nil))) .nil) .nil) .nil)))) (.cons (.expr (.meth .append (.var 3) (.cons (.callB .tuple (.cons (.rev (.callB .sorted (.cons (.var 9) .nil))) .nil)) .nil))) .nil)))) (.cons (.ret true (.callB .tuple (.cons (.var 3) .nil))) .nil)))))⟩
def q_least_over : MP.DefI := ⟨2, 7, false, (.cons (.asg (.pair (.cons (.name 4) (.cons (.name 5) .nil))) (.callF 14 (.cons (.var 0) (.cons (.var 1) .nil)))) (.cons (.asg (.name 2) (.callF 15 (.cons (.var 4) (.cons (.var 5) .nil)))) (.cons (.asg (.name 3) (.ix (.callB .min (.cons (.comp (.name 6) (.of (.callF 8 (.cons (.var 2) .nil))) .nil (.tup (.cons (.callB .len (.cons (.var 6) .nil)) (.cons (.var 6) .nil))) [6]) .nil)) (.lit (.int 1)))) (.cons (.ifS (.cmp .gt (.callB .len (.cons (.var 3) .nil)) (.lit (.int 24))) (.cons (.raise 1 .nil) .nil) .nil) (.cons (.ret false (.callF 10 (.cons (.var 2) (.cons (.var 3) .nil)))) .nil)))))⟩
def q_sides_of : MP.DefI := ⟨3, 10, false, (.cons (.asg (.pair (.cons (.name 5) (.cons (.name 6) .nil))) (.callF 13 (.cons (.var 0) (.cons (.var 1) .nil)))) (.cons (.asg (.name 3) (.callF 3 (.cons (.var 2) .nil))) (.cons (.asg (.name 4) (.comp (.name 7) (.of (.callF 8 (.cons (.callF 15 (.cons (.var 5) (.cons (.var 6) .nil))) .nil))) .nil (.callB .tuple (.cons (.comp (.name 8) (.of (.var 7)) .nil (.tup (.cons (.bin .fdiv (.var 8) (.ix (.var 6) (.lit (.int 0)))) (.cons (.bin .mod (.var 8) (.ix (.var 6) (.lit (.int 0)))) .nil))) [8]) .nil)) [7])) (.cons (.ifS (.cmp .notIn (.var 3) (.var 4)) (.cons (.raise 2 .nil) .nil) .nil) (.cons (.ret false (.tup (.cons (.callB .tuple (.cons (.comp (.name 9) (.of (.var 3)) .nil (.ix (.var 9) (.lit (.int 0))) [9]) .nil)) (.cons (.callB .tuple (.cons (.comp (.name 9) (.of (.var 3)) .nil (.ix (.var 9) (.lit (.int 1))) [9]) .nil)) .nil)))) .nil)))))⟩
def q_image_sizes : MP.DefI := ⟨2, 5, false, (.cons (.asg (.pair (.cons (.name 2) (.cons (.name 3) .nil))) (.callF 13 (.cons (.var 0) (.cons (.var 1) .nil)))) (.cons (.ret true (.callB .tuple (.cons (.callB .sorted (.cons (.comp (.name 4) (.of (.callF 8 (.cons (.callF 15 (.cons (.var 2) (.cons (.var 3) .nil))) .nil))) .nil (.callB .len (.cons (.var 4) .nil)) [4]) .nil)) .nil))) .nil))⟩
def q_l_box : MP.DefI := ⟨2, 3, true, (.cons (.asg (.name 2) (.ite (.cmp .lt (.var 1) (.callB .len (.cons (.var 0) .nil))) (.ix (.var 0) (.var 1)) (.lit (.int 0)))) (.cons (.ret true (.lst (.cons (.bin .mul (.callB .abs (.cons (.var 2) .nil)) (.callB .int (.cons (.cmp .ge (.callB .abs (.cons (.var 2) .nil)) (.bin .pow (.lit (.int 10)) (.lit (.int 18)))) .nil))) (.cons (.bin .add (.bin .add (.bin .mod (.callB .int (.cons (.var 2) .nil)) (.lit (.int 2305843009213693951))) (.bin .mul (.lit (.int 39373)) (.var 1))) (.lit (.int 22171022))) (.cons (.lit (.int 0)) .nil))))) .nil))⟩
def q_l_take : MP.DefI := ⟨2, 6, false, (.cons (.ifS (.cmp .gt (.ix (.var 0) (.lit (.int 0))) (.lit (.int 0))) (.cons (.asg (.name 5) (.bin .mod (.callB .int (.cons (.ix (.var 0) (.lit (.int 0))) .nil)) (.var 1))) (.cons (.setIx (.var 0) (.lit (.int 0)) (.bin .fdiv (.ix (.var 0) (.lit (.int 0))) (.var 1))) (.cons (.ret false (.var 5)) .nil))) .nil) (.cons (.setIx (.var 0) (.lit (.int 2)) (.bin .add (.ix (.var 0) (.lit (.int 2))) (.lit (.int 1)))) (.cons (.asg (.name 2) (.bin .mod (.callB .int (.cons (.bin .mul (.bin .add (.ix (.var 0) (.lit (.int 1))) (.bin .mul (.lit (.int 48271)) (.ix (.var 0) (.lit (.int 2))))) (.bin .add (.lit (.int 39373)) (.ix (.var 0) (.lit (.int 2))))) .nil)) (.lit (.int 2147483647)))) (.cons (.asg (.name 3) (.bin .add (.bin .mod (.callB .int (.cons (.var 2) .nil)) (.lit (.int 40009))) (.lit (.int 7)))) (.cons (.asg (.name 4) (.bin .mod (.callB .int (.cons (.bin .mul (.bin .add (.bin .add (.var 2) (.ix (.var 0) (.lit (.int 2)))) (.bin .fdiv (.ix (.var 0) (.lit (.int 1))) (.lit (.int 1000003)))) (.var 3)) .nil)) (.lit (.int 2147483629)))) (.cons (.ret true (.bin .mod (.callB .int (.cons (.bin .fdiv (.bin .mod (.callB .int (.cons (.bin .add (.bin .mul (.var 4) (.lit (.int 48271))) (.var 2)) .nil)) (.lit (.int 2147483587))) (.lit (.int 64))) .nil)) (.var 1))) .nil))))))⟩
def q_l_cells : MP.DefI := ⟨2, 6, false, (.cons (.asg (.name 2) (.thaw (.orE (.callB .list (.cons (.sl (.var 0) .nil (.cons (.var 1) .nil)) .nil)) (.lst (.cons (.lit (.int 0)) .nil))))) (.cons (.forS (.pair (.cons (.name 3) (.cons (.name 4) .nil))) (.enum (.sl (.var 0) (.cons (.var 1) .nil) (.cons (.lit (.int 63)) .nil))) (.cons (.asg (.name 5) (.bin .mod (.callB .int (.cons (.var 3) .nil)) (.var 1))) (.cons (.setIx (.var 2) (.var 5) (.bin .add (.ix (.var 2) (.var 5)) (.bin .mul (.var 4) (.bin .add (.var 3) (.lit (.int 2)))))) .nil))) (.cons (.ret false (.var 2)) .nil)))⟩
def q_l_pick : MP.DefI := ⟨3, 6, false, (.cons (.par 4 5 (.thaw (.callB .list (.cons (.var 1) .nil))) (.newL .nil)) (.cons (.forS (.name 3) (.rng1 (.callB .min2 (.cons (.callB .int (.cons (.var 2) .nil)) (.cons (.callB .len (.cons (.var 4) .nil)) .nil)))) (.cons (.expr (.meth .append (.var 5) (.cons (.meth .pop (.var 4) (.cons (.callF 24 (.cons (.var 0) (.cons (.callB .len (.cons (.var 4) .nil)) .nil))) .nil)) .nil))) .nil)) (.cons (.ret false (.var 5)) .nil)))⟩
def q_l_same : MP.DefI := ⟨2, 4, false, (.cons (.ifS (.isi (.var 1) [.list, .tuple]) (.cons (.ifS (.orE (.cmp .ne (.isi (.var 0) [.list]) (.isi (.var 1) [.list])) (.cmp .ne (.isi (.var 0) [.tuple]) (.isi (.var 1) [.tuple]))) (.cons (.ret false (.lit (.bl false))) .nil) .nil) (.cons (.ret false (.andE (.cmp .eq (.callB .len (.cons (.var 0) .nil)) (.callB .len (.cons (.var 1) .nil))) (.callB .all (.cons (.comp (.pair (.cons (.name 2) (.cons (.name 3) .nil))) (.zip (.var 0) (.var 1)) .nil (.callF 27 (.cons (.var 2) (.cons (.var 3) .nil))) [2, 3]) .nil)))) .nil)) .nil) (.cons (.ifS (.cmp .isN (.var 1) (.lit (.non))) (.cons (.ret false (.cmp .isN (.var 0) (.lit (.non)))) .nil) .nil) (.cons (.ifS (.isi (.var 1) [.bool, .str]) (.cons (.ret false (.andE (.cmp .eq (.isi (.var 0) [.bool]) (.isi (.var 1) [.bool])) (.andE (.cmp .eq (.isi (.var 0) [.str]) (.isi (.var 1) [.str])) (.cmp .eq (.var 0) (.var 1))))) .nil) .nil) (.cons (.ret false (.andE (.isi (.var 0) [.int]) (.andE (.notE (.isi (.var 0) [.bool])) (.cmp .eq (.var 0) (.var 1))))) .nil))))⟩
def q_l_twos : MP.DefI := ⟨2, 5, false, (.cons (.asg (.name 2) (.newL .nil)) (.cons (.forS (.name 3) (.of (.var 0)) (.cons (.expr (.meth .extend (.var 2) (.cons (.comp (.name 4) (.of (.var 1)) .nil (.tup (.cons (.var 3) (.cons (.var 4) .nil))) [4]) .nil))) .nil)) (.cons (.ret false (.var 2)) .nil)))⟩
def q_l_order : MP.DefI := ⟨2, 2, false, (.cons (.ret true (.callB .tuple (.cons (.callF 26 (.cons (.var 0) (.cons (.rngL (.lit (.int 0)) (.var 1)) (.cons (.var 1) .nil)))) .nil))) .nil)⟩
def q_l_rounds : MP.DefI := ⟨1, 6, false, (.cons (.par 2 3 (.newL .nil) (.thaw (.emptyDict))) (.cons (.forS (.name 1) (.rng1 (.callB .len (.cons (.var 0) .nil))) (.cons (.ifS (.cmp .notIn (.var 1) (.var 3)) (.cons (.par 4 5 (.newL .nil) (.var 1)) (.cons (.whileS (.cmp .notIn (.var 5) (.var 3)) (.cons (.setIx (.var 3) (.var 5) (.lit (.bl true))) (.cons (.expr (.meth .append (.var 4) (.cons (.var 5) .nil))) (.cons (.asg (.name 5) (.ix (.var 0) (.var 5))) .nil)))) (.cons (.expr (.meth .append (.var 2) (.cons (.callB .tuple (.cons (.var 4) .nil)) .nil))) .nil))) .nil) .nil)) (.cons (.ret true (.callB .tuple (.cons (.var 2) .nil))) .nil)))⟩
def q_l_lots : MP.DefI := ⟨1, 2, false, (.cons (.ret true (.callB .tuple (.cons (.rev (.callB .sorted (.cons (.comp (.name 1) (.of (.callF 30 (.cons (.var 0) .nil))) .nil (.callB .len (.cons (.var 1) .nil)) [1]) .nil))) .nil))) .nil)⟩
def q_l_pieces : MP.DefI := ⟨1, 8, false, (.cons (.par 1 2 (.rngL (.lit (.int 0)) (.ix (.var 0) (.lit (.int 0)))) (.newL .nil)) (.cons (.whileS (.cmp .ne (.var 1) (.lst .nil)) (.cons (.asg (.pair (.cons (.name 3) (.cons (.name 4) .nil))) (.tup (.cons (.thaw (.emptyDict)) (.cons (.newL (.cons (.ix (.var 1) (.lit (.int 0))) .nil)) .nil)))) (.cons (.whileS (.cmp .ne (.var 4) (.lst .nil)) (.cons (.asg (.name 5) (.meth .pop (.var 4) .nil)) (.cons (.ifS (.cmp .notIn (.var 5) (.var 3)) (.cons (.setIx (.var 3) (.var 5) (.lit (.bl true))) (.cons (.expr (.meth .extend (.var 4) (.cons (.comp (.name 7) (.of (.ix (.var 0) (.lit (.int 1)))) .nil (.ix (.var 7) (.var 5)) [7]) .nil))) .nil)) .nil) .nil))) (.cons (.expr (.meth .append (.var 2) (.cons (.callB .tuple (.cons (.callB .sorted (.cons (.var 3) .nil)) .nil)) .nil))) (.cons (.asg (.name 1) (.comp (.name 6) (.of (.var 1)) (.cons (.cmp .notIn (.var 6) (.var 3)) .nil) (.var 6) [6])) .nil))))) (.cons (.ret true (.callB .tuple (.cons (.callB .sorted (.cons (.var 2) .nil)) .nil))) .nil)))⟩
def q_l_on : MP.DefI := ⟨2, 4, false, (.cons (.ret false (.tup (.cons (.callB .len (.cons (.var 1) .nil)) (.cons (.callB .tuple (.cons (.comp (.name 2) (.of (.ix (.var 0) (.lit (.int 1)))) .nil (.callB .tuple (.cons (.comp (.name 3) (.of (.var 1)) .nil (.meth .index (.var 1) (.cons (.ix (.var 2) (.var 3)) .nil)) [3]) .nil)) [2]) .nil)) .nil)))) .nil)⟩
def q_l_named : MP.DefI := ⟨2, 6, false, (.cons (.asg (.name 2) (.newL .nil)) (.cons (.forS (.name 3) (.of (.ix (.var 0) (.lit (.int 1)))) (.cons (.asg (.name 4) (.thaw (.bin .mul (.lst (.cons (.lit (.int 0)) .nil)) (.ix (.var 0) (.lit (.int 0)))))) (.cons (.forS (.name 5) (.rng1 (.ix (.var 0) (.lit (.int 0)))) (.cons (.setIx (.var 4) (.ix (.var 1) (.var 5)) (.ix (.var 1) (.ix (.var 3) (.var 5)))) .nil)) (.cons (.expr (.meth .append (.var 2) (.cons (.callB .tuple (.cons (.var 4) .nil)) .nil))) .nil)))) (.cons (.ret false (.tup (.cons (.ix (.var 0) (.lit (.int 0))) (.cons (.callB .tuple (.cons (.var 2) .nil)) .nil)))) .nil)))⟩
def q_l_any_row : MP.DefI := ⟨3, 4, false, (.cons (.ret false (.tup (.cons (.var 1) (.cons (.callB .tuple (.cons (.comp (.name 3) (.rng1 (.var 2)) .nil (.callF 29 (.cons (.var 0) (.cons (.var 1) .nil))) [3]) .nil)) .nil)))) .nil)⟩
def q_l_heard : MP.DefI := ⟨4, 6, false, (.cons (.asg (.pair (.cons (.name 4) (.cons (.name 5) .nil))) (.tup (.cons (.lit (.non)) (.cons (.lit (.non)) .nil)))) (.cons (.tryS (.cons (.ifS (.cmp .lt (.var 0) (.lit (.int 2))) (.cons (.asg (.name 5) (.ite (.cmp .eq (.var 0) (.lit (.int 0))) (.callF 20 (.cons (.var 1) (.cons (.var 2) .nil))) (.callF 21 (.cons (.var 1) (.cons (.var 2) (.cons (.var 3) .nil)))))) .nil) (.cons (.asg (.name 5) (.ite (.cmp .eq (.var 0) (.lit (.int 2))) (.callF 18 (.cons (.var 1) (.cons (.var 2) .nil))) (.callF 17 (.cons (.var 1) (.cons (.var 2) .nil))))) .nil)) .nil) (.cons 0 none (.lit (.str "none")) 4 (.cons 1 none (.lit (.str "many")) 4 (.cons 2 none (.lit (.str "unfit")) 4 .nil)))) (.cons (.ret false (.ite (.cmp .isN (.var 4) (.lit (.non))) (.var 5) (.var 4))) .nil)))⟩
def q_law : MP.DefI := ⟨1, 24, false, (.cons (.asg (.name 1) (.thaw (.callF 23 (.cons (.callF 25 (.cons (.var 0) (.cons (.lit (.int 1)) .nil))) (.cons (.lit (.int 0)) .nil))))) (.cons (.forS (.name 2) (.rng1 (.lit (.int 5))) (.cons (.asg (.name 4) (.callF 24 (.cons (.var 1) (.cons (.lit (.int 4)) .nil)))) (.cons (.par 15 16 (.callF 35 (.cons (.var 1) (.cons (.bin .add (.lit (.int 1)) (.callF 24 (.cons (.var 1) (.cons (.lit (.int 5)) .nil)))) (.cons (.var 4) .nil)))) (.callF 35 (.cons (.var 1) (.cons (.bin .add (.lit (.int 1)) (.callF 24 (.cons (.var 1) (.cons (.lit (.int 5)) .nil)))) (.cons (.var 4) .nil))))) (.cons (.ifS (.cmp .eq (.callF 24 (.cons (.var 1) (.cons (.lit (.int 3)) .nil))) (.lit (.int 0))) (.cons (.asg (.name 16) (.callF 34 (.cons (.var 15) (.cons (.callF 29 (.cons (.var 1) (.cons (.ix (.var 15) (.lit (.int 0))) .nil))) .nil)))) .nil) .nil) (.cons (.asg (.name 5) (.callF 28 (.cons (.rngL (.lit (.int 0)) (.ix (.var 15) (.lit (.int 0)))) (.cons (.rngL (.lit (.int 0)) (.ix (.var 16) (.lit (.int 0)))) .nil)))) (.cons (.asg (.name 6) (.tup (.cons (.callB .len (.cons (.var 5) .nil)) (.cons (.callB .tuple (.cons (.comp (.pair (.cons (.name 20) (.cons (.name 21) .nil))) (.zip (.ix (.var 15) (.lit (.int 1))) (.ix (.var 16) (.lit (.int 1)))) .nil (.callB .tuple (.cons (.comp (.pair (.cons (.name 22) (.cons (.name 23) .nil))) (.of (.var 5)) .nil (.meth .index (.var 5) (.cons (.tup (.cons (.ix (.var 20) (.var 22)) (.cons (.ix (.var 21) (.var 23)) .nil))) .nil)) [22, 23]) .nil)) [20, 21]) .nil)) .nil)))) (.cons (.asg (.name 7) (.callF 32 (.cons (.var 6) .nil))) (.cons (.asg (.name 8) (.callB .tuple (.cons (.comp (.name 18) (.of (.var 7)) .nil (.callB .tuple (.cons (.comp (.name 19) (.of (.var 18)) .nil (.ix (.var 5) (.var 19)) [19]) .nil)) [18]) .nil))) (.cons (.asg (.name 9) (.callB .tuple (.cons (.comp (.name 19) (.of (.var 7)) .nil (.callF 33 (.cons (.var 6) (.cons (.var 19) .nil))) [19]) .nil))) (.cons (.asg (.name 10) (.callB .tuple (.cons (.callB .sorted (.cons (.comp (.name 19) (.of (.var 7)) .nil (.callB .len (.cons (.var 19) .nil)) [19]) .nil)) .nil))) (.cons (.asg (.name 3) (.lst (.cons (.callF 17 (.cons (.var 15) (.cons (.var 16) .nil))) (.cons (.callF 22 (.cons (.var 15) (.cons (.var 16) .nil))) (.cons (.callF 19 (.cons (.var 15) (.cons (.var 16) .nil))) (.cons (.callF 36 (.cons (.lit (.int 2)) (.cons (.var 15) (.cons (.var 16) (.cons (.lit (.non)) .nil))))) .nil)))))) (.cons (.asg (.name 11) (.lst (.cons (.var 8) (.cons (.var 10) (.cons (.callB .tuple (.cons (.comp (.name 19) (.of (.ix (.var 6) (.lit (.int 1)))) .nil (.callF 31 (.cons (.var 19) .nil)) [19]) .nil)) (.cons (.ite (.cmp .lt (.ix (.var 10) (.neg (.lit (.int 1)))) (.lit (.int 25))) (.var 9) (.lit (.str "many"))) .nil)))))) (.cons (.ifS (.notE (.callF 27 (.cons (.var 3) (.cons (.var 11) .nil)))) (.cons (.ret false (.lit (.bl false))) .nil) .nil) (.cons (.asg (.name 12) (.callF 24 (.cons (.var 1) (.cons (.callB .len (.cons (.var 7) .nil)) .nil)))) (.cons (.asg (.name 13) (.tup (.cons (.callB .tuple (.cons (.comp (.name 19) (.of (.ix (.var 8) (.var 12))) .nil (.ix (.var 19) (.lit (.int 0))) [19]) .nil)) (.cons (.callB .tuple (.cons (.comp (.name 19) (.of (.ix (.var 8) (.var 12))) .nil (.ix (.var 19) (.lit (.int 1))) [19]) .nil)) .nil)))) (.cons (.ifS (.notE (.callF 27 (.cons (.lst (.cons (.callF 21 (.cons (.var 15) (.cons (.var 16) (.cons (.ix (.var 8) (.var 12)) .nil)))) (.cons (.callF 36 (.cons (.lit (.int 1)) (.cons (.var 15) (.cons (.var 16) (.cons (.sl (.ix (.var 8) (.var 12)) (.cons (.lit (.int 1)) .nil) .nil) .nil))))) .nil))) (.cons (.lst (.cons (.var 13) (.cons (.lit (.str "unfit")) .nil))) .nil)))) (.cons (.ret false (.lit (.bl false))) .nil) .nil) (.cons (.asg (.name 14) (.andE (.cmp .eq (.callB .len (.cons (.callF 32 (.cons (.var 15) .nil)) .nil)) (.lit (.int 1))) (.cmp .eq (.callB .len (.cons (.callF 32 (.cons (.var 16) .nil)) .nil)) (.lit (.int 1))))) (.cons (.ifS (.var 14) (.cons (.asg (.name 17) (.ix (.comp (.name 19) (.of (.var 9)) (.cons (.cmp .eq (.ix (.var 19) (.lit (.int 0))) (.ix (.var 10) (.lit (.int 0)))) .nil) (.var 19) [19]) (.lit (.int 0)))) (.cons (.ifS (.notE (.callF 27 (.cons (.callF 36 (.cons (.lit (.int 0)) (.cons (.var 15) (.cons (.var 16) (.cons (.lit (.non)) .nil))))) (.cons (.ite (.cmp .lt (.ix (.var 10) (.lit (.int 0))) (.lit (.int 25))) (.var 17) (.lit (.str "many"))) .nil)))) (.cons (.ret false (.lit (.bl false))) .nil) .nil) (.cons (.ifS (.andE (.cmp .lt (.callB .len (.cons (.ix (.var 8) (.var 12)) .nil)) (.lit (.int 25))) (.notE (.callF 27 (.cons (.lst (.cons (.callF 16 (.cons (.ix (.var 9) (.var 12)) (.cons (.var 15) (.cons (.ix (.var 13) (.lit (.int 0))) .nil)))) (.cons (.callF 16 (.cons (.ix (.var 9) (.var 12)) (.cons (.var 16) (.cons (.ix (.var 13) (.lit (.int 1))) .nil)))) .nil))) (.cons (.lst (.cons (.lit (.bl true)) (.cons (.lit (.bl true)) .nil))) .nil))))) (.cons (.ret false (.lit (.bl false))) .nil) .nil) .nil))) (.cons (.ifS (.notE (.callF 27 (.cons (.callF 36 (.cons (.lit (.int 0)) (.cons (.var 15) (.cons (.var 16) (.cons (.lit (.non)) .nil))))) (.cons (.lit (.str "none")) .nil)))) (.cons (.ret false (.lit (.bl false))) .nil) .nil) .nil)) .nil)))))))))))))))))) (.cons (.asg (.name 3) (.lst (.cons (.callF 36 (.cons (.lit (.int 3)) (.cons (.tup (.cons (.lit (.int 2)) (.cons (.tup .nil) .nil))) (.cons (.tup (.cons (.lit (.int 1)) (.cons (.tup (.cons (.tup (.cons (.lit (.int 0)) .nil)) .nil)) .nil))) (.cons (.lit (.non)) .nil))))) (.cons (.callF 36 (.cons (.lit (.int 0)) (.cons (.tup (.cons (.lit (.int 2)) (.cons (.tup (.cons (.tup (.cons (.lit (.int 1)) (.cons (.lit (.int 0)) .nil))) .nil)) .nil))) (.cons (.tup (.cons (.lit (.int 2)) (.cons (.tup .nil) .nil))) (.cons (.lit (.non)) .nil))))) .nil)))) (.cons (.asg (.name 3) (.bin .add (.var 3) (.lst (.cons (.callF 36 (.cons (.lit (.int 3)) (.cons (.tup (.cons (.lit (.int 2)) (.cons (.tup .nil) .nil))) (.cons (.tup (.cons (.lit (.int 1)) (.cons (.tup .nil) .nil))) (.cons (.lit (.non)) .nil))))) (.cons (.callF 36 (.cons (.lit (.int 2)) (.cons (.tup (.cons (.lit (.int 24)) (.cons (.tup (.cons (.callB .tuple (.cons (.comp (.name 19) (.rng1 (.lit (.int 24))) .nil (.bin .mod (.bin .add (.var 19) (.lit (.int 1))) (.lit (.int 24))) [19]) .nil)) .nil)) .nil))) (.cons (.tup (.cons (.lit (.int 5)) (.cons (.tup (.cons (.tup (.cons (.lit (.int 1)) (.cons (.lit (.int 2)) (.cons (.lit (.int 3)) (.cons (.lit (.int 4)) (.cons (.lit (.int 0)) .nil)))))) .nil)) .nil))) (.cons (.lit (.non)) .nil))))) .nil))))) (.cons (.ret false (.callF 27 (.cons (.var 3) (.cons (.lst (.cons (.lit (.str "none")) (.cons (.lit (.str "none")) (.cons (.tup (.cons (.tup (.cons (.tup (.cons (.lit (.int 0)) (.cons (.lit (.int 0)) .nil))) .nil)) (.cons (.tup (.cons (.tup (.cons (.lit (.int 1)) (.cons (.lit (.int 0)) .nil))) .nil)) .nil))) (.cons (.lit (.str "many")) .nil))))) .nil)))) .nil)))))⟩
theorem p_is_number : pg.P 0 = some q_is_number := by kernel_rfl
theorem p_is_within : pg.P 1 = some q_is_within := by kernel_rfl
theorem p_is_long : pg.P 2 = some q_is_long := by kernel_rfl
theorem p_tupled : pg.P 3 = some q_tupled := by kernel_rfl
theorem p_are_within : pg.P 4 = some q_are_within := by kernel_rfl
theorem p_is_order_of : pg.P 5 = some q_is_order_of := by kernel_rfl
theorem p_is_row_of : pg.P 6 = some q_is_row_of := by kernel_rfl
theorem p_piece_from : pg.P 7 = some q_piece_from := by kernel_rfl
theorem p_pieces_by : pg.P 8 = some q_pieces_by := by kernel_rfl
theorem p_is_whole_by : pg.P 9 = some q_is_whole_by := by kernel_rfl
theorem p_on_piece : pg.P 10 = some q_on_piece := by kernel_rfl
theorem p_sure_row : pg.P 11 = some q_sure_row := by kernel_rfl
theorem p_is_leading_of : pg.P 12 = some q_is_leading_of := by kernel_rfl
theorem p_sure_pair : pg.P 13 = some q_sure_pair := by kernel_rfl
theorem p_sure_over : pg.P 14 = some q_sure_over := by kernel_rfl
theorem p_pulled_by : pg.P 15 = some q_pulled_by := by kernel_rfl
theorem p_is_leading : pg.P 16 = some q_is_leading := by kernel_rfl
theorem p_pulled_pieces : pg.P 17 = some q_pulled_pieces := by kernel_rfl
theorem p_pulled_rows : pg.P 18 = some q_pulled_rows := by kernel_rfl
theorem p_pulled_lots : pg.P 19 = some q_pulled_lots := by kernel_rfl
theorem p_least_over : pg.P 20 = some q_least_over := by kernel_rfl
theorem p_sides_of : pg.P 21 = some q_sides_of := by kernel_rfl
theorem p_image_sizes : pg.P 22 = some q_image_sizes := by kernel_rfl
theorem p_l_box : pg.P 23 = some q_l_box := by kernel_rfl
theorem p_l_take : pg.P 24 = some q_l_take := by kernel_rfl
theorem p_l_cells : pg.P 25 = some q_l_cells := by kernel_rfl
theorem p_l_pick : pg.P 26 = some q_l_pick := by kernel_rfl
theorem p_l_same : pg.P 27 = some q_l_same := by kernel_rfl
theorem p_l_twos : pg.P 28 = some q_l_twos := by kernel_rfl
theorem p_l_order : pg.P 29 = some q_l_order := by kernel_rfl
theorem p_l_rounds : pg.P 30 = some q_l_rounds := by kernel_rfl
theorem p_l_lots : pg.P 31 = some q_l_lots := by kernel_rfl
theorem p_l_pieces : pg.P 32 = some q_l_pieces := by kernel_rfl
theorem p_l_on : pg.P 33 = some q_l_on := by kernel_rfl
theorem p_l_named : pg.P 34 = some q_l_named := by kernel_rfl
theorem p_l_any_row : pg.P 35 = some q_l_any_row := by kernel_rfl
theorem p_l_heard : pg.P 36 = some q_l_heard := by kernel_rfl
theorem p_law : pg.P 37 = some q_law := by kernel_rfl
end Hd

namespace Hd
open MP PySem L2 PySem.Spec PyProof.Rows
abbrev Pg := pg.P
variable {κ : Bool} {L n : Nat}
theorem g_within {i l u : Int} (h1 : l ≤ i) (h2 : i ≤ u) : Gv κ Pg (L + 2) i_is_within [.int i, .int l, .int u] (.bl true) := by
  have := within_int (κ := κ) (L := L) p_is_number p_is_within i l u
  rwa [decide_eq_true h1, decide_eq_true h2] at this
theorem g_isord {o : Or n} (h : n ≤ 1000) : Gv κ Pg (L + 4) i_is_order_of [.int (n : Nat), eO o] (.bl true) := isord_gv p_is_number p_is_within p_are_within p_is_order_of o.2 h
end Hd

namespace Hd
open MP PySem L2 PySem.Spec PyProof.Rows
variable {κ : Bool} {L n : Nat}
theorem g_is_long {ds : List D} {k : Int} (hk : (ds.length : Nat) = k) : Gv κ Pg (L + 1) i_is_long [.tup ds, .int k] (.bl true) := fun m w =>
  c_okl p_is_long rfl (x_ret (a_andB (t := true) (u := true) (a_isi (a_var rfl) rfl) fun _ => a_cmp (a_callB (s_cons (a_var rfl) s_nil) (len_tup ds _)) (a_var rfl) (by rw [MP.eq_int, hk, beq_self_eq_true]))) rfl (cl_fx w (Fx.bl _))
theorem g_is_long2 {a b : D} : Gv κ Pg (L + 1) i_is_long [.tup [a, b], .int 2] (.bl true) := g_is_long rfl
end Hd

namespace Hd
open MP PySem L2 PySem.Spec PyProof.Rows
variable {κ : Bool} {L n : Nat}
def Good (κ : Bool) (o : O) : Prop := (∀ k, bndO k o = true) ∧ (κ = true → noO o = true)
theorem good_lst {ds : List D} (h : ∀ d ∈ ds, Fk κ d) : Good κ (.lst ds) := ⟨fun k => bndDs_iff.mpr fun d hd => (h d hd).1 k, fun hk => noLs_iff.mpr fun d hd => (h d hd).2 hk⟩
theorem fk_nI (xs : List Nat) : ∀ d ∈ nI xs, Fk κ d := fk_map (fun (n : Nat) => Fk.int (n : Int)) xs
theorem good_nI (xs : List Nat) : Good κ (.lst (nI xs)) := good_lst (fk_nI xs)
theorem good_dic (ks : List Nat) : Good κ (.dic (kvT ks)) := by
  have h : ∀ d ∈ (kvT ks).map (·.2), Fk κ d := fun d hd => by
    simp only [kvT, List.map_map, List.mem_map] at hd
    obtain ⟨k, _, rfl⟩ := hd
    exact Fk.bl true
  exact ⟨fun k => bndDs_iff.mpr fun d hd => (h d hd).1 k, fun hk => noLs_iff.mpr fun d hd => (h d hd).2 hk⟩
def freeN (n : Nat) (ks : List Nat) : Nat := (List.range n).countP fun x => !decide (x ∈ ks)
theorem freeN_add {ks : List Nat} {a : Nat} (ha : a < n) (h : a ∉ ks) : freeN n (ks ++ [a]) < freeN n ks := by
  refine countP_lt (fun x _ hx => ?_) ⟨a, List.mem_range.mpr ha, by simpa using h, by simp⟩
  simp at hx ⊢
  exact hx.1
theorem freeN_le (ks : List Nat) : freeN n ks ≤ n := by
  have := List.countP_le_length (p := fun x => !decide (x ∈ ks)) (l := List.range n)
  simpa [freeN] using this
end Hd

namespace Hd
open MP PySem L2 PySem.Spec PyProof.Rows
variable {κ : Bool} {L n : Nat}
def leafB : D → Bool
  | .non | .bl _ | .int _ | .str _ => true
  | _ => false
def tt : Nat → D → Bool
  | 0, d => leafB d
  | k + 1, .tup ds => decide (ds.length ≤ 1000000) && ds.all (tt k)
  | _ + 1, d => leafB d
theorem leaf_fk {d : D} (h : leafB d = true) : Fk κ d := by
  cases d <;> first | (simp [leafB] at h; done) | exact ⟨fun _ => by simp [bndD], fun _ => by simp [noL]⟩
theorem tt_fk : ∀ (k : Nat) (d : D), tt k d = true → Fk κ d
  | 0, d, h => leaf_fk h
  | k + 1, .tup ds, h => by
    simp only [tt, Bool.and_eq_true, List.all_eq_true] at h
    exact Fk.tup fun d hd => tt_fk k d (h.2 d hd)
  | k + 1, .non, h | k + 1, .bl _, h | k + 1, .int _, h | k + 1, .str _, h => leaf_fk rfl
  | k + 1, .lst _, h | k + 1, .wtup _, h | k + 1, .scr _, h | k + 1, .ref _, h | k + 1, .fn _, h | k + 1, .ty _, h => by simp [tt, leafB] at h
theorem tup_leaf {d : D} (h : leafB d = true) : Gv κ Pg (L + 1) i_tupled [d] d := fun m w => by
  refine c_okl (l := []) p_tupled rfl (x_ret (a_iteF (a_isi (c := false) (a_var rfl) ?_) rfl (a_var rfl))) rfl (cl_fx w (leaf_fk (κ := κ) h).1)
  cases d <;> first | rfl | (simp [leafB] at h; done)
theorem g_tupled : ∀ (k L : Nat) (d : D), tt k d = true → Gv κ Pg (L + k + 1) i_tupled [d] d
  | 0, L, d, h => tup_leaf h
  | k + 1, L, .tup ds, h => fun m w => by
    simp only [tt, Bool.and_eq_true, decide_eq_true_eq, List.all_eq_true] at h
    have hc := a_comp0 (C := MP.run Pg (L + k + 1)) (κ := κ) (env := [some (.tup ds), none]) (m1 := m ++ []) (m := m ++ []) (src := .of (.var 0)) (elt := .callF i_tupled (.cons (.var 1) .nil)) (own := [1]) (tg := .name 1) (g := id) (f := id) ds w.nil (r_tup (a_var rfl)) (fun _ _ => by rw [List.map_id]; rfl) (fun y hy => ⟨_, rfl, fun m' acc _ w' => ⟨a_callF (s_cons (a_var rfl) s_nil) (g_tupled k L y (h.2 y hy) m' w'), tt_fk k y (h.2 y hy)⟩⟩) h.1
    rw [List.map_id] at hc
    exact c_okl (l := []) p_tupled rfl (x_ret (a_iteT (a_isi (c := true) (a_var rfl) rfl) rfl (a_callB (s_cons hc s_nil) (tuple_lst ds _)))) rfl (cl_fx w (tt_fk (κ := κ) (k + 1) (.tup ds) (by simp only [tt, Bool.and_eq_true, decide_eq_true_eq, List.all_eq_true]; exact h)).1)
  | k + 1, L, .non, h | k + 1, L, .bl _, h | k + 1, L, .int _, h | k + 1, L, .str _, h => tup_leaf rfl
  | k + 1, L, .lst _, h | k + 1, L, .wtup _, h | k + 1, L, .scr _, h | k + 1, L, .ref _, h | k + 1, L, .fn _, h | k + 1, L, .ty _, h => by simp [tt, leafB] at h
theorem tt_map {α : Type} {f : α → D} {k : Nat} {xs : List α} (hl : xs.length ≤ 1000000) (h : ∀ x ∈ xs, tt k (f x) = true) : tt (k + 1) (.tup (xs.map f)) = true := by
  simp only [tt, List.length_map, Bool.and_eq_true, decide_eq_true_eq, List.all_eq_true]
  refine ⟨hl, fun d hd => ?_⟩
  obtain ⟨x, hx, rfl⟩ := List.mem_map.mp hd
  exact h x hx
theorem tt_o {o : Or n} (hn : n ≤ 1000) : tt 1 (eO o) = true := tt_map (by rw [o.2.1]; omega) fun _ _ => rfl
theorem tt_os {os : List (Or n)} (hn : n ≤ 1000) (hl : os.length ≤ 1000) : tt 2 (eOs os) = true := tt_map (by omega) fun _ _ => tt_o hn
theorem tt_r {os : List (Or n)} (hn : n ≤ 1000) (hl : os.length ≤ 1000) : tt 3 (eR n os) = true := by
  have := tt_os hn hl
  simp only [tt, Bool.and_eq_true, decide_eq_true_eq, List.all_eq_true] at this ⊢
  refine ⟨by simp, fun d hd => ?_⟩
  rcases List.mem_cons.mp hd with rfl | hd
  · rfl
  · rw [List.mem_singleton.mp hd]
    simp only [tt, Bool.and_eq_true, decide_eq_true_eq, List.all_eq_true]
    exact this
end Hd

namespace Hd
open MP PySem L2 PySem.Spec PyProof.Rows
variable {κ : Bool} {L n : Nat}
theorem g_is_row {os : List (Or n)} (h1 : 1 ≤ n) (h2 : n ≤ 24) (hl : os.length ≤ 60) : Gv κ Pg (L + 5) i_is_row_of [eR n os] (.bl true) := by
  intro m w
  refine' c_okl (l := []) p_is_row_of rfl (x_ifF (m1 := m ++ []) ?c ?ct (x_retV (m1 := m ++ []) ?r ?re)) ?f ?cl
  case c => (repeat' (first | (with_reducible exact Gv.at (g_is_long2) (by first | assumption | exact WF.nil (by assumption))) | (with_reducible exact Gv.at (g_within (by omega) (by omega)) (by first | assumption | exact WF.nil (by assumption))) | ((with_reducible apply a_var); exact rfl) | (with_reducible exact a_lit) | (with_reducible exact s_nil) | (with_reducible apply s_cons) | (with_reducible apply a_and2) | (with_reducible apply a_or2) | (with_reducible apply a_notB) | (with_reducible apply a_isi) | (with_reducible apply a_ix) | (with_reducible apply a_cmp) | (with_reducible apply a_cmp2) | (with_reducible apply a_callF) | (with_reducible apply a_tup) | (with_reducible apply a_lst) | (with_reducible apply a_bin) | (with_reducible apply a_neg) | (with_reducible apply a_callB) | (with_reducible exact t_nil) | (with_reducible apply t_oneB) | ((with_reducible show isAny _ _ _ = _); exact rfl) | ((with_reducible show Nat.ble _ _ = true); exact rfl) | (with_reducible exact ix20) | (with_reducible exact ix21) | (with_reducible exact len_tupM) | (with_reducible exact len_lstM) | (with_reducible exact len_tN _ _) | (with_reducible exact len_tup _ _) | (with_reducible exact len_lst _ _) | (with_reducible exact bin_add _ _ _) | (with_reducible exact bin_sub _ _ _) | (with_reducible exact cmp_gt _ _ _) | (with_reducible exact cmp_lt _ _ _) | (with_reducible exact cmp_ge _ _ _) | (with_reducible exact cmp_le _ _ _) | (with_reducible exact MP.eq_int _ _ _) | (with_reducible exact MP.ne_int _ _ _) | (with_reducible exact tuple_lst _ _) | (with_reducible apply r_tup) | (with_reducible apply r_lst)))
  case ct => rfl
  case r => (repeat' (first | ((with_reducible apply a_comp0 os (g := eO) (f := fun _ => .bl true)); (case e1 => (repeat' (first | ((with_reducible apply a_var); exact rfl) | (with_reducible exact a_lit) | (with_reducible exact s_nil) | (with_reducible apply s_cons) | (with_reducible apply a_and2) | (with_reducible apply a_or2) | (with_reducible apply a_notB) | (with_reducible apply a_isi) | (with_reducible apply a_ix) | (with_reducible apply a_cmp) | (with_reducible apply a_cmp2) | (with_reducible apply a_callF) | (with_reducible apply a_tup) | (with_reducible apply a_lst) | (with_reducible apply a_bin) | (with_reducible apply a_neg) | (with_reducible apply a_callB) | (with_reducible exact t_nil) | (with_reducible apply t_oneB) | ((with_reducible show isAny _ _ _ = _); exact rfl) | ((with_reducible show Nat.ble _ _ = true); exact rfl) | (with_reducible exact ix20) | (with_reducible exact ix21) | (with_reducible exact len_tupM) | (with_reducible exact len_lstM) | (with_reducible exact len_tN _ _) | (with_reducible exact len_tup _ _) | (with_reducible exact len_lst _ _) | (with_reducible exact bin_add _ _ _) | (with_reducible exact bin_sub _ _ _) | (with_reducible exact cmp_gt _ _ _) | (with_reducible exact cmp_lt _ _ _) | (with_reducible exact cmp_ge _ _ _) | (with_reducible exact cmp_le _ _ _) | (with_reducible exact MP.eq_int _ _ _) | (with_reducible exact MP.ne_int _ _ _) | (with_reducible exact tuple_lst _ _) | (with_reducible apply r_tup) | (with_reducible apply r_lst)))); (case w => first | assumption | exact WF.nil (by assumption)); (case e2 => exact fun _ _ => rfl); (case h => exact fun y hy => ⟨_, rfl, fun m' acc _ w' => ⟨by (repeat' (first | (with_reducible exact Gv.at (g_isord (by omega)) (by first | assumption | exact WF.nil (by assumption))) | ((with_reducible apply a_var); exact rfl) | (with_reducible exact a_lit) | (with_reducible exact s_nil) | (with_reducible apply s_cons) | (with_reducible apply a_and2) | (with_reducible apply a_or2) | (with_reducible apply a_notB) | (with_reducible apply a_isi) | (with_reducible apply a_ix) | (with_reducible apply a_cmp) | (with_reducible apply a_cmp2) | (with_reducible apply a_callF) | (with_reducible apply a_tup) | (with_reducible apply a_lst) | (with_reducible apply a_bin) | (with_reducible apply a_neg) | (with_reducible apply a_callB) | (with_reducible exact t_nil) | (with_reducible apply t_oneB) | ((with_reducible show isAny _ _ _ = _); exact rfl) | ((with_reducible show Nat.ble _ _ = true); exact rfl) | (with_reducible exact ix20) | (with_reducible exact ix21) | (with_reducible exact len_tupM) | (with_reducible exact len_lstM) | (with_reducible exact len_tN _ _) | (with_reducible exact len_tup _ _) | (with_reducible exact len_lst _ _) | (with_reducible exact bin_add _ _ _) | (with_reducible exact bin_sub _ _ _) | (with_reducible exact cmp_gt _ _ _) | (with_reducible exact cmp_lt _ _ _) | (with_reducible exact cmp_ge _ _ _) | (with_reducible exact cmp_le _ _ _) | (with_reducible exact MP.eq_int _ _ _) | (with_reducible exact MP.ne_int _ _ _) | (with_reducible exact tuple_lst _ _) | (with_reducible apply r_tup) | (with_reducible apply r_lst))), Fk.bl _⟩⟩); (case hl => omega)) | (with_reducible exact all_mapT fun _ _ => rfl) | ((with_reducible apply a_var); exact rfl) | (with_reducible exact a_lit) | (with_reducible exact s_nil) | (with_reducible apply s_cons) | (with_reducible apply a_and2) | (with_reducible apply a_or2) | (with_reducible apply a_notB) | (with_reducible apply a_isi) | (with_reducible apply a_ix) | (with_reducible apply a_cmp) | (with_reducible apply a_cmp2) | (with_reducible apply a_callF) | (with_reducible apply a_tup) | (with_reducible apply a_lst) | (with_reducible apply a_bin) | (with_reducible apply a_neg) | (with_reducible apply a_callB) | (with_reducible exact t_nil) | (with_reducible apply t_oneB) | ((with_reducible show isAny _ _ _ = _); exact rfl) | ((with_reducible show Nat.ble _ _ = true); exact rfl) | (with_reducible exact ix20) | (with_reducible exact ix21) | (with_reducible exact len_tupM) | (with_reducible exact len_lstM) | (with_reducible exact len_tN _ _) | (with_reducible exact len_tup _ _) | (with_reducible exact len_lst _ _) | (with_reducible exact bin_add _ _ _) | (with_reducible exact bin_sub _ _ _) | (with_reducible exact cmp_gt _ _ _) | (with_reducible exact cmp_lt _ _ _) | (with_reducible exact cmp_ge _ _ _) | (with_reducible exact cmp_le _ _ _) | (with_reducible exact MP.eq_int _ _ _) | (with_reducible exact MP.ne_int _ _ _) | (with_reducible exact tuple_lst _ _) | (with_reducible apply r_tup) | (with_reducible apply r_lst)))
  case re => rw [decide_eq_true (show (os.length : Int) ≤ 60 by omega)]; all_goals rfl
  case f => rfl
  case cl => exact cl_fx w (Fx.bl _)
theorem g_sure_row {os : List (Or n)} (h1 : 1 ≤ n) (h2 : n ≤ 24) (hl : os.length ≤ 60) : Gv κ Pg (L + 6) i_sure_row [eR n os] (eR n os) := fun m w =>
  c_okl (l := []) p_sure_row rfl (x_asg (a_callF (s_cons (a_var rfl) s_nil) (g_tupled 3 (L + 1) _ (tt_r (by omega) (by omega)) _ w.nil)) rfl (x_ifF (a_notB (a_callF (s_cons (a_var rfl) s_nil) (g_is_row h1 h2 hl _ w.nil))) rfl (x_ret (a_var rfl)))) rfl (cl_fx w (fk_r (κ := κ) os).1)
end Hd

namespace Hd
open MP PySem L2 PySem.Spec PyProof.Rows
variable {κ : Bool} {L n : Nat}
theorem ne_nilI {m : Mem} {l : List O} {j : Nat} {xs : List Nat} (hj : l[j]? = some (.lst (nI xs))) : cmpV .ne (m ++ l) (.ref (m.length + j)) (.lst []) = some (!decide (xs = [])) := by
  have h1 : pdV (m ++ l) (.ref (m.length + j)) = some (.list (xs.map Enc.p)) := by
    have h : pd0s (nI xs) = some (xs.map Enc.p) := pd0s_map (α := Nat) (e := fun (x : Nat) => D.int (x : Nat)) Enc.pd xs
    simp only [pdV, loc_get, hj, h, Option.map_some]
  have h2 : pdV (m ++ l) (.lst []) = some (.list []) := by
    show pd0 (.lst []) = _
    simp [pd0, pd0s]
  have h3 : SeqAt.shaped (.list (xs.map Enc.p)) = true := by
    unfold SeqAt.shaped
    rw [Bool.and_eq_true, decide_eq_true_eq]
    refine ⟨by simp only [PyData.canLay0]; exact lay_map Enc.lay xs, ?_⟩
    have := dep_map (Enc.depth (α := Nat)) xs
    simp only [PyData.depth]
    have e : Enc.dep Nat = 1 := rfl
    omega
  have h4 : PyData.eqv (.list (xs.map Enc.p)) (.list []) = decide (xs = []) := by
    cases xs <;> simp [PyData.eqv, PyData.eqvAll]
  simp only [cmpV, eqV2, h1, h2, h3, shaped_nil, Bool.and_true, if_true, h4, Option.map_some]
/-- one order's step of the walk -/
def pcStep (at_ : Nat) (s : List Nat × List Nat) (o : List Nat) : List Nat × List Nat := if o.getD at_ 0 ∈ s.1 then s else (s.1 ++ [o.getD at_ 0], s.2 ++ [o.getD at_ 0])
abbrev pcMem (m : Mem) (F st : List Nat) : Mem := m ++ [.dic (kvT F), .lst (nI st)]
def pcB : Sts := (.cons (.ifS (.cmp .notIn (.ix (.var 5) (.var 4)) (.var 2)) (.cons (.setIx (.var 2) (.ix (.var 5) (.var 4)) (.lit (.bl true))) (.cons (.expr (.meth .append (.var 3) (.cons (.ix (.var 5) (.var 4)) .nil))) .nil)) .nil) .nil)
structure PcI (os : List (Or n)) (s : Nat) (F st : List Nat) : Prop where
  nd : F.Nodup
  el : ∀ x ∈ F, x < n ∧ Rch os s x
  s0 : s ∈ F
  sub : ∀ x ∈ st, x ∈ F
  done : ∀ x ∈ F, x ∈ st ∨ ∀ o ∈ os, o.1.getD x 0 ∈ F
/-- how far it is -/
structure PcJ (os : List (Or n)) (s at_ i : Nat) (F st : List Nat) : Prop where
  nd : F.Nodup
  el : ∀ x ∈ F, x < n ∧ Rch os s x
  s0 : s ∈ F
  ata : at_ ∈ F
  sub : ∀ x ∈ st, x ∈ F
  done : ∀ x ∈ F, x ∈ st ∨ x = at_ ∨ ∀ o ∈ os, o.1.getD x 0 ∈ F
  now : ∀ o ∈ os.take i, o.1.getD at_ 0 ∈ F
theorem PcJ.next {os : List (Or n)} {s at_ i : Nat} {F st : List Nat} (h : PcJ os s at_ i F st) (hi : i < os.length) : PcJ os s at_ (i + 1) (pcStep at_ (F, st) os[i].1).1 (pcStep at_ (F, st) os[i].1).2 ∧ (pcStep at_ (F, st) os[i].1).1.length + st.length = F.length + (pcStep at_ (F, st) os[i].1).2.length := by
  obtain ⟨h1, h2⟩ := h.el at_ h.ata
  have hg : os[i] ∈ os := List.getElem_mem hi
  have htake : ∀ o ∈ os.take (i + 1), o ∈ os.take i ∨ o = os[i] := fun o ho => by
    rw [List.take_add_one, List.getElem?_eq_getElem hi] at ho
    rcases List.mem_append.mp ho with ho | ho
    · exact .inl ho
    · exact .inr (by simpa using ho)
  unfold pcStep
  split
  · rename_i hm
    refine ⟨⟨h.nd, h.el, h.s0, h.ata, h.sub, h.done, fun o ho => ?_⟩, rfl⟩
    rcases htake o ho with z | z
    · exact h.now o z
    · rw [z]
      exact hm
  · rename_i hm
    have hsubF : ∀ x, x ∈ F → x ∈ F ++ [os[i].1.getD at_ 0] := fun x hx => List.mem_append_left _ hx
    refine ⟨⟨?_, fun x hx => ?_, hsubF _ h.s0, hsubF _ h.ata, fun x hx => ?_, fun x hx => ?_, fun o ho => ?_⟩, by simp only [List.length_append, List.length_singleton]; omega⟩
    · rw [List.nodup_append]
      exact ⟨h.nd, by simp, fun x hx y hy e => by rw [List.mem_singleton.mp hy] at e; exact hm (e ▸ hx)⟩
    · rcases List.mem_append.mp hx with hx | hx
      · exact h.el x hx
      · rw [List.mem_singleton.mp hx]
        exact ⟨os[i].2.lt h1, h2.step hg⟩
    · rcases List.mem_append.mp hx with hx | hx
      · exact hsubF x (h.sub x hx)
      · exact List.mem_append_right _ hx
    · rcases List.mem_append.mp hx with hx | hx
      · rcases h.done x hx with z | z | z
        · exact .inl (List.mem_append_left _ z)
        · exact .inr (.inl z)
        · exact .inr (.inr fun o ho => hsubF _ (z o ho))
      · exact .inl (List.mem_append_right _ hx)
    · rcases htake o ho with z | z
      · exact hsubF _ (h.now o z)
      · rw [z]
        exact List.mem_append_right _ (List.mem_singleton.mpr rfl)
theorem kvT_notIn {m : Mem} {l : List O} {j : Nat} {F : List Nat} {x : Nat} (hj : l[j]? = some (.dic (kvT F))) : cmpV .notIn (m ++ l) (.int (x : Nat)) (.ref (m.length + j)) = some (!decide (x ∈ F)) := by
  rw [v_notIn hj, kvT_get]
theorem g_piece_from {os : List (Or n)} {s : Nat} (hs : s < n) (hn : n ≤ 1000) (hl : os.length ≤ 1000) : Gv κ Pg (L + 1) i_piece_from [eR n os, .int (s : Nat)] (tN (pce os s)) := fun m w => by
  have wm : ∀ F st, WF κ (pcMem m F st) := fun F st => w.app fun o ho => by
    rcases List.mem_cons.mp ho with rfl | ho
    · exact good_dic F
    · rw [List.mem_singleton.mp ho]
      exact good_nI st
  obtain ⟨env2, m2, hw, F, f4, f5, rfl, rfl, hI⟩ : ∃ env2 m2, whileLoop (fun env' m' => ev (MP.run Pg L) (.cmp .ne (.var 3) (.lst .nil)) env' m') (fun env' m' => exs (MP.run Pg L) (.cons (.asg (.name 4) (.meth .pop (.var 3) .nil)) (.cons (.forS (.name 5) (.of (.ix (.var 0) (.lit (.int 1)))) pcB) .nil)) env' m') turnsMax [some (eR n os), some (.int (s : Nat)), some (.ref (m.length + 0)), some (.ref (m.length + 1)), none, none] (pcMem m [s] [s]) = .ok .nx env2 m2 ∧
      ∃ (F : List Nat) (f4 f5 : Option D), env2 = [some (eR n os), some (.int (s : Nat)), some (.ref (m.length + 0)), some (.ref (m.length + 1)), f4, f5] ∧ m2 = pcMem m F [] ∧ PcI os s F [] := by
    refine while_inv (fun k env m' => ∃ (F st : List Nat) (f4 f5 : Option D), env = [some (eR n os), some (.int (s : Nat)), some (.ref (m.length + 0)), some (.ref (m.length + 1)), f4, f5] ∧ m' = pcMem m F st ∧ PcI os s F st ∧ n + st.length = k + F.length ∧ k ≤ n)
      (fun env m' => ∃ (F : List Nat) (f4 f5 : Option D), env = [some (eR n os), some (.int (s : Nat)), some (.ref (m.length + 0)), some (.ref (m.length + 1)), f4, f5] ∧ m' = pcMem m F [] ∧ PcI os s F []) ?_ turnsMax n _ _ (by unfold turnsMax; omega) ⟨[s], [s], none, none, rfl, rfl, ⟨by simp, fun x hx => by rw [List.mem_singleton.mp hx]; exact ⟨hs, .refl⟩, List.mem_singleton.mpr rfl, fun x hx => hx, fun x hx => .inl hx⟩, rfl, Nat.le_refl n⟩
    rintro k env m' ⟨F, st, f4, f5, rfl, rfl, hI, hk, hkn⟩
    have hFl : F.length ≤ n := nodup_le hI.nd fun x hx => (hI.el x hx).1
    have hc : ev (MP.run Pg L) (.cmp .ne (.var 3) (.lst .nil)) [some (eR n os), some (.int (s : Nat)), some (.ref (m.length + 0)), some (.ref (m.length + 1)), f4, f5] (pcMem m F st) = .ok (.bl (!decide (st = []))) (pcMem m F st) := a_cmp (a_var rfl) (a_lst s_nil rfl) (ne_nilI (l := [.dic (kvT F), .lst (nI st)]) (j := 1) rfl)
    by_cases hst : st = []
    · left
      subst hst
      exact ⟨_, _, hc, rfl, F, f4, f5, rfl, rfl, hI⟩
    · right
      obtain ⟨st', at_, rfl⟩ : ∃ st' at_, st = st' ++ [at_] := ⟨_, _, (List.dropLast_concat_getLast hst).symm⟩
      have hata : at_ ∈ F := hI.sub at_ (by simp)
      have hat := (hI.el at_ hata).1
      have hpop := v_pop (m := m) (l := [.dic (kvT F), .lst (nI (st' ++ [at_]))]) (j := 1) (ds := nI st') (d := .int (at_ : Nat)) (by simp [nI])
      obtain ⟨j', hf, hJ⟩ := for_st (src := .tup (os.map eO)) (tg := .name 5) (body := fun env' m' => exs (MP.run Pg L) pcB env' m') (g := fun _ x => eO x) os (fun (z : List Nat × List Nat) o => pcStep at_ z o.1)
        (E := fun _ (j : Option D) => [some (eR n os), some (.int (s : Nat)), some (.ref (m.length + 0)), some (.ref (m.length + 1)), some (.int (at_ : Nat)), j]) (M := fun z => pcMem m z.1 z.2) (Inv := fun i z => PcJ os s at_ i z.1 z.2 ∧ z.1.length + st'.length = F.length + z.2.length)
        (fun z i _ _ => by rw [at_tup, List.getElem?_map])
        (fun i hi z j hz => by
          obtain ⟨hz, hz2⟩ := hz
          obtain ⟨F', t'⟩ := z
          have hnx := PcJ.next (F := F') (st := t') hz hi
          have hFl' : F'.length ≤ n := nodup_le hz.nd fun x hx => (hz.el x hx).1
          have hix : ixV (pcMem m F' t') (eO os[i]) (.int (at_ : Nat)) = some (.int (os[i].1.getD at_ 0 : Nat)) := ix_tN2 (by rw [os[i].2.1]; exact hat) _
          have hni := kvT_notIn (m := m) (l := [.dic (kvT F'), .lst (nI t')]) (j := 0) (F := F') (x := os[i].1.getD at_ 0) rfl
          refine ⟨_, some (eO os[i]), rfl, ?_, hnx.1, by have h3 := hnx.2; have h4 : F'.length + st'.length = F.length + t'.length := hz2; show (pcStep at_ (F', t') os[i].1).1.length + st'.length = F.length + (pcStep at_ (F', t') os[i].1).2.length; omega⟩
          by_cases hm : os[i].1.getD at_ 0 ∈ F'
          · have e : pcStep at_ (F', t') os[i].1 = (F', t') := if_pos hm
            rw [e]
            exact x_ifF (a_cmp (c := false) (a_ix (a_var rfl) (a_var rfl) hix) (a_var rfl) (by rw [hni, decide_eq_true hm]; rfl)) rfl x_nil
          · have e : pcStep at_ (F', t') os[i].1 = (F' ++ [os[i].1.getD at_ 0], t' ++ [os[i].1.getD at_ 0]) := if_neg hm
            rw [e]
            have hset := v_setD (m := m) (l := [.dic (kvT F'), .lst (nI t')]) (j := 0) (kvs := kvT F') (i := (os[i].1.getD at_ 0 : Nat)) (v := .bl true) rfl (by rw [kvT_len]; omega)
            rw [kvT_put hm] at hset
            have happ := v_append (m := m) (l := [.dic (kvT (F' ++ [os[i].1.getD at_ 0])), .lst (nI t')]) (j := 1) (ds := nI t') (d := .int (os[i].1.getD at_ 0 : Nat)) rfl (by rw [nI_len]; simp only at hz2; rw [List.length_append, List.length_singleton] at hk; omega)
            rw [show nI t' ++ [.int (os[i].1.getD at_ 0 : Nat)] = nI (t' ++ [os[i].1.getD at_ 0]) by simp [nI]] at happ
            exact x_ifT (a_cmp (c := true) (a_ix (a_var rfl) (a_var rfl) hix) (a_var rfl) (by rw [hni, decide_eq_false hm]; rfl)) rfl (x_setIx a_lit (a_var rfl) (a_ix (a_var rfl) (a_var rfl) hix) hset (x_expr (a_meth (T := "list") (a_var rfl) (v_clsL (l := [.dic (kvT (F' ++ [os[i].1.getD at_ 0])), .lst (nI t')]) (j := 1) rfl) rfl (s_cons (a_ix (a_var rfl) (a_var rfl) (ix_tN2 (by rw [os[i].2.1]; exact hat) _)) s_nil) (v_clsL (l := [.dic (kvT (F' ++ [os[i].1.getD at_ 0])), .lst (nI t')]) (j := 1) rfl) happ) x_nil)))
        (by omega) (F, st') f5 ⟨⟨hI.nd, hI.el, hI.s0, hata, fun x hx => hI.sub x (List.mem_append_left _ hx), fun x hx => by
          rcases hI.done x hx with z | z
          · rcases List.mem_append.mp z with z | z
            · exact .inl z
            · exact .inr (.inl (List.mem_singleton.mp z))
          · exact .inr (.inr z), by simp⟩, rfl⟩
      obtain ⟨hJ, hJ2⟩ := hJ
      refine ⟨_, _, _, _, k - 1, hc, by simp [truV], x_asg (a_meth (T := "list") (a_var rfl) (v_clsL (l := [.dic (kvT F), .lst (nI (st' ++ [at_]))]) (j := 1) rfl) rfl s_nil (v_clsL (l := [.dic (kvT F), .lst (nI (st' ++ [at_]))]) (j := 1) rfl) hpop) rfl (x_for (r_tup (a_ix (a_var rfl) a_lit ix21)) hf x_nil), ?_, _, _, _, _, rfl, rfl, ⟨hJ.nd, hJ.el, hJ.s0, hJ.sub, fun x hx => ?_⟩, ?_⟩
      · simp at hk
        omega
      · rcases hJ.done x hx with z | z | z
        · exact .inl z
        · refine .inr fun o ho => ?_
          rw [z]
          exact hJ.now o (by rwa [List.take_length])
        · exact .inr z
      · simp at hk
        constructor
        · omega
        · omega
  have hfin : sortB leN F = pce os s := pce_of hs hI.nd hI.el hI.s0 fun x hx o ho => by
    rcases hI.done x hx with z | z
    · simp at z
    · exact z o ho
  have hsrt : callV .sorted (pcMem m F []) [.ref (m.length + 0)] = some (.lst (nI (pce os s)), pcMem m F []) := by
    have e : (kvT F).map (fun q => keyD q.1) = nI F := by simp [kvT, nI, keyD]
    have := v_sortedD (m := m) (l := [.dic (kvT F), .lst (nI [])]) (j := 0) (kvs := kvT F) rfl (by rw [e]; exact sortOk_nI F)
    rw [e, show sortD (nI F) = nI (sortB leN F) from sortD_B leP_N F, hfin] at this
    exact this
  have h0 : ev (MP.run Pg L) (.thaw (.dict1 (.var 1) (.lit (.bl true)))) [some (eR n os), some (.int (s : Nat)), none, none, none, none] (m ++ []) = .ok (.ref (m.length + 0)) (m ++ [.dic (kvT [s])]) := by
    have := a_dict1 (C := MP.run Pg L) (env := [some (eR n os), some (.int (s : Nat)), none, none, none, none]) (m := m) (k := .var 1) (v := .lit (.bl true)) (x := .int (s : Nat)) (y := .bl true) (kk := .inl (s : Nat)) (a_var rfl) a_lit rfl
    rw [List.append_nil]
    exact a_thawR this
  have h1 : ev (MP.run Pg L) (.newL (.cons (.var 1) .nil)) [some (eR n os), some (.int (s : Nat)), none, none, none, none] (m ++ [.dic (kvT [s])]) = .ok (.ref (m.length + 1)) (pcMem m [s] [s]) := a_newLl (l := [.dic (kvT [s])]) (l' := [.dic (kvT [s])]) (s_cons (a_var rfl) s_nil) rfl
  exact c_okl (l := [.dic (kvT F), .lst (nI [])]) (m := m) p_piece_from rfl (x_par h0 h1 rfl rfl (x_while hw (x_ret (a_callB (s_cons (a_callB (s_cons (a_var rfl) s_nil) hsrt) s_nil) (tuple_lst _ _))))) rfl (cl_fx w (Fx.tN _))
end Hd

namespace Hd
open MP PySem L2 PySem.Spec PyProof.Rows
variable {κ : Bool} {L n : Nat}
theorem c_okd {P : Nat → Option DefI} {x : Nat} {ds : List D} {I : DefI} {fr : Bool} {d d' : D} {env' : MP.Env} {a b c a' c' : Int} {l l2 : List O} {m2 : Mem} (hP : P x = some I) (ha : ds.length = I.arity) (h : exs (MP.run P L) I.body (ds.map some ++ List.replicate (I.slots - ds.length) none) ((tn a b c :: l) ++ []) = .ok (.rt fr d) env' ((tn a' b c' :: l) ++ l2)) (hf : (I.ff && !fr && isL d) = false) (hc : clean (tn a' b c' :: l).length d ((tn a' b c' :: l) ++ l2) = (d', m2)) : MP.run P (L + 1) x ds (tn a b c :: l) = .ok d' m2 := by
  rw [List.append_nil] at h
  exact c_ok hP ha h hf hc
theorem v_popI {m : Mem} {l : List O} {j k : Nat} {ds : List D} {d : D} (hj : l[j]? = some (.lst ds)) (hk : ds[k]? = some d) : methV .pop (m ++ l) (.ref (m.length + j)) [.int (k : Nat)] = some (d, m ++ l.set j (.lst (ds.eraseIdx k))) := by
  have hlt : k < ds.length := (List.getElem?_eq_some_iff.mp hk).1
  simp only [methV, loc_get, hj, ixn_nat hlt, hk, Option.map_some, loc_set]
theorem g_take {k : Int} (hk : 0 < k) (hk2 : k < 2 ^ 62) : Dr κ Pg (L + 1) i_l_take 1 [.ref 0, .int k] (fun d => ∃ v : Nat, d = .int (v : Nat) ∧ (v : Int) < k) := take_dr p_l_take hk hk2
/-- a call as an expression -/
theorem Ed.callF {x K : Nat} {es : Exs} {env : MP.Env} {ds : List D} {Q : D → Prop} {P : Nat → Option DefI} (he : ∀ m, evs (MP.run P L) es env m = .ok ds m) (h : Dr κ P L x K ds Q) : Ed κ (MP.run P L) K (.callF x es) env Q := fun B a b c l t hB w => by
  obtain ⟨r, a', c', e, q, t'⟩ := h B a b c l t hB w
  exact ⟨r, a', c', a_callF (he _) e, q, t'⟩
/-- how it stands with nothing behind -/
theorem Ed.at {C : Nat → List D → Mem → Res D} {K : Nat} {e : Ex} {env : MP.Env} {Q : D → Prop} (h : Ed κ C K e env Q) {B : Nat} {a b c : Int} {l : List O} (t : Tin B a b c) (hB : B + K ≤ 2 ^ 100) (w : WF κ (tn a b c :: l)) :
    ∃ r a' c', ev C e env ((tn a b c :: l) ++ []) = .ok r ((tn a' b c' :: l) ++ []) ∧ Q r ∧ Tin (B + K) a' b c' := by
  simp only [List.append_nil]
  exact h B a b c l t hB w
theorem range_src {C : Nat → List D → Mem → Res D} {env : MP.Env} {e : Ex} {k : Nat} (h : ∀ m, ev C e env m = .ok (.int (k : Nat)) m) (hk : k < 100000) (m : Mem) : evSr C (.rng1 e) env m = .ok (.rng 0 k) m := r_rng1 (h m) (by omega) (by omega)
end Hd

namespace Hd
open MP PySem L2 PySem.Spec PyProof.Rows
variable {κ : Bool} {L n : Nat}
theorem cycW_stop {o seen own : List Nat} {f at_ : Nat} (h : at_ ∈ seen ++ own) : cycW o (f + 1) seen at_ own = own := by
  unfold cycW
  rw [if_pos h]
theorem cycW_go {o seen own : List Nat} {f at_ : Nat} (h : at_ ∉ seen ++ own) : cycW o (f + 1) seen at_ own = cycW o f seen (o.getD at_ 0) (own ++ [at_]) := by
  conv => lhs; unfold cycW
  rw [if_neg h]
theorem v_delD {m : Mem} {l : List O} {j i : Nat} {ks : List Nat} (hj : l[j]? = some (.dic (kvT ks))) (h : i ∈ ks) : delV (m ++ l) (.ref (m.length + j)) (.int (i : Nat)) = some (m ++ l.set j (.dic (kvT (ks.filter fun x => decide (x ≠ i))))) := by
  have h1 : ((kvT ks).any fun kv => decide (kv.1 = (Sum.inl (i : Int) : Key))) = true := by
    rw [List.any_eq_true]
    exact ⟨_, List.mem_map.mpr ⟨i, h, rfl⟩, by simp⟩
  have h2 : dropD (kvT ks) (.inl (i : Nat)) = kvT (ks.filter fun x => decide (x ≠ i)) := by
    unfold dropD kvT
    rw [List.filter_map]
    congr 1
    refine List.filter_congr fun x _ => ?_
    simp only [Function.comp]
    rw [decide_eq_decide]
    constructor
    · intro hx e
      exact hx (by rw [e])
    · intro hx e
      injection e with e
      exact hx (by omega)
  simp only [delV, loc_get, hj, key?, loc_set, h1, if_true, h2]
section
variable {o : List Nat} {m : Mem}
abbrev rdMem (m : Mem) (x y : O) (junk : List O) (own : List Nat) : Mem := m ++ (x :: y :: (junk ++ [.lst (nI own)]))
theorem rdo {x y z : O} {junk : List O} : (x :: y :: (junk ++ [z]))[junk.length + 2]? = some z := by simp
theorem rdos {x y z u : O} {junk : List O} : (x :: y :: (junk ++ [z])).set (junk.length + 2) u = x :: y :: (junk ++ [u]) := by
  simp [List.set_append]
/-- the program's walk -/
theorem rd_walk (ho : isOrd n o) (hn : n ≤ 1000) {seen : List Nat} {F : O} {junk : List O} {e0 e1 : Option D} {tgt : List Nat} : ∀ N k env m', k < N → (∃ own ks at_, env = [some (tN o), e1, some (.ref (m.length + 0)), some (.ref (m.length + 1)), some (.ref (m.length + (junk.length + 2))), some (.int (at_ : Nat))] ∧ m' = rdMem m (.dic (kvT ks)) F junk own ∧ at_ < n ∧ (∀ x, x < n → (x ∈ ks ↔ x ∉ seen ++ own)) ∧ cycW o (k + 1) seen at_ own = tgt ∧ freeN n (seen ++ own) ≤ k ∧ own.length + k ≤ 5000) →
    ∃ env2 m2, whileLoop (fun env' m' => ev (MP.run Pg L) (.cmp .inn (.var 5) (.var 2)) env' m') (fun env' m' => exs (MP.run Pg L) (.cons (.delIx (.var 2) (.var 5)) (.cons (.expr (.meth .append (.var 4) (.cons (.var 5) .nil))) (.cons (.asg (.name 5) (.ix (.var 0) (.var 5))) .nil))) env' m') N env m' = .ok .nx env2 m2 ∧ ∃ ks at_, env2 = [some (tN o), e1, some (.ref (m.length + 0)), some (.ref (m.length + 1)), some (.ref (m.length + (junk.length + 2))), some (.int (at_ : Nat))] ∧ m2 = rdMem m (.dic (kvT ks)) F junk tgt ∧ (∀ x, x < n → (x ∈ ks ↔ x ∉ seen ++ tgt)) := by
  refine while_inv (fun k env m' => ∃ own ks at_, env = [some (tN o), e1, some (.ref (m.length + 0)), some (.ref (m.length + 1)), some (.ref (m.length + (junk.length + 2))), some (.int ((at_ : Nat) : Int))] ∧ m' = rdMem m (.dic (kvT ks)) F junk own ∧ at_ < n ∧ (∀ x, x < n → (x ∈ ks ↔ x ∉ seen ++ own)) ∧ cycW o (k + 1) seen at_ own = tgt ∧ freeN n (seen ++ own) ≤ k ∧ own.length + k ≤ 5000) (fun env m' => ∃ ks at_, env = [some (tN o), e1, some (.ref (m.length + 0)), some (.ref (m.length + 1)), some (.ref (m.length + (junk.length + 2))), some (.int ((at_ : Nat) : Int))] ∧ m' = rdMem m (.dic (kvT ks)) F junk tgt ∧ (∀ x, x < n → (x ∈ ks ↔ x ∉ seen ++ tgt))) ?_
  rintro k env m' ⟨own, ks, at_, rfl, rfl, hat, hks, ht, hf, hlen⟩
  have hc : ev (MP.run Pg L) (.cmp .inn (.var 5) (.var 2)) [some (tN o), e1, some (.ref (m.length + 0)), some (.ref (m.length + 1)), some (.ref (m.length + (junk.length + 2))), some (.int (at_ : Nat))] (rdMem m (.dic (kvT ks)) F junk own) = .ok (.bl (decide (at_ ∈ ks))) (rdMem m (.dic (kvT ks)) F junk own) := by
    have := v_in (m := m) (l := .dic (kvT ks) :: F :: (junk ++ [.lst (nI own)])) (j := 0) (i := (at_ : Nat)) (kvs := kvT ks) rfl
    rw [kvT_get] at this
    exact a_cmp (a_var rfl) (a_var rfl) this
  by_cases hin : at_ ∈ ks
  · right
    have hns := (hks at_ hat).mp hin
    have hfr := freeN_add hat hns
    rw [List.append_assoc] at hfr
    obtain ⟨k, rfl⟩ : ∃ k', k = k' + 1 := ⟨k - 1, by omega⟩
    have hdel := v_delD (m := m) (l := .dic (kvT ks) :: F :: (junk ++ [.lst (nI own)])) (j := 0) rfl hin
    have happ := v_append (m := m) (l := .dic (kvT (ks.filter fun x => decide (x ≠ at_))) :: F :: (junk ++ [.lst (nI own)])) (j := junk.length + 2) (ds := nI own) (d := .int (at_ : Nat)) rdo (by rw [nI_len]; omega)
    rw [rdos, show nI own ++ [.int (at_ : Nat)] = nI (own ++ [at_]) by simp [nI]] at happ
    refine ⟨_, _, [some (tN o), e1, some (.ref (m.length + 0)), some (.ref (m.length + 1)), some (.ref (m.length + (junk.length + 2))), some (.int (o.getD at_ 0 : Nat))], _, k, hc, by simp [truV, hin], x_delIx (a_var rfl) (a_var rfl) hdel (x_expr (a_meth (a_var rfl) (v_clsL rdo) rfl (s_cons (a_var rfl) s_nil) (v_clsL rdo) happ) (x_asg (a_ix (a_var rfl) (a_var rfl) (ix_tN2 (by rw [ho.1]; exact hat) _)) rfl x_nil)), by omega, own ++ [at_], ks.filter fun x => decide (x ≠ at_), o.getD at_ 0, rfl, rfl, ho.lt hat, fun x hx => ?_, ?_, ?_, ?_⟩
    · rw [List.mem_filter, hks x hx]
      simp
      constructor
      · intro h
        exact ⟨h.1.1, h.1.2, h.2⟩
      · intro h
        exact ⟨⟨h.1, h.2.1⟩, h.2.2⟩
    · rw [← ht, cycW_go hns]
    · omega
    · simp
      omega
  · left
    have hm : at_ ∈ seen ++ own := Classical.byContradiction fun h => hin ((hks at_ hat).mpr h)
    rw [cycW_stop hm] at ht
    subst ht
    exact ⟨_, _, hc, by simp [truV, hin], ks, at_, rfl, rfl, hks⟩
theorem merge_nodup : ∀ (ks xs : List Nat), (ks ++ xs).Nodup → mergeD (kvT ks) (kvT xs) = kvT (ks ++ xs)
  | ks, [], _ => by simp [mergeD, kvT]
  | ks, x :: xs, h => by
    have hx : x ∉ ks := fun hx => by
      rw [List.nodup_append] at h
      exact h.2.2 x hx x (by simp) rfl
    have : mergeD (kvT ks) (kvT (x :: xs)) = mergeD (putD (kvT ks) (.inl (x : Nat)) (.bl true)) (kvT xs) := rfl
    rw [this, kvT_put hx, merge_nodup (ks ++ [x]) xs (by simpa using h)]
    simp
theorem pairs_kvT (xs : List Nat) : pairs? (xs.map fun (k : Nat) => D.tup [.int (k : Nat), .bl true]) = some (kvT xs) := by
  induction xs with
  | nil => rfl
  | cons x xs ih => simp [pairs?, key?, ih, kvT]
end
end Hd

namespace Hd
open MP PySem L2 PySem.Spec PyProof.Rows
variable {κ : Bool} {L n : Nat}
theorem g_is_whole_by {os : List (Or n)} (h1 : 1 ≤ n) (hn : n ≤ 1000) (hl : os.length ≤ 1000) : Gv κ Pg (L + 2) i_is_whole_by [eR n os] (.bl (((pce os 0).length : Int) == (n : Int))) := fun m w =>
  c_okl (l := []) p_is_whole_by rfl (x_ret (a_cmp (a_callB (s_cons (a_callF (s_cons (a_var rfl) (s_cons a_lit s_nil)) ((g_piece_from (L := L) (s := 0) (by omega) hn hl).at w.nil)) s_nil) (len_tN _ _)) (a_ix (a_var rfl) a_lit ix20) (MP.eq_int _ _ _))) rfl (cl_fx w (Fx.bl _))
theorem v_update {m : Mem} {l : List O} {j k : Nat} {kvs more : List (Key × D)} (hj : l[j]? = some (.dic kvs)) (hk : l[k]? = some (.dic more)) (hne : j ≠ k) (hl : kvs.length + more.length ≤ 1000000) : methV .update (m ++ l) (.ref (m.length + j)) [.ref (m.length + k)] = some (.non, m ++ l.set j (.dic (mergeD kvs more))) := by
  have h1 : m.length + j ≠ m.length + k ∧ kvs.length + more.length ≤ sizeLine := ⟨by omega, by rw [sizeLine_eq]; omega⟩
  simp only [methV, loc_get, hj, hk, if_pos h1, loc_set]
theorem g_pieces_by {os : List (Or n)} (hn : n ≤ 1000) (hl : os.length ≤ 1000) : Gv κ Pg (L + 2) i_pieces_by [eR n os] (.lst ((pcs os).map tN)) := fun m w => by
  obtain ⟨env2, m2, hf, junk, f1, f4, f5, rfl, rfl, hjg⟩ := for_inv (src := .rng 0 n) (tg := .name 1) (body := fun env' m' => exs (MP.run Pg (L + 1)) (.cons (.ifS (.cmp .notIn (.var 1) (.var 3)) (.cons (.asg (.name 4) (.callF i_piece_from (.cons (.var 0) (.cons (.var 1) .nil)))) (.cons (.expr (.meth .update (.var 3) (.cons (.callB .dict (.cons (.comp (.name 5) (.of (.var 4)) .nil (.tup (.cons (.var 5) (.cons (.lit (.bl true)) .nil))) [5]) .nil)) .nil))) (.cons (.expr (.meth .append (.var 2) (.cons (.var 4) .nil))) .nil))) .nil) .nil) env' m') n
    (fun i env m' => ∃ (junk : List O) (f1 f4 f5 : Option D), env = [some (eR n os), f1, some (.ref (m.length + 0)), some (.ref (m.length + 1)), f4, f5] ∧ m' = m ++ (.lst ((pcF os (List.range i) []).map tN) :: .dic (kvT (pcF os (List.range i) []).flatten) :: junk) ∧ ∀ o ∈ junk, Good κ o)
    (fun i env m' hi hI => by
      obtain ⟨junk, f1, f4, f5, rfl, rfl, hjg⟩ := hI
      have hP := pcF_pcs os (List.range i) [] ⟨by simp, by simp⟩ fun s hs => by have := List.mem_range.mp hs; omega
      obtain ⟨T, hT⟩ : ∃ T, T = pcF os (List.range i) [] := ⟨_, rfl⟩
      have hsn := pcF_snoc os i (List.range i) []
      rw [← List.range_succ, ← hT] at hsn
      rw [← hT] at hP
      rw [← hT, hsn]
      obtain ⟨l1, l2⟩ := hP.len
      have wm : ∀ (T : List (List Nat)) (F : List Nat) (J : List O), (∀ o ∈ J, Good κ o) → WF κ (m ++ (.lst (T.map tN) :: .dic (kvT F) :: J)) := fun T F J hJ => w.app fun o ho => by
        rcases List.mem_cons.mp ho with rfl | ho
        · exact good_lst (fk_map (fun (c : List Nat) => (Enc.fk κ c : Fk κ (tN c))) T)
        · rcases List.mem_cons.mp ho with rfl | ho
          · exact good_dic F
          · exact hJ o ho
      have hni := kvT_notIn (m := m) (l := .lst (T.map tN) :: .dic (kvT T.flatten) :: junk) (j := 1) (F := T.flatten) (x := i) rfl
      have hz : (D.int (0 + (i : Int))) = .int (i : Nat) := by rw [Int.zero_add]
      by_cases hm : i ∈ T.flatten
      · rw [if_pos hm]
        exact ⟨.int (0 + (i : Int)), _, _, _, by simp [SrcV.at, hi], rfl, x_ifF (a_cmp (c := false) (a_var (by rw [hz]; rfl)) (a_var rfl) (by rw [hni, decide_eq_true hm]; rfl)) rfl x_nil, junk, _, _, _, rfl, rfl, hjg⟩
      · rw [if_neg hm]
        have hadd := hP.add hi hm
        have hpl := pce_len (os := os) i
        have hpc := (g_piece_from (κ := κ) (L := L) (os := os) (s := i) hi hn hl).at (wm T T.flatten junk hjg)
        have hc := a_comp0 (κ := κ) (C := MP.run Pg (L + 1)) (env := [some (eR n os), some (.int (i : Nat)), some (.ref (m.length + 0)), some (.ref (m.length + 1)), some (tN (pce os i)), f5]) (m := m ++ (.lst (T.map tN) :: .dic (kvT T.flatten) :: junk)) (g := fun (x : Nat) => D.int (x : Nat)) (f := fun (x : Nat) => D.tup [.int (x : Nat), .bl true]) (own := [5]) (tg := .name 5) (src := .of (.var 4)) (elt := .tup (.cons (.var 5) (.cons (.lit (.bl true)) .nil))) (pce os i) (wm T T.flatten junk hjg) (r_tup (a_var rfl)) (fun acc j => at_tup _ _ _ _) (fun x _ => ⟨_, rfl, fun m' acc _ w' => ⟨a_tup (s_cons (a_var rfl) (s_cons a_lit s_nil)) rfl, Fk.tup fun d hd => by
          rcases List.mem_cons.mp hd with rfl | hd
          · exact Fk.int _
          · rw [List.mem_singleton.mp hd]
            exact Fk.bl _⟩⟩) (by omega)
        have hdict : callV .dict (m ++ (.lst (T.map tN) :: .dic (kvT T.flatten) :: junk)) [.lst ((pce os i).map fun (x : Nat) => D.tup [.int (x : Nat), .bl true])] = some (.ref (m.length + (junk.length + 2)), m ++ ((.lst (T.map tN) :: .dic (kvT T.flatten) :: junk) ++ [.dic (kvT (pce os i))])) := by
          have hmn := merge_nodup [] (pce os i) (by simpa using pce_nd i)
          have h0 : mergeD [] (kvT (pce os i)) = kvT (pce os i) := hmn
          simp only [callV, seqV, pairs_kvT, h0]
          rw [List.length_append, List.append_assoc]
          simp
        have hupd := v_update (m := m) (l := (.lst (T.map tN) :: .dic (kvT T.flatten) :: junk) ++ [.dic (kvT (pce os i))]) (j := 1) (k := junk.length + 2) (kvs := kvT T.flatten) (more := kvT (pce os i)) rfl (by simp) (by omega) (by rw [kvT_len, kvT_len]; omega)
        have hnd2 : (T.flatten ++ pce os i).Nodup := by
          have := hadd.nd
          rw [List.flatten_append] at this
          simpa using this
        rw [merge_nodup _ _ hnd2] at hupd
        have happ := v_append (m := m) (l := .lst (T.map tN) :: .dic (kvT (T.flatten ++ pce os i)) :: (junk ++ [.dic (kvT (pce os i))])) (j := 0) (ds := T.map tN) (d := tN (pce os i)) rfl (by rw [List.length_map]; omega)
        rw [show T.map tN ++ [tN (pce os i)] = (T ++ [pce os i]).map tN by rw [List.map_append]; rfl] at happ
        have hfl : (T ++ [pce os i]).flatten = T.flatten ++ pce os i := by rw [List.flatten_append]; simp
        rw [hfl]
        refine ⟨.int (0 + (i : Int)), _, [some (eR n os), some (.int (i : Nat)), some (.ref (m.length + 0)), some (.ref (m.length + 1)), some (tN (pce os i)), f5], _, by simp [SrcV.at, hi], by rw [hz]; rfl, x_ifT (a_cmp (c := true) (a_var rfl) (a_var rfl) (by rw [hni, decide_eq_false hm]; rfl)) rfl (x_asg (a_callF (s_cons (a_var rfl) (s_cons (a_var rfl) s_nil)) hpc) rfl (x_expr (a_meth (T := "dict") (a_var rfl) (v_clsD (l := .lst (T.map tN) :: .dic (kvT T.flatten) :: junk) (j := 1) rfl) rfl (s_cons (a_callB (s_cons hc s_nil) hdict) s_nil) (v_clsD (l := (.lst (T.map tN) :: .dic (kvT T.flatten) :: junk) ++ [.dic (kvT (pce os i))]) (j := 1) rfl) hupd) (x_expr (a_meth (T := "list") (a_var rfl) (v_clsL (l := .lst (T.map tN) :: .dic (kvT (T.flatten ++ pce os i)) :: (junk ++ [.dic (kvT (pce os i))])) (j := 0) rfl) rfl (s_cons (a_var rfl) s_nil) (v_clsL (l := .lst (T.map tN) :: .dic (kvT (T.flatten ++ pce os i)) :: (junk ++ [.dic (kvT (pce os i))])) (j := 0) rfl) happ) x_nil))), junk ++ [.dic (kvT (pce os i))], _, _, _, rfl, rfl, fun o ho => ?_⟩
        rcases List.mem_append.mp ho with ho | ho
        · exact hjg o ho
        · rw [List.mem_singleton.mp ho]
          exact good_dic _)
    (fun env m' hI => by simp [SrcV.at]) turnsMax 0 [some (eR n os), none, some (.ref (m.length + 0)), some (.ref (m.length + 1)), none, none] (m ++ [.lst [], .dic []]) (Nat.zero_le _) (by unfold turnsMax; omega) ⟨[], none, none, none, rfl, rfl, by simp⟩
  have h0 : ev (MP.run Pg (L + 1)) (.newL .nil) [some (eR n os), none, none, none, none, none] (m ++ []) = .ok (.ref (m.length + 0)) (m ++ [.lst []]) := a_newLl (l := []) (l' := []) s_nil rfl
  have h1 : ev (MP.run Pg (L + 1)) (.thaw .emptyDict) [some (eR n os), none, none, none, none, none] (m ++ [.lst []]) = .ok (.ref (m.length + 1)) (m ++ [.lst [], .dic []]) := a_thawR (a_dictl (l := [.lst []]))
  exact c_okl (l := .lst ((pcs os).map tN) :: .dic (kvT (pcs os).flatten) :: junk) (m := m) p_pieces_by rfl (x_par h0 h1 rfl rfl (x_for (range_src (k := n) (fun m => a_ix (a_var rfl) a_lit ix20) (by omega) _) hf (x_ret (a_var rfl)))) rfl (cl_ref (j := 0) w rfl fun d hd => (fk_map (κ := κ) (fun (c : List Nat) => (Enc.fk κ c : Fk κ (tN c))) _ d hd).1)
end Hd

namespace Hd
open MP PySem L2 PySem.Spec PyProof.Rows
variable {κ : Bool} {L n : Nat}
/-- the law's walk -/
structure LpI (os : List (Or n)) (s : Nat) (F st : List Nat) : Prop where
  nd : F.Nodup
  el : ∀ x ∈ F, x < n ∧ Rch os s x
  els : ∀ x ∈ st, x < n ∧ Rch os s x
  s0 : s ∈ F ∨ s ∈ st
  done : ∀ x ∈ F, ∀ o ∈ os, o.1.getD x 0 ∈ F ∨ o.1.getD x 0 ∈ st
theorem getl (J : List O) (x y : O) : (J ++ [x, y])[J.length]? = some x := by simp
theorem getl1 (J : List O) (x y : O) : (J ++ [x, y])[J.length + 1]? = some y := by
  rw [List.getElem?_append_right (by omega), show J.length + 1 - J.length = 1 by omega]
  rfl
theorem setl (J : List O) (x y z : O) : (J ++ [x, y]).set J.length z = J ++ [z, y] := by
  rw [List.set_append_right _ _ (Nat.le_refl _), Nat.sub_self]
  rfl
theorem setl1 (J : List O) (x y z : O) : (J ++ [x, y]).set (J.length + 1) z = J ++ [x, z] := by
  rw [List.set_append_right _ _ (by omega), show J.length + 1 - J.length = 1 by omega]
  rfl
def lpiB : Sts := (.cons (.asg (.name 5) (.meth .pop (.var 4) .nil)) (.cons (.ifS (.cmp .notIn (.var 5) (.var 3)) (.cons (.setIx (.var 3) (.var 5) (.lit (.bl true))) (.cons (.expr (.meth .extend (.var 4) (.cons (.comp (.name 7) (.of (.ix (.var 0) (.lit (.int 1)))) .nil (.ix (.var 7) (.var 5)) [7]) .nil))) .nil)) .nil) .nil))
theorem lp_walk {os : List (Or n)} {s : Nat} (hn : n ≤ 1000) (hl : os.length ≤ 60) (hs : s < n) {m : Mem} {J : List O} (w : WF κ (m ++ J)) {f1 f2 f5 f6 f7 : Option D} : ∃ env2 m2, whileLoop (fun env' m' => ev (MP.run Pg L) (.cmp .ne (.var 4) (.lst .nil)) env' m') (fun env' m' => exs (MP.run Pg L) lpiB env' m') turnsMax [some (eR n os), f1, f2, some (.ref (m.length + J.length)), some (.ref (m.length + (J.length + 1))), f5, f6, f7] (m ++ (J ++ [.dic (kvT []), .lst (nI [s])])) = .ok .nx env2 m2 ∧
      ∃ (F : List Nat) (f5 : Option D), env2 = [some (eR n os), f1, f2, some (.ref (m.length + J.length)), some (.ref (m.length + (J.length + 1))), f5, f6, f7] ∧ m2 = m ++ (J ++ [.dic (kvT F), .lst (nI [])]) ∧ F.Nodup ∧ sortB leN F = pce os s := by
  obtain ⟨env2, m2, hw, F, f5', rfl, rfl, hI⟩ : ∃ env2 m2, whileLoop (fun env' m' => ev (MP.run Pg L) (.cmp .ne (.var 4) (.lst .nil)) env' m') (fun env' m' => exs (MP.run Pg L) lpiB env' m') turnsMax [some (eR n os), f1, f2, some (.ref (m.length + J.length)), some (.ref (m.length + (J.length + 1))), f5, f6, f7] (m ++ (J ++ [.dic (kvT []), .lst (nI [s])])) = .ok .nx env2 m2 ∧
      ∃ (F : List Nat) (f5 : Option D), env2 = [some (eR n os), f1, f2, some (.ref (m.length + J.length)), some (.ref (m.length + (J.length + 1))), f5, f6, f7] ∧ m2 = m ++ (J ++ [.dic (kvT F), .lst (nI [])]) ∧ LpI os s F [] := by
    refine while_inv (fun k env m' => ∃ (F st : List Nat) (f5 : Option D), env = [some (eR n os), f1, f2, some (.ref (m.length + J.length)), some (.ref (m.length + (J.length + 1))), f5, f6, f7] ∧ m' = m ++ (J ++ [.dic (kvT F), .lst (nI st)]) ∧ LpI os s F st ∧ (n - F.length) * (os.length + 1) + st.length = k ∧ k ≤ 100000)
      (fun env m' => ∃ (F : List Nat) (f5 : Option D), env = [some (eR n os), f1, f2, some (.ref (m.length + J.length)), some (.ref (m.length + (J.length + 1))), f5, f6, f7] ∧ m' = m ++ (J ++ [.dic (kvT F), .lst (nI [])]) ∧ LpI os s F []) ?_ turnsMax (n * (os.length + 1) + 1) _ _ ?_ ⟨[], [s], f5, rfl, rfl, ⟨by simp, by simp, fun x hx => by rw [List.mem_singleton.mp hx]; exact ⟨hs, .refl⟩, .inr (by simp), by simp⟩, rfl, ?_⟩
    · rintro k env m' ⟨F, st, f5, rfl, rfl, hI, hk, hkb⟩
      have hFl : F.length ≤ n := nodup_le hI.nd fun x hx => (hI.el x hx).1
      have wm : ∀ F st, WF κ (m ++ (J ++ [.dic (kvT F), .lst (nI st)])) := fun F st => by
        rw [← List.append_assoc]
        exact w.app fun o ho => by
          rcases List.mem_cons.mp ho with rfl | ho
          · exact good_dic F
          · rw [List.mem_singleton.mp ho]
            exact good_nI st
      have hc : ev (MP.run Pg L) (.cmp .ne (.var 4) (.lst .nil)) [some (eR n os), f1, f2, some (.ref (m.length + J.length)), some (.ref (m.length + (J.length + 1))), f5, f6, f7] (m ++ (J ++ [.dic (kvT F), .lst (nI st)])) = .ok (.bl (!decide (st = []))) (m ++ (J ++ [.dic (kvT F), .lst (nI st)])) := a_cmp (a_var rfl) (a_lst s_nil rfl) (ne_nilI (l := J ++ [.dic (kvT F), .lst (nI st)]) (j := J.length + 1) (getl1 _ _ _))
      by_cases hst : st = []
      · left
        subst hst
        exact ⟨_, _, hc, rfl, F, f5, rfl, rfl, hI⟩
      · right
        obtain ⟨st', at_, rfl⟩ : ∃ st' at_, st = st' ++ [at_] := ⟨_, _, (List.dropLast_concat_getLast hst).symm⟩
        obtain ⟨hat, hrt⟩ := hI.els at_ (by simp)
        have hpop := v_pop (m := m) (l := J ++ [.dic (kvT F), .lst (nI (st' ++ [at_]))]) (j := J.length + 1) (ds := nI st') (d := .int (at_ : Nat)) (by rw [getl1]; simp [nI])
        rw [setl1] at hpop
        have hni := kvT_notIn (m := m) (l := J ++ [.dic (kvT F), .lst (nI st')]) (j := J.length) (F := F) (x := at_) (getl _ _ _)
        rw [List.length_append, List.length_singleton] at hk
        by_cases hm : at_ ∈ F
        · refine ⟨_, _, [some (eR n os), f1, f2, some (.ref (m.length + J.length)), some (.ref (m.length + (J.length + 1))), some (.int (at_ : Nat)), f6, f7], _, (n - F.length) * (os.length + 1) + st'.length, hc, by simp [truV], x_asg (a_meth (T := "list") (a_var rfl) (v_clsL (getl1 _ _ _)) rfl s_nil (v_clsL (getl1 _ _ _)) hpop) rfl (x_ifF (a_cmp (c := false) (a_var rfl) (a_var rfl) (by rw [hni, decide_eq_true hm]; rfl)) rfl x_nil), by omega, F, st', _, rfl, rfl, ⟨hI.nd, hI.el, fun x hx => hI.els x (List.mem_append_left _ hx), ?_, fun x hx o ho => ?_⟩, rfl, by omega⟩
          · rcases hI.s0 with z | z
            · exact .inl z
            · rcases List.mem_append.mp z with z | z
              · exact .inr z
              · rw [List.mem_singleton.mp z]
                exact .inl hm
          · rcases hI.done x hx o ho with z | z
            · exact .inl z
            · rcases List.mem_append.mp z with z | z
              · exact .inr z
              · rw [List.mem_singleton.mp z]
                exact .inl hm
        · have hnd' : (F ++ [at_]).Nodup := by
            rw [List.nodup_append]
            exact ⟨hI.nd, by simp, fun x hx y hy e => by rw [List.mem_singleton.mp hy] at e; exact hm (e ▸ hx)⟩
          have hel' : ∀ x ∈ F ++ [at_], x < n ∧ Rch os s x := fun x hx => by
            rcases List.mem_append.mp hx with hx | hx
            · exact hI.el x hx
            · rw [List.mem_singleton.mp hx]
              exact ⟨hat, hrt⟩
          have hFl' : F.length + 1 ≤ n := by
            have := nodup_le hnd' fun x hx => (hel' x hx).1
            simpa using this
          have hset := v_setD (m := m) (l := J ++ [.dic (kvT F), .lst (nI st')]) (j := J.length) (kvs := kvT F) (i := (at_ : Nat)) (v := .bl true) (getl _ _ _) (by rw [kvT_len]; omega)
          rw [kvT_put hm, setl] at hset
          have hcm := a_comp0 (κ := κ) (C := MP.run Pg L) (env := [some (eR n os), f1, f2, some (.ref (m.length + J.length)), some (.ref (m.length + (J.length + 1))), some (.int (at_ : Nat)), f6, f7]) (m := m ++ (J ++ [.dic (kvT (F ++ [at_])), .lst (nI st')])) (g := eO) (f := fun (o : Or n) => D.int (o.1.getD at_ 0 : Nat)) (own := [7]) (tg := .name 7) (src := .of (.ix (.var 0) (.lit (.int 1)))) (elt := .ix (.var 7) (.var 5)) os (wm _ _) (r_tup (a_ix (a_var rfl) a_lit ix21)) (fun acc i => at_tup eO os _ i) (fun o _ => ⟨_, rfl, fun m' acc _ w' => ⟨a_ix (a_var rfl) (a_var rfl) (ix_tN2 (by rw [o.2.1]; exact hat) _), Fk.int _⟩⟩) (by omega)
          have ecm : (os.map fun (o : Or n) => D.int (o.1.getD at_ 0 : Nat)) = nI (os.map fun o => o.1.getD at_ 0) := by
            unfold nI
            rw [List.map_map]
            rfl
          rw [ecm] at hcm
          have hstl : st'.length ≤ 100000 := by omega
          have hext := v_extend (m := m) (l := J ++ [.dic (kvT (F ++ [at_])), .lst (nI st')]) (j := J.length + 1) (ds := nI st') (es := nI (os.map fun o => o.1.getD at_ 0)) (getl1 _ _ _) (by rw [nI_len, nI_len, List.length_map]; omega)
          rw [setl1, show nI st' ++ nI (os.map fun o => o.1.getD at_ 0) = nI (st' ++ os.map fun o => o.1.getD at_ 0) by simp [nI]] at hext
          have hmul : (n - F.length) * (os.length + 1) = (n - (F ++ [at_]).length) * (os.length + 1) + (os.length + 1) := by
            rw [List.length_append, List.length_singleton, show n - F.length = (n - (F.length + 1)) + 1 by omega, Nat.succ_mul]
          have hk2 : (n - (F ++ [at_]).length) * (os.length + 1) + (st' ++ os.map fun o => o.1.getD at_ 0).length < k := by
            have e1 : (st' ++ os.map fun o => o.1.getD at_ 0).length = st'.length + os.length := by rw [List.length_append, List.length_map]
            rw [e1]
            omega
          refine ⟨_, _, [some (eR n os), f1, f2, some (.ref (m.length + J.length)), some (.ref (m.length + (J.length + 1))), some (.int (at_ : Nat)), f6, f7], _, (n - (F ++ [at_]).length) * (os.length + 1) + (st' ++ os.map fun o => o.1.getD at_ 0).length, hc, by simp [truV], x_asg (a_meth (T := "list") (a_var rfl) (v_clsL (getl1 _ _ _)) rfl s_nil (v_clsL (getl1 _ _ _)) hpop) rfl (x_ifT (a_cmp (c := true) (a_var rfl) (a_var rfl) (by rw [hni, decide_eq_false hm]; rfl)) rfl (x_setIx a_lit (a_var rfl) (a_var rfl) hset (x_expr (a_meth (T := "list") (a_var rfl) (v_clsL (getl1 _ _ _)) rfl (s_cons hcm s_nil) (v_clsL (getl1 _ _ _)) hext) x_nil))), hk2, F ++ [at_], _, _, rfl, rfl, ⟨hnd', hel', fun x hx => ?_, ?_, fun x hx o ho => ?_⟩, rfl, by omega⟩
          · rcases List.mem_append.mp hx with hx | hx
            · exact hI.els x (List.mem_append_left _ hx)
            · obtain ⟨o, ho, rfl⟩ := List.mem_map.mp hx
              exact ⟨o.2.lt hat, hrt.step ho⟩
          · rcases hI.s0 with z | z
            · exact .inl (List.mem_append_left _ z)
            · rcases List.mem_append.mp z with z | z
              · exact .inr (List.mem_append_left _ z)
              · exact .inl (List.mem_append_right _ z)
          · rcases List.mem_append.mp hx with hx | hx
            · rcases hI.done x hx o ho with z | z
              · exact .inl (List.mem_append_left _ z)
              · rcases List.mem_append.mp z with z | z
                · exact .inr (List.mem_append_left _ z)
                · exact .inl (List.mem_append_right _ z)
            · rw [List.mem_singleton.mp hx]
              exact .inr (List.mem_append_right _ (List.mem_map.mpr ⟨o, ho, rfl⟩))
    · have : n * (os.length + 1) ≤ 1000 * 61 := Nat.mul_le_mul hn (by omega)
      unfold turnsMax
      omega
    · have : n * (os.length + 1) ≤ 1000 * 61 := Nat.mul_le_mul hn (by omega)
      omega
  refine ⟨_, _, hw, F, f5', rfl, rfl, hI.nd, pce_of hs hI.nd hI.el ?_ fun x hx o ho => ?_⟩
  · rcases hI.s0 with z | z
    · exact z
    · simp at z
  · rcases hI.done x hx o ho with z | z
    · exact z
    · simp at z
theorem g_l_pieces {os : List (Or n)} (hn : n ≤ 1000) (hl : os.length ≤ 60) : Gv κ Pg (L + 1) i_l_pieces [eR n os] (.tup ((pcs os).map tN)) := fun m w => by
  obtain ⟨env2, m2, hw, T, J, f3, f4, f5, f6, f7, rfl, rfl, hP, hcov, hJ⟩ : ∃ env2 m2, whileLoop (fun env' m' => ev (MP.run Pg L) (.cmp .ne (.var 1) (.lst .nil)) env' m') (fun env' m' => exs (MP.run Pg L) (.cons (.asg (.pair (.cons (.name 3) (.cons (.name 4) .nil))) (.tup (.cons (.thaw (.emptyDict)) (.cons (.newL (.cons (.ix (.var 1) (.lit (.int 0))) .nil)) .nil)))) (.cons (.whileS (.cmp .ne (.var 4) (.lst .nil)) lpiB) (.cons (.expr (.meth .append (.var 2) (.cons (.callB .tuple (.cons (.callB .sorted (.cons (.var 3) .nil)) .nil)) .nil))) (.cons (.asg (.name 1) (.comp (.name 6) (.of (.var 1)) (.cons (.cmp .notIn (.var 6) (.var 3)) .nil) (.var 6) [6])) .nil)))) env' m') turnsMax [some (eR n os), some (.lst (nI (List.range n))), some (.ref (m.length + 0)), none, none, none, none, none] (m ++ [.lst []]) = .ok .nx env2 m2 ∧
      ∃ (T : List (List Nat)) (J : List O) (f3 f4 f5 f6 f7 : Option D), env2 = [some (eR n os), some (.lst (nI [])), some (.ref (m.length + 0)), f3, f4, f5, f6, f7] ∧ m2 = m ++ (.lst (T.map tN) :: J) ∧ Pcs os T ∧ (∀ x, x < n → x ∈ T.flatten) ∧ ∀ o ∈ J, Good κ o := by
    refine while_inv (fun k env m' => ∃ (T : List (List Nat)) (lf : List Nat) (J : List O) (f3 f4 f5 f6 f7 : Option D), env = [some (eR n os), some (.lst (nI lf)), some (.ref (m.length + 0)), f3, f4, f5, f6, f7] ∧ m' = m ++ (.lst (T.map tN) :: J) ∧ Pcs os T ∧ (∀ x ∈ lf, x < n ∧ x ∉ T.flatten) ∧ (∀ x, x < n → x ∈ T.flatten ∨ x ∈ lf) ∧ (∀ o ∈ J, Good κ o) ∧ lf.length = k ∧ k ≤ n)
      (fun env m' => ∃ (T : List (List Nat)) (J : List O) (f3 f4 f5 f6 f7 : Option D), env = [some (eR n os), some (.lst (nI [])), some (.ref (m.length + 0)), f3, f4, f5, f6, f7] ∧ m' = m ++ (.lst (T.map tN) :: J) ∧ Pcs os T ∧ (∀ x, x < n → x ∈ T.flatten) ∧ ∀ o ∈ J, Good κ o) ?_ turnsMax n _ _ (by unfold turnsMax; omega) ⟨[], List.range n, [], none, none, none, none, none, rfl, rfl, ⟨by simp, by simp⟩, fun x hx => ⟨List.mem_range.mp hx, by simp⟩, fun x hx => .inr (List.mem_range.mpr hx), by simp, by simp, Nat.le_refl n⟩
    rintro k env m' ⟨T, lf, J, f3, f4, f5, f6, f7, rfl, rfl, hP, hlf, hcov, hJ, hk, hkn⟩
    obtain ⟨l1, l2⟩ := hP.len
    have wm : ∀ (T : List (List Nat)) (J : List O), (∀ o ∈ J, Good κ o) → WF κ (m ++ (.lst (T.map tN) :: J)) := fun T J hJ => w.app fun o ho => by
      rcases List.mem_cons.mp ho with rfl | ho
      · exact good_lst (fk_map (fun (c : List Nat) => (Enc.fk κ c : Fk κ (tN c))) T)
      · exact hJ o ho
    have hne : cmpV .ne (m ++ (.lst (T.map tN) :: J)) (.lst (nI lf)) (.lst []) = some (!decide (lf = [])) := by
      have h1 : pdV (m ++ (.lst (T.map tN) :: J)) (.lst (nI lf)) = some (.list (lf.map Enc.p)) := by
        have h : pd0s (nI lf) = some (lf.map Enc.p) := pd0s_map (α := Nat) (e := fun (x : Nat) => D.int (x : Nat)) Enc.pd lf
        show pd0 (.lst (nI lf)) = _
        simp only [pd0, h, Option.map_some]
      have h2 : pdV (m ++ (.lst (T.map tN) :: J)) (.lst []) = some (.list []) := by
        show pd0 (.lst []) = _
        simp [pd0, pd0s]
      have h3 : SeqAt.shaped (.list (lf.map Enc.p)) = true := by
        unfold SeqAt.shaped
        rw [Bool.and_eq_true, decide_eq_true_eq]
        refine ⟨by simp only [PyData.canLay0]; exact lay_map Enc.lay lf, ?_⟩
        have := dep_map (Enc.depth (α := Nat)) lf
        simp only [PyData.depth]
        have e : Enc.dep Nat = 1 := rfl
        omega
      have h4 : PyData.eqv (.list (lf.map Enc.p)) (.list []) = decide (lf = []) := by
        cases lf <;> simp [PyData.eqv, PyData.eqvAll]
      simp only [cmpV, eqV2, h1, h2, h3, shaped_nil, Bool.and_true, if_true, h4, Option.map_some]
    have hc : ev (MP.run Pg L) (.cmp .ne (.var 1) (.lst .nil)) [some (eR n os), some (.lst (nI lf)), some (.ref (m.length + 0)), f3, f4, f5, f6, f7] (m ++ (.lst (T.map tN) :: J)) = .ok (.bl (!decide (lf = []))) (m ++ (.lst (T.map tN) :: J)) := a_cmp (a_var rfl) (a_lst s_nil rfl) hne
    cases lf with
    | nil =>
      left
      exact ⟨_, _, hc, rfl, T, J, f3, f4, f5, f6, f7, rfl, rfl, hP, fun x hx => by
        rcases hcov x hx with z | z
        · exact z
        · simp at z, hJ⟩
    | cons s lf =>
      right
      obtain ⟨hs, hsT⟩ := hlf s List.mem_cons_self
      have hJlen : (O.lst (T.map tN) :: J).length = J.length + 1 := rfl
      have e0 : m ++ (O.lst (T.map tN) :: J) ++ [.dic []] = m ++ ((O.lst (T.map tN) :: J) ++ [.dic []]) := List.append_assoc _ _ _
      have g1 : ev (MP.run Pg L) (.thaw (.emptyDict)) [some (eR n os), some (.lst (nI (s :: lf))), some (.ref (m.length + 0)), f3, f4, f5, f6, f7] (m ++ (.lst (T.map tN) :: J)) = .ok (.ref (m.length + (O.lst (T.map tN) :: J).length)) (m ++ ((.lst (T.map tN) :: J) ++ [.dic (kvT [])])) := a_thawR a_dictl
      have g2 : ev (MP.run Pg L) (.newL (.cons (.ix (.var 1) (.lit (.int 0))) .nil)) [some (eR n os), some (.lst (nI (s :: lf))), some (.ref (m.length + 0)), f3, f4, f5, f6, f7] (m ++ ((.lst (T.map tN) :: J) ++ [.dic (kvT [])])) = .ok (.ref (m.length + ((O.lst (T.map tN) :: J).length + 1))) (m ++ ((.lst (T.map tN) :: J) ++ [.dic (kvT []), .lst (nI [s])])) := by
        have := a_newLk (C := MP.run Pg L) (env := [some (eR n os), some (.lst (nI (s :: lf))), some (.ref (m.length + 0)), f3, f4, f5, f6, f7]) (m := m) (l := (.lst (T.map tN) :: J) ++ [.dic (kvT [])]) (l' := (.lst (T.map tN) :: J) ++ [.dic (kvT [])]) (es := .cons (.ix (.var 1) (.lit (.int 0))) .nil) (ds := [.int (s : Nat)]) (k := (O.lst (T.map tN) :: J).length + 1) (s_cons (a_ix (a_var rfl) a_lit (ix_lstM (f := fun (x : Nat) => D.int (x : Nat)) (xs := s :: lf) (k := 0) (j := 0) rfl rfl)) s_nil) rfl (by rw [List.length_append]; rfl)
        rw [List.append_assoc] at this
        exact this
      obtain ⟨env2, m2, hw, F, f5', rfl, rfl, hFn, hF⟩ := lp_walk (κ := κ) (L := L) (os := os) (s := s) hn hl hs (m := m) (J := .lst (T.map tN) :: J) (wm T J hJ) (f1 := some (.lst (nI (s :: lf)))) (f2 := some (.ref (m.length + 0))) (f5 := f5) (f6 := f6) (f7 := f7)
      have hFmem : ∀ x, x ∈ F ↔ x ∈ pce os s := fun x => by rw [← hF]; exact ((sortB_self F).mem_iff).symm
      have hFl : F.length ≤ n := by
        have := (sortB_self (le := leN) F).length_eq
        rw [hF] at this
        have := pce_len (os := os) s
        omega
      have hsrt : callV .sorted (m ++ ((.lst (T.map tN) :: J) ++ [.dic (kvT F), .lst (nI [])])) [.ref (m.length + (O.lst (T.map tN) :: J).length)] = some (.lst (nI (pce os s)), m ++ ((.lst (T.map tN) :: J) ++ [.dic (kvT F), .lst (nI [])])) := by
        have e : (kvT F).map (fun q => keyD q.1) = nI F := kvT_keys F
        have := v_sortedD (m := m) (l := (.lst (T.map tN) :: J) ++ [.dic (kvT F), .lst (nI [])]) (j := (O.lst (T.map tN) :: J).length) (kvs := kvT F) (getl _ _ _) (by rw [e]; exact sortOk_nI F)
        rw [e, show sortD (nI F) = nI (sortB leN F) from sortD_B leP_N F, hF] at this
        exact this
      have happ := v_append (m := m) (l := .lst (T.map tN) :: (J ++ [.dic (kvT F), .lst (nI [])])) (j := 0) (ds := T.map tN) (d := tN (pce os s)) rfl (by rw [List.length_map]; omega)
      rw [show T.map tN ++ [tN (pce os s)] = (T ++ [pce os s]).map tN by rw [List.map_append]; rfl] at happ
      have hJ2 : ∀ o ∈ J ++ [.dic (kvT F), .lst (nI [])], Good κ o := fun o ho => by
        rcases List.mem_append.mp ho with ho | ho
        · exact hJ o ho
        · rcases List.mem_cons.mp ho with rfl | ho
          · exact good_dic F
          · rw [List.mem_singleton.mp ho]
            exact good_nI []
      have hni : ∀ (x : Nat) (X : List O), cmpV .notIn (m ++ (.lst ((T ++ [pce os s]).map tN) :: (J ++ [.dic (kvT F), .lst (nI [])])) ++ X) (.int (x : Nat)) (.ref (m.length + (O.lst (T.map tN) :: J).length)) = some (!decide (x ∈ F)) := fun x X => by
        rw [List.append_assoc]
        refine kvT_notIn (j := (O.lst (T.map tN) :: J).length) ?_
        have : (((O.lst ((T ++ [pce os s]).map tN) :: J) ++ [.dic (kvT F), .lst (nI [])]) ++ X)[(O.lst ((T ++ [pce os s]).map tN) :: J).length]? = some (.dic (kvT F)) := by
          rw [List.getElem?_append_left (by simp)]
          exact getl _ _ _
        exact this
      have hcm := a_comp (κ := κ) (C := MP.run Pg L) (env := [some (eR n os), some (.lst (nI (s :: lf))), some (.ref (m.length + 0)), some (.ref (m.length + (O.lst (T.map tN) :: J).length)), some (.ref (m.length + ((O.lst (T.map tN) :: J).length + 1))), f5', f6, f7]) (m := m ++ (.lst ((T ++ [pce os s]).map tN) :: (J ++ [.dic (kvT F), .lst (nI [])]))) (g := fun (x : Nat) => D.int (x : Nat)) (p := fun x => !decide (x ∈ F)) (f := fun (x : Nat) => D.int (x : Nat)) (own := [6]) (tg := .name 6) (src := .of (.var 1)) (ifs := .cons (.cmp .notIn (.var 6) (.var 3)) .nil) (elt := .var 6) (s :: lf) (wm _ _ hJ2) (r_lst (a_var rfl)) (fun acc i => at_lst _ _ _ _) (fun x _ => ⟨_, rfl, fun m' acc hm' w' => ⟨t_oneB (a_cmp (a_var rfl) (a_var rfl) (by rw [hm']; exact hni x _)), fun _ => ⟨a_var rfl, Fk.int _⟩⟩⟩) (by omega)
      have hsF : s ∈ F := (hFmem s).mpr (self_pce hs)
      have hlt : ((s :: lf).filter fun x => !decide (x ∈ F)).length < (s :: lf).length := by
        rw [List.filter_cons, decide_eq_true hsF]
        have := List.length_filter_le (fun x => !decide (x ∈ F)) lf
        simp only [Bool.not_true, Bool.false_eq_true, if_false, List.length_cons]
        omega
      refine ⟨_, _, [some (eR n os), some (.lst (nI ((s :: lf).filter fun x => !decide (x ∈ F)))), some (.ref (m.length + 0)), some (.ref (m.length + (O.lst (T.map tN) :: J).length)), some (.ref (m.length + ((O.lst (T.map tN) :: J).length + 1))), f5', f6, f7], m ++ (.lst ((T ++ [pce os s]).map tN) :: (J ++ [.dic (kvT F), .lst (nI [])])), ((s :: lf).filter fun x => !decide (x ∈ F)).length, hc, rfl, x_asg (a_tup (s_cons g1 (s_cons g2 s_nil)) rfl) rfl (x_while hw (x_expr (a_meth (T := "list") (a_var rfl) (v_clsL (l := .lst (T.map tN) :: (J ++ [.dic (kvT F), .lst (nI [])])) (j := 0) rfl) rfl (s_cons (a_callB (s_cons (a_callB (s_cons (a_var rfl) s_nil) hsrt) s_nil) (tuple_lst _ _)) s_nil) (v_clsL (l := .lst (T.map tN) :: (J ++ [.dic (kvT F), .lst (nI [])])) (j := 0) rfl) happ) (x_asg hcm rfl x_nil))), by omega, T ++ [pce os s], _, _, _, _, _, _, _, rfl, rfl, hP.add hs hsT, fun x hx => ?_, fun x hx => ?_, hJ2, rfl, by omega⟩
      · obtain ⟨hx, hxF⟩ := List.mem_filter.mp hx
        have hxF : x ∉ F := by simpa using hxF
        refine ⟨(hlf x hx).1, fun z => ?_⟩
        rw [List.flatten_append, List.mem_append] at z
        rcases z with z | z
        · exact (hlf x hx).2 z
        · exact hxF ((hFmem x).mpr (by simpa using z))
      · rw [List.flatten_append, List.mem_append]
        rcases hcov x hx with z | z
        · exact .inl (.inl z)
        · by_cases hxF : x ∈ F
          · exact .inl (.inr (by simpa using (hFmem x).mp hxF))
          · exact .inr (List.mem_filter.mpr ⟨z, by simpa using hxF⟩)
  have h0 := a_rngL (C := MP.run Pg L) (env := [some (eR n os), none, none, none, none, none, none, none]) (m := m ++ []) (m1 := m ++ []) (m2 := m ++ []) (a := .lit (.int 0)) (b := .ix (.var 0) (.lit (.int 0))) (i := 0) (j := (n : Nat)) a_lit (a_ix (a_var rfl) a_lit ix20) (by omega) (by omega) (by omega) (by omega)
  rw [rngList_nI] at h0
  have h1 : ev (MP.run Pg L) (.newL .nil) [some (eR n os), none, none, none, none, none, none, none] (m ++ []) = .ok (.ref (m.length + 0)) (m ++ [.lst []]) := a_newLl (l := []) (l' := []) s_nil rfl
  have hs1 := v_sortedL (m := m) (l := .lst (T.map tN) :: J) (j := 0) (ds := T.map tN) rfl (sortOk_rows hP.ne)
  rw [sortD_B leP_tN, pcs_of hP hcov] at hs1
  exact c_okl (l := .lst (T.map tN) :: J) (m := m) p_l_pieces rfl (x_par h0 h1 rfl rfl (x_while hw (x_ret (a_callB (s_cons (a_callB (s_cons (a_var rfl) s_nil) hs1) s_nil) (tuple_lst _ _))))) rfl (cl_fx w (Enc.fk κ (pcs os) : Fk κ (.tup ((pcs os).map tN))).1)
end Hd

namespace Hd
open MP PySem L2 PySem.Spec PyProof.Rows
variable {κ : Bool} {L n : Nat}
theorem fk_tN (xs : List Nat) : Fk κ (tN xs) := Enc.fk κ xs
theorem nI_reverse (xs : List Nat) : (nI xs).reverse = nI xs.reverse := by simp [nI]
end Hd

namespace Hd
open MP PySem L2 PySem.Spec PyProof.Rows
variable {κ : Bool} {L n : Nat}
theorem merge_new : ∀ (more acc : List (Key × D)), ((acc ++ more).map (·.1)).Nodup → mergeD acc more = acc ++ more
  | [], acc, _ => by simp [mergeD]
  | q :: more, acc, h => by
    show mergeD (putD acc q.1 q.2) more = _
    have hn : ¬((acc.any fun kv => decide (kv.1 = q.1)) = true) := fun z => by
      rw [List.any_eq_true] at z
      obtain ⟨kv, hkv, e⟩ := z
      have e := of_decide_eq_true e
      rw [List.map_append, List.nodup_append] at h
      exact h.2.2 _ (List.mem_map.mpr ⟨kv, hkv, rfl⟩) _ (List.mem_map.mpr ⟨q, List.mem_cons_self, rfl⟩) e
    have e : putD acc q.1 q.2 = acc ++ [q] := by
      unfold putD
      rw [if_neg hn]
    rw [e, merge_new more (acc ++ [q]) (by rw [List.append_assoc]; exact h), List.append_assoc]
    rfl
def kvI (c : List Nat) : List (Key × D) := c.map fun (x : Nat) => ((Sum.inl (x : Int) : Key), D.int (c.idxOf x : Nat))
theorem kvI_get {c : List Nat} {x : Nat} (h : x ∈ c) : getD? (kvI c) (.inl (x : Nat)) = some (.int (c.idxOf x : Nat)) := by
  have key : ∀ (d : List Nat), x ∈ d → (d.map fun (x : Nat) => ((Sum.inl (x : Int) : Key), D.int (c.idxOf x : Nat))).find? (fun kv => decide (kv.1 = Sum.inl (x : Int))) = some (Sum.inl (x : Int), D.int (c.idxOf x : Nat)) := fun d => by
    induction d with
    | nil => intro h; simp at h
    | cons y d ih =>
      intro h
      rw [List.map_cons, List.find?_cons]
      by_cases e : y = x
      · subst e
        simp
      · have : decide ((Sum.inl (y : Int) : Key) = Sum.inl (x : Int)) = false := decide_eq_false fun z => e (by have := Sum.inl.inj z; omega)
        simp only [this]
        rcases List.mem_cons.mp h with z | z
        · exact absurd z.symm e
        · exact ih z
  unfold getD? kvI
  rw [key c h]
  rfl
theorem pairs_kvI {c d : List Nat} : pairs? (d.map fun (x : Nat) => D.tup [.int (x : Nat), .int (c.idxOf x : Nat)]) = some (d.map fun (x : Nat) => ((Sum.inl (x : Int) : Key), D.int (c.idxOf x : Nat))) := by
  induction d with
  | nil => rfl
  | cons x d ih => simp [pairs?, key?, ih]
abbrev eOn {n : Nat} (c : List Nat) (os : List (Or n)) : D := .tup [.int (c.length : Nat), .tup (os.map fun o => tN (onO c o.1))]
theorem eOn_row {os : List (Or n)} {c : List Nat} {ps : List (Or c.length)} (h : ps.map (fun p => p.1) = os.map fun o => onO c o.1) : eOn c os = eR c.length ps := by
  have e : (os.map fun o => tN (onO c o.1)) = ps.map eO := by
    have := congrArg (List.map tN) h
    rw [List.map_map, List.map_map] at this
    exact this.symm
  show D.tup [.int (c.length : Nat), .tup (os.map fun o => tN (onO c o.1))] = .tup [.int (c.length : Nat), .tup (ps.map eO)]
  rw [e]
theorem fk_On (c : List Nat) (os : List (Or n)) : Fk κ (eOn c os) := by
  have : eOn c os = Enc.e ((c.length, os.map fun o => onO c o.1) : Nat × List (List Nat)) := by
    show D.tup [.int (c.length : Nat), .tup (os.map fun o => tN (onO c o.1))] = .tup [.int (c.length : Nat), .tup ((os.map fun o => onO c o.1).map tN)]
    rw [List.map_map]
    rfl
  rw [this]
  exact Enc.fk κ _
theorem g_on_piece {os : List (Or n)} {c : List Nat} (h : OnOk os c) (hn : n ≤ 1000) (hl : os.length ≤ 1000) : Gv κ Pg (L + 1) i_on_piece [eR n os, tN c] (eOn c os) := fun m w => by
  obtain ⟨h1, h2, h3⟩ := h
  have hcl : c.length ≤ n := nodup_le h1 h2
  have hc := a_comp0 (κ := κ) (C := MP.run Pg L) (env := [some (eR n os), some (tN c), none, none, none, none]) (m := m ++ []) (g := fun (i : Nat) => D.wtup [.int (i : Nat), .int (c.getD i 0 : Nat)]) (f := fun (i : Nat) => D.tup [.int (c.getD i 0 : Nat), .int (i : Nat)]) (own := [3, 4]) (tg := .pair (.cons (.name 3) (.cons (.name 4) .nil))) (src := .enum (.var 1)) (elt := .tup (.cons (.var 4) (.cons (.var 3) .nil))) (List.range c.length) w.nil (r_enumT (a_var rfl)) (fun acc i => by
      simp only [SrcV.at, nI, List.getElem?_map]
      by_cases hi : i < c.length
      · simp [hi, List.getD]
      · simp [hi]) (fun i _ => ⟨_, rfl, fun m' acc _ w' => ⟨a_tup (s_cons (a_var rfl) (s_cons (a_var rfl) s_nil)) rfl, Fk.tup fun d hd => by
      rcases List.mem_cons.mp hd with rfl | hd
      · exact Fk.int _
      · rw [List.mem_singleton.mp hd]
        exact Fk.int _⟩⟩) (by rw [List.length_range]; omega)
  have e1 : ((List.range c.length).map fun (i : Nat) => D.tup [.int (c.getD i 0 : Nat), .int (i : Nat)]) = c.map fun (x : Nat) => D.tup [.int (x : Nat), .int (c.idxOf x : Nat)] := by
    refine List.ext_getElem (by simp) fun i hi hj => ?_
    have hi : i < c.length := by simpa using hi
    have := get_idx h1 hi
    have e : c.getD i 0 = c[i] := by simp [List.getD, hi]
    rw [e] at this
    simp [List.getD, hi, this]
  rw [e1] at hc
  have hmd : mergeD [] (kvI c) = kvI c := merge_new _ [] (by
    rw [List.nil_append]
    unfold kvI
    rw [List.map_map, List.Nodup, List.pairwise_map]
    exact List.Pairwise.imp (fun {x y} hxy e => hxy (by have := Sum.inl.inj e; omega)) h1)
  have hd : callV .dict (m ++ []) [.lst (c.map fun (x : Nat) => D.tup [.int (x : Nat), .int (c.idxOf x : Nat)])] = some (.ref (m.length + 0), m ++ [.dic (kvI c)]) := by
    simp only [callV, seqV, pairs_kvI]
    rw [List.append_nil]
    show some (D.ref m.length, m ++ [O.dic (mergeD [] (kvI c))]) = _
    rw [hmd]
    rfl
  have wk : WF κ (m ++ [.dic (kvI c)]) := w.app fun o ho => by
    rw [List.mem_singleton.mp ho]
    have hv : ∀ d ∈ (kvI c).map (·.2), Fk κ d := fun d hd => by
      obtain ⟨q, hq, rfl⟩ := List.mem_map.mp hd
      obtain ⟨x, _, rfl⟩ := List.mem_map.mp hq
      exact Fk.int _
    exact ⟨fun k => bndDs_iff.mpr fun d hd => (hv d hd).1 k, fun hk => noLs_iff.mpr fun d hd => (hv d hd).2 hk⟩
  have hc2 := a_comp0 (κ := κ) (C := MP.run Pg L) (env := [some (eR n os), some (tN c), some (.ref (m.length + 0)), none, none, none]) (m := m ++ [.dic (kvI c)]) (g := eO) (f := fun (o : Or n) => tN (onO c o.1)) (own := [5]) (tg := .name 5) (src := .of (.ix (.var 0) (.lit (.int 1)))) (elt := .callB .tuple (.cons (.comp (.name 4) (.of (.var 1)) .nil (.ix (.var 2) (.ix (.var 5) (.var 4))) [4]) .nil)) os wk (r_tup (a_ix (a_var rfl) a_lit ix21)) (fun acc i => at_tup eO os _ i) (fun o ho => ⟨_, rfl, fun m' acc hm w' => by
    have hc3 := a_comp0 (κ := κ) (C := MP.run Pg L) (env := [some (eR n os), some (tN c), some (.ref (m.length + 0)), none, none, some (eO o)]) (m := m') (g := fun (x : Nat) => D.int (x : Nat)) (f := fun (x : Nat) => D.int (c.idxOf (o.1.getD x 0) : Nat)) (own := [4]) (tg := .name 4) (src := .of (.var 1)) (elt := .ix (.var 2) (.ix (.var 5) (.var 4))) c w' (r_tup (a_var rfl)) (fun acc i => at_tup _ _ _ _) (fun x hx => ⟨_, rfl, fun m2 acc2 hm2 w2 => by
      have hg : m2[m.length + 0]? = some (.dic (kvI c)) := by
        rw [hm2, hm, List.append_assoc, List.append_assoc]
        exact loc_get (l := [.dic (kvI c)] ++ ([O.acc acc] ++ [O.acc acc2])) (j := 0)
      have hix : ixV m2 (.ref (m.length + 0)) (.int (o.1.getD x 0 : Nat)) = some (.int (c.idxOf (o.1.getD x 0) : Nat)) := by
        simp only [ixV, hg, key?, kvI_get (h3 o ho x hx)]
      exact ⟨a_ix (a_var rfl) (a_ix (a_var rfl) (a_var rfl) (ix_tN2 (by rw [o.2.1]; exact h2 x hx) _)) hix, Fk.int _⟩⟩) (by omega)
    have e3 : (c.map fun (x : Nat) => D.int (c.idxOf (o.1.getD x 0) : Nat)) = nI (onO c o.1) := by
      unfold nI onO
      rw [List.map_map]
      rfl
    rw [e3] at hc3
    exact ⟨a_callB (s_cons hc3 s_nil) (tuple_lst _ _), fk_tN _⟩⟩) (by omega)
  exact c_okl (l := [.dic (kvI c)]) (m := m) p_on_piece rfl (x_asg (a_callB (s_cons hc s_nil) hd) rfl (x_ret (a_tup (s_cons (a_callB (s_cons (a_var rfl) s_nil) (len_tN _ _)) (s_cons (a_callB (s_cons hc2 s_nil) (tuple_lst _ _)) s_nil)) rfl))) rfl (cl_fx w (fk_On (κ := κ) c os).1)
theorem g_l_on {os : List (Or n)} {c : List Nat} (h : OnOk os c) (hn : n ≤ 1000) (hl : os.length ≤ 1000) : Gv κ Pg (L + 1) i_l_on [eR n os, tN c] (eOn c os) := fun m w => by
  obtain ⟨h1, h2, h3⟩ := h
  have hcl : c.length ≤ n := nodup_le h1 h2
  have hc2 := a_comp0 (κ := κ) (C := MP.run Pg L) (env := [some (eR n os), some (tN c), none, none]) (m := m ++ []) (g := eO) (f := fun (o : Or n) => tN (onO c o.1)) (own := [2]) (tg := .name 2) (src := .of (.ix (.var 0) (.lit (.int 1)))) (elt := .callB .tuple (.cons (.comp (.name 3) (.of (.var 1)) .nil (.meth .index (.var 1) (.cons (.ix (.var 2) (.var 3)) .nil)) [3]) .nil)) os w.nil (r_tup (a_ix (a_var rfl) a_lit ix21)) (fun acc i => at_tup eO os _ i) (fun o ho => ⟨_, rfl, fun m' acc hm w' => by
    have hc3 := a_comp0 (κ := κ) (C := MP.run Pg L) (env := [some (eR n os), some (tN c), some (eO o), none]) (m := m') (g := fun (x : Nat) => D.int (x : Nat)) (f := fun (x : Nat) => D.int (c.idxOf (o.1.getD x 0) : Nat)) (own := [3]) (tg := .name 3) (src := .of (.var 1)) (elt := .meth .index (.var 1) (.cons (.ix (.var 2) (.var 3)) .nil)) c w' (r_tup (a_var rfl)) (fun acc i => at_tup _ _ _ _) (fun x hx => ⟨_, rfl, fun m2 acc2 hm2 w2 => ⟨a_meth (T := "tuple") (a_var rfl) rfl rfl (s_cons (a_ix (a_var rfl) (a_var rfl) (ix_tN2 (by rw [o.2.1]; exact h2 x hx) _)) s_nil) rfl (index_tN (h3 o ho x hx) _), Fk.int _⟩⟩) (by omega)
    have e3 : (c.map fun (x : Nat) => D.int (c.idxOf (o.1.getD x 0) : Nat)) = nI (onO c o.1) := by
      unfold nI onO
      rw [List.map_map]
      rfl
    rw [e3] at hc3
    exact ⟨a_callB (s_cons hc3 s_nil) (tuple_lst _ _), fk_tN _⟩⟩) (by omega)
  exact c_okl (l := []) p_l_on rfl (x_ret (a_tup (s_cons (a_callB (s_cons (a_var rfl) s_nil) (len_tN _ _)) (s_cons (a_callB (s_cons hc2 s_nil) (tuple_lst _ _)) s_nil)) rfl)) rfl (cl_fx w (fk_On (κ := κ) c os).1)
end Hd

namespace Hd
open MP PySem L2 PySem.Spec PyProof.Rows
variable {κ : Bool} {L n : Nat}
theorem at_zipT {α β : Type} (f : α → D) (g : β → D) : ∀ (xs : List α) (ys : List β) (m : Mem) (i : Nat), (SrcV.zp (.tup (xs.map f)) (.tup (ys.map g))).at m i = some (((xs.zip ys).map fun p => D.wtup [f p.1, g p.2])[i]?) := fun xs ys m i => by
  simp only [SrcV.at, List.getElem?_map, List.zip, List.getElem?_zipWith]
  cases xs[i]? <;> cases ys[i]? <;> rfl
theorem mul_small {i j : Nat} (hi : i ≤ 1000) (hj : j ≤ 1000) : mulOk (i : Nat) (j : Nat) = true := mulOk_of (k := 10) (l := 10) (by omega) (by omega) (by omega) (by omega) (by decide) (by decide) (by decide)
theorem foldl_snoc {α β : Type} (f : α → β) : ∀ (xs : List α) (s : List β), xs.foldl (fun s x => s ++ [f x]) s = s ++ xs.map f
  | [], s => by simp
  | x :: xs, s => by
    rw [List.foldl_cons, foldl_snoc f xs, List.map_cons, List.append_assoc]
    rfl
theorem g_pulled_by {a b : Nat} {os : List (Or a)} {ps : List (Or b)} (ha : a ≤ 30) (hb : b ≤ 30) (hl : os.length ≤ 1000) : Gv κ Pg (L + 1) i_pulled_by [eR a os, eR b ps] (eR (a * b) (puls os ps)) := fun m w => by
  have hab : a * b ≤ 30 * 30 := Nat.mul_le_mul ha hb
  obtain ⟨j', hfo, hI⟩ := for_st (src := .zp (.tup (os.map eO)) (.tup (ps.map eO))) (tg := .pair (.cons (.name 4) (.cons (.name 5) .nil))) (body := fun env' m' => exs (MP.run Pg L) (.cons (.expr (.meth .append (.var 3) (.cons (.callB .tuple (.cons (.comp2 (.name 6) (.rng1 (.ix (.var 0) (.lit (.int 0)))) .nil (.name 7) (.rng1 (.var 2)) .nil (.bin .add (.bin .mul (.ix (.var 4) (.var 6)) (.var 2)) (.ix (.var 5) (.var 7))) [6, 7] [7]) .nil)) .nil))) .nil) env' m')
    (g := fun _ (x : Or a × Or b) => D.wtup [eO x.1, eO x.2]) (os.zip ps) (fun (s : List (Or (a * b))) x => s ++ [pul x.1 x.2])
    (E := fun _ (j : Option D × Option D) => [some (eR a os), some (eR b ps), some (.int (b : Nat)), some (.ref (m.length + 0)), j.1, j.2, none, none]) (M := fun s => m ++ [.lst (s.map eO)]) (Inv := fun i s => s.length = i)
    (fun s i _ _ => by rw [at_zipT, List.getElem?_map])
    (fun i hi s j hI => by
      have hzl : (os.zip ps).length ≤ 1000 := by rw [List.length_zip]; omega
      obtain ⟨x, hx⟩ : ∃ x, (os.zip ps)[i] = x := ⟨_, rfl⟩
      rw [hx]
      obtain ⟨o, p⟩ := x
      have hw : WF κ (m ++ [.lst (s.map eO)]) := w.app fun q hq => by
        rw [List.mem_singleton.mp hq]
        exact good_lst (fk_map fk_o s)
      have hc := a_comp2 (κ := κ) (C := MP.run Pg L) (env := [some (eR a os), some (eR b ps), some (.int (b : Nat)), some (.ref (m.length + 0)), some (eO o), some (eO p), none, none]) (m := m ++ [.lst (s.map eO)]) (m1 := m ++ [.lst (s.map eO)]) (g := fun (k : Nat) => D.int (0 + (k : Int))) (zs := fun _ => List.range b) (g2 := fun _ (k : Nat) => D.int (0 + (k : Int))) (f := fun (i j : Nat) => D.int ((o.1.getD i 0 * b + p.1.getD j 0 : Nat) : Int)) (tg := .name 6) (tg2 := .name 7) (src := .rng1 (.ix (.var 0) (.lit (.int 0)))) (src2 := .rng1 (.var 2)) (own := [6, 7]) (own2 := [7]) (elt := .bin .add (.bin .mul (.ix (.var 4) (.var 6)) (.var 2)) (.ix (.var 5) (.var 7))) (List.range a) hw (r_rng1 (j := (a : Nat)) (a_ix (a_var rfl) a_lit ix20) (by omega) (by omega)) (fun acc i => at_rng _ _ _ _)
        (fun y hy => ⟨_, rfl, .rng 0 b, fun m' acc hm' w' => r_rng1 (j := (b : Nat)) (a_var rfl) (by omega) (by omega), fun acc i => at_rng _ _ _ _, fun z hz => ⟨_, rfl, fun m' acc hm' w' => by
          have hy := List.mem_range.mp hy
          have hz := List.mem_range.mp hz
          have h1 := o.2.lt hy
          have h2 := p.2.lt hz
          refine ⟨a_bin (a_bin (a_ix (a_var rfl) (a_var rfl) (by rw [Int.zero_add]; exact ix_tN2 (by rw [o.2.1]; exact hy) _)) (a_var rfl) (bin_mul _ (mul_small (by omega) (by omega)))) (a_ix (a_var rfl) (a_var rfl) (by rw [Int.zero_add]; exact ix_tN2 (by rw [p.2.1]; exact hz) _)) (by rw [bin_add]; simp), Fk.int _⟩⟩⟩) (by
          have := flat_len (f := fun (i j : Nat) => D.int ((o.1.getD i 0 * b + p.1.getD j 0 : Nat) : Int)) a b
          omega) (by rw [List.length_range]; omega)
      have ef : ((List.range a).flatMap fun i => (List.range b).map fun j => D.int ((o.1.getD i 0 * b + p.1.getD j 0 : Nat) : Int)) = nI (pul o p).1 := by
        show _ = nI (pulL a b o.1 p.1)
        unfold nI pulL
        rw [List.map_flatMap]
        refine congrArg (fun f => (List.range a).flatMap f) (funext fun i => ?_)
        show ((List.range b).map fun j => D.int ((o.1.getD i 0 * b + p.1.getD j 0 : Nat) : Int)) = ((List.range b).map fun j => o.1.getD i 0 * b + p.1.getD j 0).map fun (n : Nat) => D.int (n : Nat)
        rw [List.map_map]
        rfl
      rw [ef] at hc
      have happ := v_append (m := m) (l := [.lst (s.map eO)]) (j := 0) (ds := s.map eO) (d := eO (pul o p)) rfl (by rw [List.length_map]; omega)
      rw [show s.map eO ++ [eO (pul o p)] = (s ++ [pul o p]).map eO by rw [List.map_append]; rfl] at happ
      exact ⟨_, (some (eO o), some (eO p)), rfl, x_expr (a_meth (T := "list") (a_var rfl) (v_clsL (l := [.lst (s.map eO)]) (j := 0) rfl) rfl (s_cons (a_callB (s_cons hc s_nil) (tuple_lst _ _)) s_nil) (v_clsL (l := [.lst (s.map eO)]) (j := 0) rfl) happ) x_nil, by simp [hI]⟩)
    (by rw [List.length_zip]; omega) [] (none, none) rfl
  rw [foldl_snoc, List.nil_append] at hfo
  have hz := r_zipT (C := MP.run Pg L) (env := [some (eR a os), some (eR b ps), some (.int (b : Nat)), some (.ref (m.length + 0)), none, none, none, none]) (m := m ++ [.lst []]) (m1 := m ++ [.lst []]) (m2 := m ++ [.lst []]) (a := .ix (.var 0) (.lit (.int 1))) (b := .ix (.var 1) (.lit (.int 1))) (ds := os.map eO) (es := ps.map eO) (a_ix (a_var rfl) a_lit ix21) (a_ix (a_var rfl) a_lit ix21)
  have hnew : ev (MP.run Pg L) (.newL .nil) [some (eR a os), some (eR b ps), none, none, none, none, none, none] (m ++ []) = .ok (.ref (m.length + 0)) (m ++ [.lst []]) := a_newLl (l := []) (l' := []) s_nil rfl
  have ht := v_tuple (m := m) (l := [.lst ((puls os ps).map eO)]) (j := 0) rfl
  exact c_okl (l := [.lst ((puls os ps).map eO)]) (m := m) p_pulled_by rfl (x_asg (a_tup (s_cons (a_ix (a_var rfl) a_lit ix20) (s_cons hnew s_nil)) rfl) rfl (x_for hz hfo (x_ret (a_tup (s_cons (a_bin (a_ix (a_var rfl) a_lit ix20) (a_var rfl) (by rw [bin_mul _ (mul_small (by omega) (by omega))]; simp)) (s_cons (a_callB (s_cons (a_var rfl) s_nil) ht) s_nil)) rfl)))) rfl (cl_fx w (fk_r (κ := κ) (puls os ps)).1)
end Hd

namespace Hd
open MP PySem L2 PySem.Spec PyProof.Rows
variable {κ : Bool} {L n : Nat}
theorem cycW_len (o seen : List Nat) : ∀ (f at_ : Nat) (own : List Nat), own.length ≤ (cycW o f seen at_ own).length
  | 0, _, own => Nat.le_refl _
  | f + 1, at_, own => by
    unfold cycW
    split
    · exact Nat.le_refl _
    · have := cycW_len o seen f (o.getD at_ 0) (own ++ [at_])
      rw [List.length_append, List.length_singleton] at this
      omega
def plB : Sts := (.cons (.delIx (.var 8) (.var 11)) (.cons (.par 10 11 (.bin .add (.var 10) (.lit (.int 1))) (.ix (.var 4) (.var 11))) .nil))
section
variable {o : List Nat} {m0 : Mem}
theorem pl_walk (ho : isOrd n o) (hn : n ≤ 1000) {seen ls : List Nat} {g0 g1 g2 g3 g5 g6 g7 : Option D} {tgt : List Nat} : ∀ N k env m', k < N → (∃ own ks at_, env = [g0, g1, g2, g3, some (tN o), g5, g6, g7, some (.ref (m0.length + 0)), some (.ref (m0.length + 1)), some (.int ((List.length own : Nat) : Int)), some (.int ((at_ : Nat) : Int)), none] ∧ m' = m0 ++ [.dic (kvT ks), .lst (nI ls)] ∧ at_ < n ∧ (∀ x, x < n → (x ∈ ks ↔ x ∉ seen ++ own)) ∧ cycW o (k + 1) seen at_ own = tgt ∧ freeN n (seen ++ own) ≤ k) →
    ∃ env2 m2, whileLoop (fun env' m' => ev (MP.run Pg L) (.cmp .inn (.var 11) (.var 8)) env' m') (fun env' m' => exs (MP.run Pg L) plB env' m') N env m' = .ok .nx env2 m2 ∧ ∃ ks at_, env2 = [g0, g1, g2, g3, some (tN o), g5, g6, g7, some (.ref (m0.length + 0)), some (.ref (m0.length + 1)), some (.int ((List.length tgt : Nat) : Int)), some (.int ((at_ : Nat) : Int)), none] ∧ m2 = m0 ++ [.dic (kvT ks), .lst (nI ls)] ∧ (∀ x, x < n → (x ∈ ks ↔ x ∉ seen ++ tgt)) := by
  refine while_inv (fun k env m' => ∃ own ks at_, env = [g0, g1, g2, g3, some (tN o), g5, g6, g7, some (.ref (m0.length + 0)), some (.ref (m0.length + 1)), some (.int ((List.length own : Nat) : Int)), some (.int ((at_ : Nat) : Int)), none] ∧ m' = m0 ++ [.dic (kvT ks), .lst (nI ls)] ∧ at_ < n ∧ (∀ x, x < n → (x ∈ ks ↔ x ∉ seen ++ own)) ∧ cycW o (k + 1) seen at_ own = tgt ∧ freeN n (seen ++ own) ≤ k)
    (fun env m' => ∃ ks at_, env = [g0, g1, g2, g3, some (tN o), g5, g6, g7, some (.ref (m0.length + 0)), some (.ref (m0.length + 1)), some (.int ((List.length tgt : Nat) : Int)), some (.int ((at_ : Nat) : Int)), none] ∧ m' = m0 ++ [.dic (kvT ks), .lst (nI ls)] ∧ (∀ x, x < n → (x ∈ ks ↔ x ∉ seen ++ tgt))) ?_
  rintro k env m' ⟨own, ks, at_, rfl, rfl, hat, hks, ht, hf⟩
  have hc : ev (MP.run Pg L) (.cmp .inn (.var 11) (.var 8)) [g0, g1, g2, g3, some (tN o), g5, g6, g7, some (.ref (m0.length + 0)), some (.ref (m0.length + 1)), some (.int ((List.length own : Nat) : Int)), some (.int ((at_ : Nat) : Int)), none] (m0 ++ [.dic (kvT ks), .lst (nI ls)]) = .ok (.bl (decide (at_ ∈ ks))) (m0 ++ [.dic (kvT ks), .lst (nI ls)]) := by
    have := v_in (m := m0) (l := [.dic (kvT ks), .lst (nI ls)]) (j := 0) (i := (at_ : Nat)) (kvs := kvT ks) rfl
    rw [kvT_get] at this
    exact a_cmp (a_var rfl) (a_var rfl) this
  by_cases hin : at_ ∈ ks
  · right
    have hns := (hks at_ hat).mp hin
    have hfr := freeN_add hat hns
    rw [List.append_assoc] at hfr
    obtain ⟨k, rfl⟩ : ∃ k', k = k' + 1 := ⟨k - 1, by omega⟩
    have hdel := v_delD (m := m0) (l := [.dic (kvT ks), .lst (nI ls)]) (j := 0) rfl hin
    refine ⟨_, _, [g0, g1, g2, g3, some (tN o), g5, g6, g7, some (.ref (m0.length + 0)), some (.ref (m0.length + 1)), some (.int ((List.length (own ++ [at_]) : Nat) : Int)), some (.int ((o.getD at_ 0 : Nat) : Int)), none], _, k, hc, by simp [truV, hin], x_delIx (a_var rfl) (a_var rfl) hdel (x_par (a_bin (a_var rfl) a_lit (by rw [bin_add, List.length_append]; rfl)) (a_ix (a_var rfl) (a_var rfl) (ix_tN2 (by rw [ho.1]; exact hat) _)) rfl rfl x_nil), by omega, own ++ [at_], ks.filter fun x => decide (x ≠ at_), o.getD at_ 0, rfl, rfl, ho.lt hat, fun x hx => ?_, ?_, by omega⟩
    · rw [List.mem_filter, hks x hx]
      simp
      constructor
      · intro h
        exact ⟨h.1.1, h.1.2, h.2⟩
      · intro h
        exact ⟨⟨h.1, h.2.1⟩, h.2.2⟩
    · rw [← ht, cycW_go hns]
  · left
    have hm : at_ ∈ seen ++ own := Classical.byContradiction fun h => hin ((hks at_ hat).mpr h)
    rw [cycW_stop hm] at ht
    subst ht
    exact ⟨_, _, hc, by simp [truV, hin], ks, at_, rfl, rfl, hks⟩
def plC : Sts := (.cons (.par 10 11 (.lit (.int 0)) (.var 7)) (.cons (.whileS (.cmp .inn (.var 11) (.var 8)) plB) (.cons (.ifS (.cmp .gt (.var 10) (.lit (.int 0))) (.cons (.expr (.meth .append (.var 9) (.cons (.var 10) .nil))) .nil) .nil) .nil)))
/-- the lengths of an order's rounds -/
theorem pl_lens (ho : isOrd n o) (hn : n ≤ 1000) {g0 g1 g2 g3 g5 g6 f7 f10 f11 : Option D} : ∃ f7' f10' f11' ks, forLoop (.rng 0 n) (.name 7) (fun env' m' => exs (MP.run Pg L) plC env' m') turnsMax 0 [g0, g1, g2, g3, some (tN o), g5, g6, f7, some (.ref (m0.length + 0)), some (.ref (m0.length + 1)), f10, f11, none] (m0 ++ [.dic (kvT o), .lst (nI [])]) = .ok .nx [g0, g1, g2, g3, some (tN o), g5, g6, f7', some (.ref (m0.length + 0)), some (.ref (m0.length + 1)), f10', f11', none] (m0 ++ [.dic (kvT ks), .lst (nI (lens o))]) := by
  have lo := ho.1
  obtain ⟨env2, m2, hf, ks, found, e7, e10, e11, rfl, rfl, hfound, _, _⟩ := for_inv (src := .rng 0 n) (tg := .name 7) (body := fun env' m' => exs (MP.run Pg L) plC env' m') n
    (fun i env m' => ∃ (ks : List Nat) (found : List (List Nat)) (e7 e10 e11 : Option D), env = [g0, g1, g2, g3, some (tN o), g5, g6, e7, some (.ref (m0.length + 0)), some (.ref (m0.length + 1)), e10, e11, none] ∧ m' = m0 ++ [.dic (kvT ks), .lst (nI (found.map List.length))] ∧ cycF o n ((List.range n).drop i) found = cyc o ∧ (∀ x, x < n → (x ∈ ks ↔ x ∉ found.flatten)) ∧ found.length ≤ i)
    (fun i env m' hi hI => by
      obtain ⟨ks, found, e7, e10, e11, rfl, rfl, h1, h2, h3⟩ := hI
      have hdr : (List.range n).drop i = i :: (List.range n).drop (i + 1) := by
        rw [List.drop_eq_getElem_cons (by simpa using hi)]
        simp
      rw [hdr] at h1
      have hz : (D.int (0 + (i : Int))) = .int ((i : Nat) : Int) := by rw [Int.zero_add]
      obtain ⟨env2, m2, hw, ks', at_, rfl, rfl, hks'⟩ := pl_walk (L := L) (m0 := m0) (o := o) ho hn (seen := found.flatten) (ls := found.map List.length) (g0 := g0) (g1 := g1) (g2 := g2) (g3 := g3) (g5 := g5) (g6 := g6) (g7 := some (.int ((i : Nat) : Int))) (tgt := cycW o (n + 1) found.flatten i []) turnsMax n _ _ (by unfold turnsMax; omega) ⟨[], ks, i, rfl, rfl, hi, fun x hx => by simpa using h2 x hx, rfl, freeN_le _⟩
      by_cases hm : i ∈ found.flatten
      · have ht : cycW o (n + 1) found.flatten i [] = [] := cycW_stop (by simpa using hm)
        rw [ht] at hw hks'
        refine ⟨.int (0 + (i : Int)), [g0, g1, g2, g3, some (tN o), g5, g6, some (.int ((i : Nat) : Int)), some (.ref (m0.length + 0)), some (.ref (m0.length + 1)), e10, e11, none], _, _, by simp [SrcV.at, hi], by rw [hz]; rfl, x_par a_lit (a_var rfl) rfl rfl (x_while hw (x_ifF (a_cmp (c := false) (a_var rfl) a_lit (by rw [cmp_gt]; rfl)) rfl x_nil)), ks', found, _, _, _, rfl, rfl, ?_, fun x hx => by simpa using hks' x hx, by omega⟩
        rw [← h1]
        conv => rhs; unfold cycF
        rw [if_pos hm]
      · have hpos : 1 ≤ (cycW o (n + 1) found.flatten i []).length := by
          rw [cycW_go (by simpa using hm)]
          have := cycW_len o found.flatten n (o.getD i 0) ([] ++ [i])
          simpa using this
        obtain ⟨C, hC⟩ : ∃ C, cycW o (n + 1) found.flatten i [] = C := ⟨_, rfl⟩
        rw [hC] at hw hks' hpos
        have happ := v_append (m := m0) (l := [.dic (kvT ks'), .lst (nI (found.map List.length))]) (j := 1) (ds := nI (found.map List.length)) (d := .int ((List.length C : Nat) : Int)) rfl (by rw [nI_len, List.length_map]; omega)
        rw [show nI (found.map List.length) ++ [.int ((List.length C : Nat) : Int)] = nI ((found ++ [C]).map List.length) by simp [nI]] at happ
        refine ⟨.int (0 + (i : Int)), [g0, g1, g2, g3, some (tN o), g5, g6, some (.int ((i : Nat) : Int)), some (.ref (m0.length + 0)), some (.ref (m0.length + 1)), e10, e11, none], _, _, by simp [SrcV.at, hi], by rw [hz]; rfl, x_par a_lit (a_var rfl) rfl rfl (x_while hw (x_ifT (a_cmp (c := true) (a_var rfl) a_lit (by rw [cmp_gt]; exact congrArg some (decide_eq_true (by omega)))) rfl (x_expr (a_meth (T := "list") (a_var rfl) (v_clsL (l := [.dic (kvT ks'), .lst (nI (found.map List.length))]) (j := 1) rfl) rfl (s_cons (a_var rfl) s_nil) (v_clsL (l := [.dic (kvT ks'), .lst (nI (found.map List.length))]) (j := 1) rfl) happ) x_nil))), ks', found ++ [C], _, _, _, rfl, rfl, ?_, fun x hx => by rw [hks' x hx, List.flatten_append]; simp, by simp; omega⟩
        rw [← h1]
        conv => rhs; unfold cycF
        rw [if_neg hm, hC])
    (fun env m' hI => by simp [SrcV.at]) turnsMax 0 [g0, g1, g2, g3, some (tN o), g5, g6, f7, some (.ref (m0.length + 0)), some (.ref (m0.length + 1)), f10, f11, none] (m0 ++ [.dic (kvT o), .lst (nI [])]) (Nat.zero_le _) (by unfold turnsMax; omega)
    ⟨o, [], f7, f10, f11, rfl, rfl, by rw [List.drop_zero]; unfold cyc; rw [lo], fun x hx => by simpa using ho.2.2.1 x hx, by simp⟩
  have hfc : found = cyc o := by
    rw [List.drop_eq_nil_of_le (by simp)] at hfound
    exact hfound
  subst hfc
  exact ⟨e7, e10, e11, ks, hf⟩
end
end Hd

namespace Hd
open MP PySem L2 PySem.Spec PyProof.Rows
variable {κ : Bool} {L a b : Nat} {os : List (Or a)} {ps : List (Or b)}
abbrev ePr (b : Nat) (x : Nat) : D := .tup [.int ((x / b : Nat) : Int), .int ((x % b : Nat) : Int)]
abbrev eNc (b : Nat) (c : List Nat) : D := .tup (c.map (ePr b))
abbrev eNs (b : Nat) (T : List (List Nat)) : D := .tup (T.map (eNc b))
abbrev prs (b : Nat) (c : List Nat) : List (Nat × Nat) := c.map fun x => (x / b, x % b)
theorem eNc_e (b : Nat) (c : List Nat) : eNc b c = Enc.e (prs b c) := by
  show D.tup (c.map (ePr b)) = .tup ((c.map fun x => (x / b, x % b)).map Enc.e)
  rw [List.map_map]
  rfl
theorem eNs_e (b : Nat) (T : List (List Nat)) : eNs b T = Enc.e (T.map (prs b)) := by
  show D.tup (T.map (eNc b)) = .tup ((T.map (prs b)).map Enc.e)
  rw [List.map_map]
  refine congrArg D.tup (List.map_congr_left fun c _ => eNc_e b c)
theorem fk_Pr (b x : Nat) : Fk κ (ePr b x) := Enc.fk κ ((x / b, x % b) : Nat × Nat)
theorem fk_Nc (b : Nat) (c : List Nat) : Fk κ (eNc b c) := by
  rw [eNc_e]
  exact Enc.fk κ _
theorem fk_Ns (b : Nat) (T : List (List Nat)) : Fk κ (eNs b T) := by
  rw [eNs_e]
  exact Enc.fk κ _
abbrev eTwo (os : List (Or a)) (ps : List (Or b)) : D := .tup [eR a os, eR b ps]
theorem fk_two (os : List (Or a)) (ps : List (Or b)) : Fk κ (eTwo os ps) := Fk.tup fun d hd => by
  rcases List.mem_cons.mp hd with rfl | hd
  · exact fk_r os
  · rw [List.mem_singleton.mp hd]
    exact fk_r ps
structure Two (os : List (Or a)) (ps : List (Or b)) : Prop where
  a1 : 1 ≤ a
  a24 : a ≤ 24
  b1 : 1 ≤ b
  b24 : b ≤ 24
  ln : os.length = ps.length
  l60 : os.length ≤ 60
theorem Two.ab (h : Two os ps) : a * b ≤ 576 := Nat.mul_le_mul h.a24 h.b24
theorem Two.ul (h : Two os ps) : (puls os ps).length = os.length := by
  unfold puls
  rw [List.length_map, List.length_zip, ← h.ln, Nat.min_self]
theorem g_sure_pair (h : Two os ps) : Gv κ Pg (L + 7) i_sure_pair [eR a os, eR b ps] (eTwo os ps) := fun m w =>
  c_okl (l := []) p_sure_pair rfl (x_par (a_callF (s_cons (a_var rfl) s_nil) ((g_sure_row (L := L) h.a1 h.a24 h.l60).at w.nil)) (a_callF (s_cons (a_var rfl) s_nil) ((g_sure_row (L := L) h.b1 h.b24 (by rw [← h.ln]; exact h.l60)).at w.nil)) rfl rfl (x_ifF (a_cmp (c := false) (a_callB (s_cons (a_ix (a_var rfl) a_lit ix21) s_nil) len_tupM) (a_callB (s_cons (a_ix (a_var rfl) a_lit ix21) s_nil) len_tupM) (by rw [MP.ne_int, h.ln]; simp)) rfl (x_ret (a_tup (s_cons (a_var rfl) (s_cons (a_var rfl) s_nil)) rfl)))) rfl (cl_fx w (fk_two (κ := κ) os ps).1)
abbrev us (os : List (Or a)) (ps : List (Or b)) : List (Or (a * b)) := puls os ps
theorem g_pulled (h : Two os ps) : Gv κ Pg (L + 1) i_pulled_by [eR a os, eR b ps] (eR (a * b) (us os ps)) := g_pulled_by (by have := h.a24; omega) (by have := h.b24; omega) (by have := h.l60; omega)
theorem g_pcs (h : Two os ps) : Gv κ Pg (L + 2) i_pieces_by [eR (a * b) (us os ps)] (.lst ((pcs (us os ps)).map tN)) := g_pieces_by (by have := h.ab; omega) (by rw [h.ul]; have := h.l60; omega)
theorem pcs_ln (h : Two os ps) : (pcs (us os ps)).length ≤ 576 := Nat.le_trans (pcs_len _) h.ab
theorem pcs_el (h : Two os ps) {c : List Nat} (hc : c ∈ pcs (us os ps)) : c.length ≤ 576 := by
  obtain ⟨s, _, rfl⟩ := (pcs_ok _).1.el c hc
  exact Nat.le_trans (pce_len s) h.ab
theorem ev_fdiv {x b : Nat} (hb : 1 ≤ b) (hb2 : b ≤ 24) (m : Mem) : binV .fdiv m (.int (x : Nat)) (.int (b : Nat)) = some (.int ((x / b : Nat) : Int)) := by
  have h : ((b : Nat) : Int).natAbs = b := by omega
  have h2 := Nat.log2_le_self b
  rw [bin_fdiv _ (by omega) (by rw [h]; omega)]
  exact congrArg (fun z => some (D.int z)) (Int.natCast_ediv x b).symm
theorem ev_mod {x b : Nat} (hb : 1 ≤ b) (m : Mem) : binV .mod m (.int (x : Nat)) (.int (b : Nat)) = some (.int ((x % b : Nat) : Int)) := by
  rw [bin_mod _ (by omega)]
  exact congrArg (fun z => some (D.int z)) (Int.natCast_emod x b).symm
/-- a piece's pairs -/
theorem ev_prs {C : Nat → List D → Mem → Res D} {env : MP.Env} {m : Mem} {u v : Nat} {e : Ex} {c : List Nat} (w : WF κ m) (hb : 1 ≤ b) (hb2 : b ≤ 24) (hc : c.length ≤ 1000000) (hv : v < env.length) (he : ∀ x m, ev C (.ix (.var u) (.lit (.int 0))) (env.set v (some (.int (x : Nat)))) m = .ok (.int (b : Nat)) m)
    (hs : ev C e env m = .ok (tN c) m) : ev C (.callB .tuple (.cons (.comp (.name v) (.of e) .nil (.tup (.cons (.bin .fdiv (.var v) (.ix (.var u) (.lit (.int 0)))) (.cons (.bin .mod (.var v) (.ix (.var u) (.lit (.int 0)))) .nil))) [v]) .nil)) env m = .ok (eNc b c) m := by
  have hw : ∀ x : Option D, (wipeE env [v]).set v x = env.set v x := fun x => by simp [wipeE, List.set_set]
  have h := a_comp0 (κ := κ) (C := C) (env := env) (m := m) (g := fun (x : Nat) => D.int (x : Nat)) (f := ePr b) (own := [v]) (tg := .name v) (src := .of e) (elt := .tup (.cons (.bin .fdiv (.var v) (.ix (.var u) (.lit (.int 0)))) (.cons (.bin .mod (.var v) (.ix (.var u) (.lit (.int 0)))) .nil))) c w (r_tup hs) (fun acc i => at_tup _ _ _ _) (fun x _ => ⟨(wipeE env [v]).set v (some (.int (x : Nat))), by simp [asgT, wipeE, hv], fun m' acc _ w' => by
    have hx : ev C (.var v) ((wipeE env [v]).set v (some (.int (x : Nat)))) m' = .ok (.int (x : Nat)) m' := a_var (by rw [hw]; simp [envGet, hv])
    have hbv := he x m'
    rw [← hw] at hbv
    have h1 : ev C (.bin .fdiv (.var v) (.ix (.var u) (.lit (.int 0)))) ((wipeE env [v]).set v (some (.int (x : Nat)))) m' = .ok (.int ((x / b : Nat) : Int)) m' := a_bin hx hbv (ev_fdiv hb hb2 m')
    have h2 : ev C (.bin .mod (.var v) (.ix (.var u) (.lit (.int 0)))) ((wipeE env [v]).set v (some (.int (x : Nat)))) m' = .ok (.int ((x % b : Nat) : Int)) m' := a_bin hx hbv (ev_mod hb m')
    exact ⟨a_tup (s_cons h1 (s_cons h2 s_nil)) rfl, fk_Pr b x⟩⟩) hc
  exact a_callB (s_cons h s_nil) (tuple_lst _ _)
end Hd

namespace Hd
open MP PySem L2 PySem.Spec PyProof.Rows
variable {κ : Bool} {L a b : Nat} {os : List (Or a)} {ps : List (Or b)}
theorem ev_pulled {env : MP.Env} {m : Mem} {u v : Nat} (h : Two os ps) (w : WF κ m) (hu : envGet env u = some (eR a os)) (hv : envGet env v = some (eR b ps)) : ev (MP.run Pg (L + 7)) (.callF i_pulled_by (.cons (.var u) (.cons (.var v) .nil))) env m = .ok (eR (a * b) (us os ps)) m :=
  a_callF (s_cons (a_var hu) (s_cons (a_var hv) s_nil)) ((g_pulled (κ := κ) (L := L + 6) h).at w)
theorem ev_two {env : MP.Env} {m : Mem} {u v : Nat} (h : Two os ps) (w : WF κ m) (hu : envGet env u = some (eR a os)) (hv : envGet env v = some (eR b ps)) : ev (MP.run Pg (L + 7)) (.callF i_sure_pair (.cons (.var u) (.cons (.var v) .nil))) env m = .ok (eTwo os ps) m :=
  a_callF (s_cons (a_var hu) (s_cons (a_var hv) s_nil)) ((g_sure_pair (κ := κ) (L := L) h).at w)
theorem g_pulled_pieces (h : Two os ps) : Gv κ Pg (L + 8) i_pulled_pieces [eR a os, eR b ps] (eNs b (pcs (us os ps))) := fun m w => by
  have hc := a_comp0 (κ := κ) (C := MP.run Pg (L + 7)) (env := [some (eR a os), some (eR b ps), some (eR (a * b) (us os ps)), some (eR a os), some (eR b ps), none, none]) (m := m ++ []) (g := tN) (f := eNc b) (own := [5]) (tg := .name 5) (src := .of (.callF i_pieces_by (.cons (.var 2) .nil))) (elt := .callB .tuple (.cons (.comp (.name 6) (.of (.var 5)) .nil (.tup (.cons (.bin .fdiv (.var 6) (.ix (.var 4) (.lit (.int 0)))) (.cons (.bin .mod (.var 6) (.ix (.var 4) (.lit (.int 0)))) .nil))) [6]) .nil)) (pcs (us os ps)) w.nil (r_lst (a_callF (s_cons (a_var rfl) s_nil) ((g_pcs (κ := κ) (L := L + 5) h).at w.nil))) (fun acc i => at_lst tN _ _ i) (fun c hc => ⟨_, rfl, fun m' acc _ w' => ⟨ev_prs (u := 4) (v := 6) (e := .var 5) w' h.b1 h.b24 (by have := pcs_el h hc; omega) (by simp [wipeE]) (fun x m => a_ix (a_var rfl) a_lit ix20) (a_var rfl), fk_Nc b c⟩⟩) (by have := pcs_ln h; omega)
  exact c_okl (l := []) p_pulled_pieces rfl (x_asg (ev_two (L := L) h w.nil rfl rfl) rfl (x_asg (ev_pulled (L := L) h w.nil rfl rfl) rfl (x_ret (a_callB (s_cons hc s_nil) (tuple_lst _ _))))) rfl (cl_fx w (fk_Ns (κ := κ) b _).1)
theorem nI_map {α : Type} (f : α → Nat) (xs : List α) : (xs.map fun x => D.int ((f x : Nat) : Int)) = nI (xs.map f) := by
  unfold nI
  rw [List.map_map]
  rfl
theorem srt_nI (xs : List Nat) (m : Mem) : callV .sorted m [.lst (nI xs)] = some (.lst (nI (sortB leN xs)), m) := by
  rw [v_sorted (sortOk_nI _), show sortD (nI xs) = nI (sortB leN xs) from sortD_B leP_N xs]
abbrev szs (T : List (List Nat)) : List Nat := sortB leN (T.map List.length)
theorem g_image_sizes (h : Two os ps) : Gv κ Pg (L + 8) i_image_sizes [eR a os, eR b ps] (tN (szs (pcs (us os ps)))) := fun m w => by
  have hc := a_comp0 (κ := κ) (C := MP.run Pg (L + 7)) (env := [some (eR a os), some (eR b ps), some (eR a os), some (eR b ps), none]) (m := m ++ []) (g := tN) (f := fun c => D.int ((List.length c : Nat) : Int)) (own := [4]) (tg := .name 4) (src := .of (.callF i_pieces_by (.cons (.callF i_pulled_by (.cons (.var 2) (.cons (.var 3) .nil))) .nil))) (elt := .callB .len (.cons (.var 4) .nil)) (pcs (us os ps)) w.nil (r_lst (a_callF (s_cons (ev_pulled (L := L) h w.nil rfl rfl) s_nil) ((g_pcs (κ := κ) (L := L + 5) h).at w.nil))) (fun acc i => at_lst tN _ _ i) (fun c hc => ⟨_, rfl, fun m' acc _ w' => ⟨a_callB (s_cons (a_var rfl) s_nil) (len_tN _ _), Fk.int _⟩⟩) (by have := pcs_ln h; omega)
  rw [nI_map List.length] at hc
  exact c_okl (l := []) p_image_sizes rfl (x_asg (ev_two (L := L) h w.nil rfl rfl) rfl (x_ret (a_callB (s_cons (a_callB (s_cons hc s_nil) (srt_nI _ _)) s_nil) (tuple_lst _ _)))) rfl (cl_fx w (Fx.tN _))
abbrev eOns {n : Nat} (T : List (List Nat)) (us : List (Or n)) : D := .tup (T.map fun c => eOn c us)
theorem fk_Ons {n : Nat} (T : List (List Nat)) (us : List (Or n)) : Fk κ (eOns T us) := Fk.tup (fk_map (fun c => fk_On c us) T)
def big (T : List (List Nat)) : Bool := T.any fun c => decide ((24 : Int) < (List.length c : Nat))
theorem ev_big {C : Nat → List D → Mem → Res D} {env : MP.Env} {m : Mem} {T : List (List Nat)} (w : WF κ m) (hT : T.length ≤ 1000000) (h6 : env.length = 7) (h3 : ∀ x, envGet (env.set 6 x) 3 = some (.lst (T.map tN))) : ev C (.callB .any (.cons (.comp (.name 6) (.of (.var 3)) .nil (.cmp .gt (.callB .len (.cons (.var 6) .nil)) (.lit (.int 24))) [6]) .nil)) env m = .ok (.bl (big T)) m := by
  have hw : ∀ x : Option D, (wipeE env [6]).set 6 x = env.set 6 x := fun x => by simp [wipeE, List.set_set]
  have hv3 : envGet env 3 = some (.lst (T.map tN)) := by
    have := h3 (env.getD 6 none)
    rw [show env.set 6 (env.getD 6 none) = env by
      apply List.ext_getElem (by simp)
      intro i h1 h2
      rw [List.getElem_set]
      split
      · rename_i e
        subst e
        simp [List.getD, h2]
      · rfl] at this
    exact this
  have hc := a_comp0 (κ := κ) (C := C) (env := env) (m := m) (g := tN) (f := fun c => D.bl (decide ((24 : Int) < (List.length c : Nat)))) (own := [6]) (tg := .name 6) (src := .of (.var 3)) (elt := .cmp .gt (.callB .len (.cons (.var 6) .nil)) (.lit (.int 24))) T w (r_lst (a_var hv3)) (fun acc i => at_lst tN _ _ i) (fun c hc => ⟨(wipeE env [6]).set 6 (some (tN c)), by simp [asgT, wipeE, h6], fun m' acc _ w' => ⟨a_cmp (a_callB (s_cons (a_var (by rw [hw]; simp [envGet, h6])) s_nil) (len_tN _ _)) a_lit (cmp_gt _ _ _), Fk.bl _⟩⟩) hT
  exact a_callB (s_cons hc s_nil) (any_map (fun c => decide ((24 : Int) < (List.length c : Nat))) T m)
theorem g_pulled_rows (h : Two os ps) (hb : big (pcs (us os ps)) = false) : Gv κ Pg (L + 8) i_pulled_rows [eR a os, eR b ps] (eOns (pcs (us os ps)) (us os ps)) := fun m w => by
  have hl := pcs_ln h
  have e1 := ev_big (κ := κ) (C := MP.run Pg (L + 7)) (env := [some (eR a os), some (eR b ps), some (eR (a * b) (us os ps)), some (.lst ((pcs (us os ps)).map tN)), some (eR a os), some (eR b ps), none]) (m := m ++ []) (T := pcs (us os ps)) w.nil (by omega) rfl (fun _ => rfl)
  rw [hb] at e1
  have hc := a_comp0 (κ := κ) (C := MP.run Pg (L + 7)) (env := [some (eR a os), some (eR b ps), some (eR (a * b) (us os ps)), some (.lst ((pcs (us os ps)).map tN)), some (eR a os), some (eR b ps), none]) (m := m ++ []) (g := tN) (f := fun c => eOn c (us os ps)) (own := [6]) (tg := .name 6) (src := .of (.var 3)) (elt := .callF i_on_piece (.cons (.var 2) (.cons (.var 6) .nil))) (pcs (us os ps)) w.nil (r_lst (a_var rfl)) (fun acc i => at_lst tN _ _ i) (fun c hc => ⟨_, rfl, fun m' acc _ w' => ⟨a_callF (s_cons (a_var rfl) (s_cons (a_var rfl) s_nil)) ((g_on_piece (κ := κ) (L := L + 6) (on_pcs hc) (by have := h.ab; omega) (by rw [h.ul]; have := h.l60; omega)).at w'), fk_On c _⟩⟩) (by omega)
  exact c_okl (l := []) p_pulled_rows rfl (x_asg (ev_two (L := L) h w.nil rfl rfl) rfl (x_asg (ev_pulled (L := L) h w.nil rfl rfl) rfl (x_asg (a_callF (s_cons (a_var rfl) s_nil) ((g_pcs (κ := κ) (L := L + 5) h).at w.nil)) rfl (x_ifF e1 rfl (x_ret (a_callB (s_cons hc s_nil) (tuple_lst _ _))))))) rfl (cl_fx w (fk_Ons (κ := κ) _ _).1)
/-- it raises -/
def Ge (κ : Bool) (P : Nat → Option DefI) (L x : Nat) (ds : List D) (c : Nat) : Prop := ∀ m, WF κ m → MP.run P L x ds m = .exc c [] m
theorem Ge.at {P : Nat → Option DefI} {L x : Nat} {ds : List D} {c : Nat} {m : Mem} (h : Ge κ P L x ds c) (w : WF κ m) : MP.run P L x ds m = .exc c [] m := h m w
theorem g_pulled_rows_no (h : Two os ps) (hb : big (pcs (us os ps)) = true) : Ge κ Pg (L + 8) i_pulled_rows [eR a os, eR b ps] 1 := fun m w => by
  have hl := pcs_ln h
  have e1 := ev_big (κ := κ) (C := MP.run Pg (L + 7)) (env := [some (eR a os), some (eR b ps), some (eR (a * b) (us os ps)), some (.lst ((pcs (us os ps)).map tN)), some (eR a os), some (eR b ps), none]) (m := m ++ []) (T := pcs (us os ps)) w.nil (by omega) rfl (fun _ => rfl)
  rw [hb] at e1
  exact c_excl (l := []) p_pulled_rows rfl w (x_asg (ev_two (L := L) h w.nil rfl rfl) rfl (x_asg (ev_pulled (L := L) h w.nil rfl rfl) rfl (x_asg (a_callF (s_cons (a_var rfl) s_nil) ((g_pcs (κ := κ) (L := L + 5) h).at w.nil)) rfl (x_ifT e1 rfl (x_raise s_nil)))))
/-! both leadings of a piece -/
theorem ev_sides (h : Two os ps) {m : Mem} (w : WF κ m) {ds : D} : ev (MP.run Pg (L + 7)) (.comp (.name 7) (.of (.callF i_pieces_by (.cons (.callF i_pulled_by (.cons (.var 5) (.cons (.var 6) .nil))) .nil))) .nil (.callB .tuple (.cons (.comp (.name 8) (.of (.var 7)) .nil (.tup (.cons (.bin .fdiv (.var 8) (.ix (.var 6) (.lit (.int 0)))) (.cons (.bin .mod (.var 8) (.ix (.var 6) (.lit (.int 0)))) .nil))) [8]) .nil)) [7]) [some (eR a os), some (eR b ps), some ds, some ds, none, some (eR a os), some (eR b ps), none, none, none] m = .ok (.lst ((pcs (us os ps)).map (eNc b))) m :=
  a_comp0 (κ := κ) (C := MP.run Pg (L + 7)) (env := [some (eR a os), some (eR b ps), some ds, some ds, none, some (eR a os), some (eR b ps), none, none, none]) (m := m) (g := tN) (f := eNc b) (own := [7]) (tg := .name 7) (src := .of (.callF i_pieces_by (.cons (.callF i_pulled_by (.cons (.var 5) (.cons (.var 6) .nil))) .nil))) (elt := .callB .tuple (.cons (.comp (.name 8) (.of (.var 7)) .nil (.tup (.cons (.bin .fdiv (.var 8) (.ix (.var 6) (.lit (.int 0)))) (.cons (.bin .mod (.var 8) (.ix (.var 6) (.lit (.int 0)))) .nil))) [8]) .nil)) (pcs (us os ps)) w (r_lst (a_callF (s_cons (ev_pulled (L := L) h w rfl rfl) s_nil) ((g_pcs (κ := κ) (L := L + 5) h).at w))) (fun acc i => at_lst tN _ _ i) (fun c hc => ⟨_, rfl, fun m' acc _ w' => ⟨ev_prs (u := 6) (v := 8) (e := .var 7) w' h.b1 h.b24 (by have := pcs_el h hc; omega) (by simp [wipeE]) (fun x m => a_ix (a_var rfl) a_lit ix20) (a_var rfl), fk_Nc b c⟩⟩) (by have := pcs_ln h; omega)
theorem tt_Nc {b : Nat} {c : List Nat} (hc : c.length ≤ 1000000) : tt 2 (eNc b c) = true := tt_map hc fun _ _ => rfl
theorem notIn_Nc {b : Nat} {c : List Nat} {T : List (List Nat)} (m : Mem) : cmpV .notIn m (eNc b c) (.lst (T.map (eNc b))) = some (!decide (prs b c ∈ T.map (prs b))) := by
  have h := notIn_lstE (α := List (Nat × Nat)) (by decide) (prs b c) (T.map (prs b)) m
  rw [← eNc_e, List.map_map] at h
  refine (congrArg (fun z => cmpV .notIn m (eNc b c) (.lst z)) (List.map_congr_left fun d _ => eNc_e b d)).trans (h.trans (congrArg (fun z => some (!z)) ((@decide_eq_decide _ _ _ _).mpr Iff.rfl)))
theorem g_sides_of (h : Two os ps) {c : List Nat} (hc : c ∈ pcs (us os ps)) : Gv κ Pg (L + 8) i_sides_of [eR a os, eR b ps, eNc b c] (.tup [tN (c.map (· / b)), tN (c.map (· % b))]) := fun m w => by
  have hl := pcs_el h hc
  have ht := (g_tupled (κ := κ) 2 (L + 4) _ (tt_Nc (b := b) (c := c) (by omega))).at w.nil
  have e1 := notIn_Nc (b := b) (c := c) (T := pcs (us os ps)) (m ++ [])
  rw [decide_eq_true (List.mem_map.mpr ⟨c, hc, rfl⟩)] at e1
  have h1 := a_comp0 (κ := κ) (C := MP.run Pg (L + 7)) (env := [some (eR a os), some (eR b ps), some (eNc b c), some (eNc b c), some (.lst ((pcs (us os ps)).map (eNc b))), some (eR a os), some (eR b ps), none, none, none]) (m := m ++ []) (g := ePr b) (f := fun (x : Nat) => D.int ((x / b : Nat) : Int)) (own := [9]) (tg := .name 9) (src := .of (.var 3)) (elt := .ix (.var 9) (.lit (.int 0))) c w.nil (r_tup (a_var rfl)) (fun acc i => at_tup (ePr b) c _ i) (fun x _ => ⟨_, rfl, fun m' acc _ w' => ⟨a_ix (a_var rfl) a_lit ix20, Fk.int _⟩⟩) (by omega)
  have h2 := a_comp0 (κ := κ) (C := MP.run Pg (L + 7)) (env := [some (eR a os), some (eR b ps), some (eNc b c), some (eNc b c), some (.lst ((pcs (us os ps)).map (eNc b))), some (eR a os), some (eR b ps), none, none, none]) (m := m ++ []) (g := ePr b) (f := fun (x : Nat) => D.int ((x % b : Nat) : Int)) (own := [9]) (tg := .name 9) (src := .of (.var 3)) (elt := .ix (.var 9) (.lit (.int 1))) c w.nil (r_tup (a_var rfl)) (fun acc i => at_tup (ePr b) c _ i) (fun x _ => ⟨_, rfl, fun m' acc _ w' => ⟨a_ix (a_var rfl) a_lit ix21, Fk.int _⟩⟩) (by omega)
  rw [nI_map (fun x => x / b)] at h1
  rw [nI_map (fun x => x % b)] at h2
  have hfk : Fk κ (.tup [tN (c.map (· / b)), tN (c.map (· % b))]) := Fk.tup fun d hd => by
    rcases List.mem_cons.mp hd with rfl | hd
    · exact fk_tN _
    · rw [List.mem_singleton.mp hd]
      exact fk_tN _
  exact c_okl (l := []) p_sides_of rfl (x_asg (ev_two (L := L) h w.nil rfl rfl) rfl (x_asg (a_callF (s_cons (a_var rfl) s_nil) ht) rfl (x_asg (ev_sides (L := L) h w.nil) rfl (x_ifF (a_cmp (a_var rfl) (a_var rfl) e1) rfl (x_ret (a_tup (s_cons (a_callB (s_cons h1 s_nil) (tuple_lst _ _)) (s_cons (a_callB (s_cons h2 s_nil) (tuple_lst _ _)) s_nil)) rfl)))))) rfl (cl_fx w hfk.1)
theorem g_sides_no (h : Two os ps) {c : List Nat} (hl : c.length ≤ 1000) (hc : prs b c ∉ (pcs (us os ps)).map (prs b)) : Ge κ Pg (L + 8) i_sides_of [eR a os, eR b ps, eNc b c] 2 := fun m w => by
  have ht := (g_tupled (κ := κ) 2 (L + 4) _ (tt_Nc (b := b) (c := c) (by omega))).at w.nil
  have e1 := notIn_Nc (b := b) (c := c) (T := pcs (us os ps)) (m ++ [])
  rw [decide_eq_false hc] at e1
  exact c_excl (l := []) p_sides_of rfl w (x_asg (ev_two (L := L) h w.nil rfl rfl) rfl (x_asg (a_callF (s_cons (a_var rfl) s_nil) ht) rfl (x_asg (ev_sides (L := L) h w.nil) rfl (x_ifT (a_cmp (a_var rfl) (a_var rfl) e1) rfl (x_raise s_nil)))))
end Hd

namespace Hd
open MP PySem L2 PySem.Spec PyProof.Rows
variable {κ : Bool} {L a b : Nat} {os : List (Or a)} {ps : List (Or b)}
def poB : Sts := (.cons (.par 8 9 (.thaw (.callB .dict (.cons (.comp (.name 12) (.of (.var 4)) .nil (.tup (.cons (.var 12) (.cons (.lit (.bl true)) .nil))) [12]) .nil))) (.newL .nil)) (.cons (.forS (.name 7) (.rng1 (.ix (.var 2) (.lit (.int 0)))) plC) (.cons (.expr (.meth .append (.var 3) (.cons (.callB .tuple (.cons (.rev (.callB .sorted (.cons (.var 9) .nil))) .nil)) .nil))) .nil)))
abbrev eLots {n : Nat} (us : List (Or n)) : D := .tup (us.map fun u => tN (lotsN u.1))
theorem fk_Lots {n : Nat} (us : List (Or n)) : Fk κ (eLots us) := Fk.tup (fk_map (fun u => fk_tN (lotsN u.1)) us)
theorem g_pulled_lots (h : Two os ps) : Gv κ Pg (L + 8) i_pulled_lots [eR a os, eR b ps] (eLots (us os ps)) := fun m w => by
  have hul : (us os ps).length ≤ 60 := by rw [h.ul]; exact h.l60
  have hab := h.ab
  obtain ⟨V, hV⟩ : ∃ V : List (Or (a * b)), us os ps = V := ⟨_, rfl⟩
  have hsp := ev_two (L := L) (env := [some (eR a os), some (eR b ps), none, none, none, none, none, none, none, none, none, none, none]) (u := 0) (v := 1) h w.nil rfl rfl
  have hpu := ev_pulled (L := L) (env := [some (eR a os), some (eR b ps), none, none, none, some (eR a os), some (eR b ps), none, none, none, none, none, none]) (u := 5) (v := 6) h w.nil rfl rfl
  rw [hV] at hul hpu ⊢
  obtain ⟨env2, m2, hf, junk, f4, f7, f8, f9, f10, f11, rfl, rfl, hjg⟩ := for_inv (src := .tup (V.map eO)) (tg := .name 4) (body := fun env' m' => exs (MP.run Pg (L + 7)) poB env' m') V.length
    (fun i env m' => ∃ (junk : List O) (f4 f7 f8 f9 f10 f11 : Option D), env = [some (eR a os), some (eR b ps), some (eR (a * b) V), some (.ref (m.length + 0)), f4, some (eR a os), some (eR b ps), f7, f8, f9, f10, f11, none] ∧ m' = m ++ (.lst ((V.take i).map fun u => tN (lotsN u.1)) :: junk) ∧ ∀ o ∈ junk, Good κ o)
    (fun i env m' hi hI => by
      obtain ⟨junk, f4, f7, f8, f9, f10, f11, rfl, rfl, hjg⟩ := hI
      obtain ⟨u, hu⟩ : ∃ u, V[i] = u := ⟨_, rfl⟩
      obtain ⟨X, hX⟩ : ∃ X, ((V.take i).map fun u => tN (lotsN u.1)) = X := ⟨_, rfl⟩
      have hXf : ∀ d ∈ X, Fk κ d := by
        rw [← hX]
        exact fk_map (fun (u : Or (a * b)) => fk_tN (lotsN u.1)) _
      have hXl : X.length ≤ 60 := by
        rw [← hX, List.length_map, List.length_take]
        omega
      rw [hX]
      have lu := u.2.1
      have wm : WF κ (m ++ (.lst X :: junk)) := w.app fun o ho => by
        rcases List.mem_cons.mp ho with rfl | ho
        · exact good_lst hXf
        · exact hjg o ho
      obtain ⟨m0, hm0⟩ : ∃ m0, m ++ (O.lst X :: junk) = m0 := ⟨_, rfl⟩
      rw [hm0] at wm ⊢
      have hcomp := a_comp0 (κ := κ) (C := MP.run Pg (L + 7)) (env := [some (eR a os), some (eR b ps), some (eR (a * b) V), some (.ref (m.length + 0)), some (eO u), some (eR a os), some (eR b ps), f7, f8, f9, f10, f11, none]) (m := m0) (g := fun (k : Nat) => D.int (k : Nat)) (f := fun (k : Nat) => D.tup [.int (k : Nat), .bl true]) (own := [12]) (tg := .name 12) (src := .of (.var 4)) (elt := .tup (.cons (.var 12) (.cons (.lit (.bl true)) .nil))) u.1 wm (r_tup (a_var rfl)) (fun _ _ => rfl) (fun y hy => ⟨_, rfl, fun m' acc _ w' => ⟨a_tup (s_cons (a_var rfl) (s_cons a_lit s_nil)) rfl, Fk.tup fun d hd => by
        rcases List.mem_cons.mp hd with rfl | hd
        · exact Fk.int _
        · rw [List.mem_singleton.mp hd]
          exact Fk.bl _⟩⟩) (by omega)
      have hdict : callV .dict m0 [.lst (u.1.map fun (k : Nat) => D.tup [.int (k : Nat), .bl true])] = some (.ref (m0.length + 0), m0 ++ [.dic (kvT u.1)]) := by
        have hmg := merge_nodup [] u.1 (by simpa using u.2.2.2.2)
        have hmg : mergeD [] (kvT u.1) = kvT u.1 := hmg
        simp only [callV, seqV, pairs_kvT, hmg, Nat.add_zero]
      obtain ⟨f7', f10', f11', ks, hl⟩ := pl_lens (L := L + 7) (m0 := m0) (o := u.1) (n := a * b) u.2 (by omega) (g0 := some (eR a os)) (g1 := some (eR b ps)) (g2 := some (eR (a * b) V)) (g3 := some (.ref (m.length + 0))) (g5 := some (eR a os)) (g6 := some (eR b ps)) (f7 := f7) (f10 := f10) (f11 := f11)
      have hsrt := v_sortedL (m := m0) (l := [.dic (kvT ks), .lst (nI (lens u.1))]) (j := 1) (ds := nI (lens u.1)) rfl (sortOk_nI _)
      rw [show sortD (nI (lens u.1)) = nI (sortB leN (lens u.1)) from sortD_B leP_N _] at hsrt
      have hrev : ∀ m, revV m (.lst (nI (sortB leN (lens u.1)))) = some (.lst (nI (lotsN u.1))) := fun m => congrArg (fun z => some (D.lst z)) (nI_reverse _)
      have hml : m0 ++ [O.dic (kvT ks), O.lst (nI (lens u.1))] = m ++ (O.lst X :: (junk ++ [O.dic (kvT ks), O.lst (nI (lens u.1))])) := by
        rw [← hm0]
        simp
      have happ := v_append (m := m) (l := O.lst X :: (junk ++ [O.dic (kvT ks), O.lst (nI (lens u.1))])) (j := 0) (ds := X) (d := tN (lotsN u.1)) rfl (by omega)
      have hcl := v_clsL (m := m) (l := O.lst X :: (junk ++ [O.dic (kvT ks), O.lst (nI (lens u.1))])) (j := 0) (ds := X) rfl
      rw [← hml] at happ hcl
      refine ⟨eO u, [some (eR a os), some (eR b ps), some (eR (a * b) V), some (.ref (m.length + 0)), some (eO u), some (eR a os), some (eR b ps), f7, f8, f9, f10, f11, none], [some (eR a os), some (eR b ps), some (eR (a * b) V), some (.ref (m.length + 0)), some (eO u), some (eR a os), some (eR b ps), f7', some (.ref (m0.length + 0)), some (.ref (m0.length + 1)), f10', f11', none], m ++ (O.lst (X ++ [tN (lotsN u.1)]) :: (junk ++ [O.dic (kvT ks), O.lst (nI (lens u.1))])), ?_, rfl,
        x_par (a_thawR (a_callB (s_cons hcomp s_nil) hdict)) (a_newLl (l := [.dic (kvT u.1)]) (l' := [.dic (kvT u.1)]) s_nil rfl) rfl rfl (x_for (r_rng1 (j := ((a * b : Nat) : Int)) (a_ix (a_var rfl) a_lit ix20) (by omega) (by omega)) hl (x_expr (a_meth (T := "list") (a_var rfl) hcl rfl (s_cons (a_callB (s_cons (a_rev (a_callB (s_cons (a_var rfl) s_nil) hsrt) (hrev _)) s_nil) (tuple_lst _ _)) s_nil) hcl happ) x_nil)),
        junk ++ [O.dic (kvT ks), O.lst (nI (lens u.1))], _, _, _, _, _, _, rfl, ?_, fun o ho => ?_⟩
      · rw [at_tup, List.getElem?_map, List.getElem?_eq_getElem hi, hu]
        rfl
      · rw [← hX, List.take_add_one, List.getElem?_eq_getElem hi, hu, List.map_append]
        rfl
      · rcases List.mem_append.mp ho with ho | ho
        · exact hjg o ho
        · rcases List.mem_cons.mp ho with rfl | ho
          · exact good_dic _
          · rw [List.mem_singleton.mp ho]
            exact good_nI _)
    (fun env m' hI => by rw [at_tup, List.getElem?_eq_none (by simp)]) turnsMax 0 [some (eR a os), some (eR b ps), some (eR (a * b) V), some (.ref (m.length + 0)), none, some (eR a os), some (eR b ps), none, none, none, none, none, none] (m ++ [.lst []]) (Nat.zero_le _) (by unfold turnsMax; omega) ⟨[], none, none, none, none, none, none, rfl, rfl, by simp⟩
  rw [List.take_length] at hf
  exact c_okl (l := .lst (V.map fun u => tN (lotsN u.1)) :: junk) (m := m) p_pulled_lots rfl (x_asg hsp rfl (x_asg hpu rfl (x_asg (a_newLl (l := []) (l' := []) s_nil rfl) rfl (x_for (r_tup (a_ix (a_var rfl) a_lit ix21)) hf (x_ret (a_callB (s_cons (a_var rfl) s_nil) (v_tuple (m := m) (l := .lst (V.map fun u => tN (lotsN u.1)) :: junk) (j := 0) rfl))))))) rfl (cl_fx w (fk_Lots (κ := κ) V).1)
end Hd

namespace Hd
open MP PySem L2 PySem.Spec PyProof.Rows
variable {κ : Bool} {L a b : Nat} {os : List (Or a)} {ps : List (Or b)}
def Wh {n : Nat} (os : List (Or n)) : Prop := (pce os 0).length = n
noncomputable instance {n : Nat} (os : List (Or n)) : Decidable (Wh os) := inferInstanceAs (Decidable (_ = _))
theorem wh_bl {n : Nat} (os : List (Or n)) : (((pce os 0).length : Int) == (n : Int)) = decide (Wh os) := by
  rw [Bool.eq_iff_iff, beq_iff_eq, decide_eq_true_iff]
  unfold Wh
  omega
theorem g_whole {n : Nat} {os : List (Or n)} (h1 : 1 ≤ n) (hn : n ≤ 1000) (hl : os.length ≤ 1000) : Gv κ Pg (L + 2) i_is_whole_by [eR n os] (.bl (decide (Wh os))) := by
  rw [← wh_bl]
  exact g_is_whole_by h1 hn hl
theorem ev_whole {env : MP.Env} {m : Mem} (h : Two os ps) (w : WF κ m) (h2 : envGet env 2 = some (eR a os)) (h3 : envGet env 3 = some (eR b ps)) : ev (MP.run Pg (L + 7)) (.orE (.notE (.callF i_is_whole_by (.cons (.var 2) .nil))) (.notE (.callF i_is_whole_by (.cons (.var 3) .nil)))) env m = .ok (.bl (!decide (Wh os) || !decide (Wh ps))) m :=
  a_or2 (a_notB (a_callF (s_cons (a_var h2) s_nil) ((g_whole (κ := κ) (L := L + 5) h.a1 (by have := h.a24; omega) (by have := h.l60; omega)).at w))) (a_notB (a_callF (s_cons (a_var h3) s_nil) ((g_whole (κ := κ) (L := L + 5) h.b1 (by have := h.b24; omega) (by have := h.l60; have := h.ln; omega)).at w)))
theorem g_sure_over (h : Two os ps) (ha : Wh os) (hb : Wh ps) : Gv κ Pg (L + 8) i_sure_over [eR a os, eR b ps] (eTwo os ps) := fun m w => by
  have e := ev_whole (κ := κ) (L := L) (env := [some (eR a os), some (eR b ps), some (eR a os), some (eR b ps)]) h w.nil rfl rfl
  rw [decide_eq_true ha, decide_eq_true hb] at e
  exact c_okl (l := []) p_sure_over rfl (x_asg (ev_two (L := L) h w.nil rfl rfl) rfl (x_ifF e rfl (x_ret (a_tup (s_cons (a_var rfl) (s_cons (a_var rfl) s_nil)) rfl)))) rfl (cl_fx w (fk_two (κ := κ) os ps).1)
theorem g_sure_over_no (h : Two os ps) (hw : ¬(Wh os ∧ Wh ps)) : Ge κ Pg (L + 8) i_sure_over [eR a os, eR b ps] 0 := fun m w => by
  have e := ev_whole (κ := κ) (L := L) (env := [some (eR a os), some (eR b ps), some (eR a os), some (eR b ps)]) h w.nil rfl rfl
  have hz : (!decide (Wh os) || !decide (Wh ps)) = true := by
    rw [← Bool.not_and, ← Bool.decide_and, decide_eq_false hw]
    rfl
  rw [hz] at e
  exact c_excl (l := []) p_sure_over rfl w (x_asg (ev_two (L := L) h w.nil rfl rfl) rfl (x_ifT e rfl (x_raise s_nil)))
/-! the first of the shortest -/
abbrev eLn (c : List Nat) : D := .tup [.int ((List.length c : Nat) : Int), tN c]
theorem eLn_e (c : List Nat) : eLn c = Enc.e ((c.length, c) : Nat × List Nat) := rfl
theorem fk_Ln (c : List Nat) : Fk κ (eLn c) := Enc.fk κ ((c.length, c) : Nat × List Nat)
theorem pdd_Ln (c : List Nat) : pdd (eLn c) = .tuple [.int ((List.length c : Nat) : Int), .tuple (c.map fun (n : Nat) => PyData.int n)] := by
  have := Enc.pd ((c.length, c) : Nat × List Nat)
  show (pd0 (Enc.e ((c.length, c) : Nat × List Nat))).getD .none = _
  rw [this]
  rfl
theorem lt_Ln {c d : List Nat} (hc : c ≠ []) (hd : d ≠ []) (h : d.headD 0 < c.headD 0) : PySem.W.dataLt (pdd (eLn c)) (pdd (eLn d)) = decide (c.length < d.length) := by
  rw [pdd_Ln, pdd_Ln]
  cases c with
  | nil => exact absurd rfl hc
  | cons x c =>
    cases d with
    | nil => exact absurd rfl hd
    | cons y d =>
      have h : y < x := h
      obtain ⟨k, hk⟩ : ∃ k, (x :: c).length = k := ⟨_, rfl⟩
      obtain ⟨l, hl⟩ : ∃ l, (y :: d).length = l := ⟨_, rfl⟩
      rw [hk, hl]
      simp only [List.map_cons, PySem.W.dataLt, PySem.W.keyToksAll, PySem.W.keyToks, List.singleton_append, List.cons_append, List.nil_append, PyProof.Rows.lexLt, itemLt]
      rw [Bool.eq_iff_iff]
      simp
      omega
theorem sortOk_Ln (T : List (List Nat)) : sortOk (T.map eLn) = true := by
  unfold sortOk
  rw [show T.map eLn = (T.map fun c => (c.length, c)).map Enc.e by rw [List.map_map]; rfl, pd0s_map Enc.pd]
  simp only [Bool.and_eq_true, Bool.or_eq_true, List.all_eq_true]
  refine ⟨fun x hx => ?_, .inl fun x hx => ?_⟩
  · obtain ⟨p, hp, rfl⟩ := List.mem_map.mp hx
    refine ⟨shaped_e (Nat.le_of_ble_eq_true rfl) p, fun y hy => ?_⟩
    obtain ⟨q, _, rfl⟩ := List.mem_map.mp hy
    show PySem.W.alike (.tuple [.int ((p.1 : Nat) : Int), .tuple (p.2.map fun (n : Nat) => PyData.int n)]) (.tuple [.int ((q.1 : Nat) : Int), .tuple (q.2.map fun (n : Nat) => PyData.int n)]) = true
    simp only [PySem.W.alike, PySem.W.alikeAll, alike_ints, Bool.and_self]
  · obtain ⟨p, hp, rfl⟩ := List.mem_map.mp hx
    rfl
/-- which piece it is -/
structure Fst (T : List (List Nat)) (i : Nat) : Prop where
  lt : i < T.length
  le : ∀ j, j < T.length → (T.getD i []).length ≤ (T.getD j []).length
  fst : ∀ j, j < i → (T.getD i []).length < (T.getD j []).length
theorem least_piece {T : List (List Nat)} (hne : T ≠ []) (hN : ∀ c ∈ T, c ≠ []) (hA : HdAsc T) : Fst T (argIx (T.map eLn)) := by
  have hpos := List.length_pos_iff.mpr hne
  have hg : ∀ i, i < T.length → ((T.map eLn).map pdd).getD i .none = pdd (eLn (T.getD i [])) := fun i hi => by
    simp [List.getD, hi]
  have hb := argBest_spec (bt := fun i j => PySem.W.dataLt (((T.map eLn).map pdd).getD i .none) (((T.map eLn).map pdd).getD j .none)) (f := fun i => (T.getD i []).length) (T.length - 1) fun i j hji hi => by
    have hi : i < T.length := by omega
    have hj : j < T.length := by omega
    simp only [hg i hi, hg j hj]
    have ei : T.getD i [] = T[i] := by simp [List.getD, hi]
    have ej : T.getD j [] = T[j] := by simp [List.getD, hj]
    rw [ei, ej]
    exact lt_Ln (hN _ (List.getElem_mem hi)) (hN _ (List.getElem_mem hj)) (List.pairwise_iff_getElem.mp hA j i hj hi hji)
  have e : argIx (T.map eLn) = argBest (fun i j => PySem.W.dataLt (((T.map eLn).map pdd).getD i .none) (((T.map eLn).map pdd).getD j .none)) (T.length - 1) := by
    unfold argIx
    rw [List.length_map]
  rw [← e] at hb
  exact ⟨by omega, fun j hj => hb.2.1 j (by omega), hb.2.2⟩
theorem min_Ln {T : List (List Nat)} (hne : T ≠ []) (hN : ∀ c ∈ T, c ≠ []) (hA : HdAsc T) (m : Mem) : callV .min m [.lst (T.map eLn)] = some (eLn (T.getD (argIx (T.map eLn)) []), m) := by
  have hf := (least_piece hne hN hA).lt
  have hg : (T.map eLn)[argIx (T.map eLn)]? = some (eLn (T.getD (argIx (T.map eLn)) [])) := by
    rw [List.getElem?_map, List.getElem?_eq_getElem hf]
    simp [List.getD, hf]
  have hi : ints? (T.map eLn) = none := by
    cases T with
    | nil => exact absurd rfl hne
    | cons c T => rfl
  simp only [callV, seqV, hi, sortOk_Ln, hg, if_true]
theorem pcs_ne' {n : Nat} {os : List (Or n)} (h1 : 1 ≤ n) : pcs os ≠ [] := fun e => by
  have := (pcs_ok os).2.2 0 h1
  rw [e] at this
  simp at this
theorem Two.ab1 (h : Two os ps) : 1 ≤ a * b := Nat.mul_pos h.a1 h.b1
noncomputable abbrev lst1 {n : Nat} (us : List (Or n)) : List Nat := (pcs us).getD (argIx ((pcs us).map eLn)) []
theorem ev_min (h : Two os ps) {m : Mem} (w : WF κ m) : ev (MP.run Pg (L + 8)) (.ix (.callB .min (.cons (.comp (.name 6) (.of (.callF i_pieces_by (.cons (.var 2) .nil))) .nil (.tup (.cons (.callB .len (.cons (.var 6) .nil)) (.cons (.var 6) .nil))) [6]) .nil)) (.lit (.int 1))) [some (eR a os), some (eR b ps), some (eR (a * b) (us os ps)), none, some (eR a os), some (eR b ps), none] m = .ok (tN (lst1 (us os ps))) m := by
  have hP := pcs_ok (us os ps)
  have hc := a_comp0 (κ := κ) (C := MP.run Pg (L + 8)) (env := [some (eR a os), some (eR b ps), some (eR (a * b) (us os ps)), none, some (eR a os), some (eR b ps), none]) (m := m) (g := tN) (f := eLn) (own := [6]) (tg := .name 6) (src := .of (.callF i_pieces_by (.cons (.var 2) .nil))) (elt := .tup (.cons (.callB .len (.cons (.var 6) .nil)) (.cons (.var 6) .nil))) (pcs (us os ps)) w (r_lst (a_callF (s_cons (a_var rfl) s_nil) ((g_pcs (κ := κ) (L := L + 6) h).at w))) (fun acc i => at_lst tN _ _ i) (fun c hc => ⟨_, rfl, fun m' acc _ w' => ⟨a_tup (s_cons (a_callB (s_cons (a_var rfl) s_nil) (len_tN _ _)) (s_cons (a_var rfl) s_nil)) rfl, fk_Ln c⟩⟩) (by have := pcs_ln h; omega)
  exact a_ix (a_callB (s_cons hc s_nil) (min_Ln (pcs_ne' h.ab1) hP.1.ne hP.2.1 m)) a_lit ix21
theorem lst1_mem (h : Two os ps) : lst1 (us os ps) ∈ pcs (us os ps) := by
  have hP := pcs_ok (us os ps)
  have hf := (least_piece (pcs_ne' h.ab1) hP.1.ne hP.2.1).lt
  have e : lst1 (us os ps) = (pcs (us os ps))[argIx ((pcs (us os ps)).map eLn)] := by simp [List.getD, hf]
  rw [e]
  exact List.getElem_mem hf
theorem ev_over {env : MP.Env} {m : Mem} {u v : Nat} (h : Two os ps) (ha : Wh os) (hb : Wh ps) (w : WF κ m) (hu : envGet env u = some (eR a os)) (hv : envGet env v = some (eR b ps)) : ev (MP.run Pg (L + 8)) (.callF i_sure_over (.cons (.var u) (.cons (.var v) .nil))) env m = .ok (eTwo os ps) m :=
  a_callF (s_cons (a_var hu) (s_cons (a_var hv) s_nil)) ((g_sure_over (κ := κ) (L := L) h ha hb).at w)
theorem ev_pulled8 {env : MP.Env} {m : Mem} {u v : Nat} (h : Two os ps) (w : WF κ m) (hu : envGet env u = some (eR a os)) (hv : envGet env v = some (eR b ps)) : ev (MP.run Pg (L + 8)) (.callF i_pulled_by (.cons (.var u) (.cons (.var v) .nil))) env m = .ok (eR (a * b) (us os ps)) m := ev_pulled (L := L + 1) h w hu hv
theorem g_least_over (h : Two os ps) (ha : Wh os) (hb : Wh ps) (hl : (lst1 (us os ps)).length ≤ 24) : Gv κ Pg (L + 9) i_least_over [eR a os, eR b ps] (eOn (lst1 (us os ps)) (us os ps)) := fun m w => by
  have e := ev_min (κ := κ) (L := L) h w.nil
  have hm := lst1_mem h
  obtain ⟨c, hc⟩ : ∃ c, lst1 (us os ps) = c := ⟨_, rfl⟩
  rw [hc] at e hl hm ⊢
  exact c_okl (l := []) p_least_over rfl (x_asg (ev_over (L := L) h ha hb w.nil rfl rfl) rfl (x_asg (ev_pulled8 (L := L) h w.nil rfl rfl) rfl (x_asg e rfl (x_ifF (a_cmp (c := false) (a_callB (s_cons (a_var rfl) s_nil) (len_tN _ _)) a_lit (by rw [cmp_gt]; exact congrArg some (decide_eq_false (by omega)))) rfl (x_ret (a_callF (s_cons (a_var rfl) (s_cons (a_var rfl) s_nil)) ((g_on_piece (κ := κ) (L := L + 7) (on_pcs hm) (by have := h.ab; omega) (by rw [h.ul]; have := h.l60; omega)).at w.nil))))))) rfl (cl_fx w (fk_On (κ := κ) c _).1)
theorem g_least_over_many (h : Two os ps) (ha : Wh os) (hb : Wh ps) (hl : 24 < (lst1 (us os ps)).length) : Ge κ Pg (L + 9) i_least_over [eR a os, eR b ps] 1 := fun m w => by
  have e := ev_min (κ := κ) (L := L) h w.nil
  obtain ⟨c, hc⟩ : ∃ c, lst1 (us os ps) = c := ⟨_, rfl⟩
  rw [hc] at e hl
  exact c_excl (l := []) p_least_over rfl w (x_asg (ev_over (L := L) h ha hb w.nil rfl rfl) rfl (x_asg (ev_pulled8 (L := L) h w.nil rfl rfl) rfl (x_asg e rfl (x_ifT (a_cmp (c := true) (a_callB (s_cons (a_var rfl) s_nil) (len_tN _ _)) a_lit (by rw [cmp_gt]; exact congrArg some (decide_eq_true (by omega)))) rfl (x_raise s_nil)))))
theorem g_least_over_none (h : Two os ps) (hw : ¬(Wh os ∧ Wh ps)) : Ge κ Pg (L + 9) i_least_over [eR a os, eR b ps] 0 := fun m w =>
  c_excl (l := []) p_least_over rfl w (x_asgE (a_callF (s_cons (a_var rfl) (s_cons (a_var rfl) s_nil)) ((g_sure_over_no (κ := κ) (L := L) h hw).at w.nil)))
/-! leadings -/
theorem g_leading {c : Nat} {qs : List (Or c)} {K : List Nat} (h : Two qs os) (hw : Wh qs) (hw2 : Wh os) (hK : K.length = c) (hKl : ∀ x ∈ K, x < a) (hq : ∀ i, i < qs.length → ∀ x, x < c → K.getD ((qs.getD i Or.one).1.getD x 0) 0 = (os.getD i Or.one).1.getD (K.getD x 0) 0) : Gv κ Pg (L + 9) i_is_leading [eR c qs, eR a os, tN K] (.bl true) := fun m w => by
  have hc24 := h.a24
  have hwi : ∀ m, WF κ m → MP.run Pg (L + 7) i_are_within [tN K, .int 0, .int ((a : Int) - 1)] m = .ok (.bl true) m := fun m w => by
    have := arewithin_tN (κ := κ) (L := L + 4) p_is_number p_is_within p_are_within K (by omega) 0 ((a : Int) - 1)
    rw [show (K.all fun i => decide ((0 : Int) ≤ (i : Int)) && decide ((i : Int) ≤ (a : Int) - 1)) = true by
      rw [List.all_eq_true]
      intro x hx
      have := hKl x hx
      rw [Bool.and_eq_true, decide_eq_true_eq, decide_eq_true_eq]
      omega] at this
    exact this m w
  have hof : Gv κ Pg (L + 8) i_is_leading_of [eR c qs, eR a os, tN K] (.bl true) := fun m w => by
    have hz := r_zipT (C := MP.run Pg (L + 7)) (env := wipeE [some (eR c qs), some (eR a os), some (tN K), none, none, none] []) (m := m ++ []) (m1 := m ++ []) (m2 := m ++ []) (a := .ix (.var 0) (.lit (.int 1))) (b := .ix (.var 1) (.lit (.int 1))) (ds := qs.map eO) (es := os.map eO) (a_ix (a_var rfl) a_lit ix21) (a_ix (a_var rfl) a_lit ix21)
    have hlen := h.ln
    have hzl : (qs.zip os).length ≤ 60 := by rw [List.length_zip]; have := h.l60; omega
    have hc := a_comp2 (κ := κ) (C := MP.run Pg (L + 7)) (env := [some (eR c qs), some (eR a os), some (tN K), none, none, none]) (m := m ++ []) (m1 := m ++ []) (g := fun (x : Or c × Or a) => D.wtup [eO x.1, eO x.2]) (zs := fun _ => List.range c) (g2 := fun _ (k : Nat) => D.int (0 + (k : Int))) (f := fun _ (_ : Nat) => D.bl true) (tg := .pair (.cons (.name 4) (.cons (.name 5) .nil))) (tg2 := .name 3) (src := .zip (.ix (.var 0) (.lit (.int 1))) (.ix (.var 1) (.lit (.int 1)))) (src2 := .rng1 (.ix (.var 0) (.lit (.int 0)))) (own := [4, 5, 3]) (own2 := [3]) (elt := .cmp .eq (.ix (.var 2) (.ix (.var 4) (.var 3))) (.ix (.var 5) (.ix (.var 2) (.var 3)))) (qs.zip os) w.nil hz (fun acc i => at_zipT _ _ _ _ _ _)
      (fun x hx => ⟨_, rfl, .rng 0 c, fun m' acc _ w' => r_rng1 (j := (c : Nat)) (a_ix (a_var rfl) a_lit ix20) (by omega) (by omega), fun acc i => at_rng _ _ _ _, fun k hk => ⟨_, rfl, fun m' acc _ w' => by
        have hk := List.mem_range.mp hk
        obtain ⟨i, hi, e⟩ := List.getElem_of_mem hx
        have hi' : i < qs.length := by rw [List.length_zip] at hi; omega
        have hi2 : i < os.length := by omega
        rw [List.getElem_zip] at e
        have e1 : qs.getD i Or.one = x.1 := by rw [← e]; simp [List.getD, hi']
        have e2 : os.getD i Or.one = x.2 := by rw [← e]; simp [List.getD, hi2]
        have := hq i hi' k hk
        rw [e1, e2] at this
        have hKk : K.getD k 0 < a := hKl _ (getD_mem (by omega))
        exact ⟨a_cmp (a_ix (a_var rfl) (a_ix (a_var rfl) (a_var rfl) (by rw [Int.zero_add]; exact ix_tN2 (by rw [x.1.2.1]; exact hk) _)) (ix_tN2 (by rw [hK]; exact x.1.2.lt hk) _)) (a_ix (a_var rfl) (a_ix (a_var rfl) (a_var rfl) (by rw [Int.zero_add]; exact ix_tN2 (by omega) _)) (ix_tN2 (by rw [x.2.2.1]; exact hKk) _)) (by rw [MP.eq_int, this]; simp), Fk.bl _⟩⟩⟩)
      (by
        rw [List.length_flatMap]
        have : ∀ l : List (Or c × Or a), (l.map fun _ => ((List.range c).map fun (_ : Nat) => D.bl true).length).sum = l.length * c := fun l => by
          induction l with
          | nil => simp
          | cons y l ih => rw [List.map_cons, List.sum_cons, ih, List.length_map, List.length_range, List.length_cons, Nat.succ_mul, Nat.add_comm]
        rw [this]
        exact Nat.le_trans (Nat.mul_le_mul hzl hc24) (by omega)) (by omega)
    have hall : callV .all (m ++ []) [.lst ((qs.zip os).flatMap fun _ => (List.range c).map fun (_ : Nat) => D.bl true)] = some (.bl true, m ++ []) := by
      have e : ((qs.zip os).flatMap fun _ => (List.range c).map fun (_ : Nat) => D.bl true) = ((qs.zip os).flatMap fun _ => List.range c).map fun (_ : Nat) => D.bl true := by rw [List.map_flatMap]
      rw [e]
      exact all_mapT fun _ _ => rfl
    exact c_okl (l := []) p_is_leading_of rfl (x_ifF (a_or2 (t := false) (u := false) (a_notB (t := true) (a_callF (s_cons (a_var rfl) (s_cons a_lit (s_cons (a_bin (a_ix (a_var rfl) a_lit ix20) a_lit (bin_sub _ _ _)) s_nil))) (hwi _ w.nil))) (a_cmp (c := false) (a_callB (s_cons (a_var rfl) s_nil) (len_tN _ _)) (a_ix (a_var rfl) a_lit ix20) (by rw [MP.ne_int, hK]; simp))) rfl (x_ret (a_callB (s_cons hc s_nil) hall))) rfl (cl_fx w (Fx.bl _))
  exact c_okl (l := []) p_is_leading rfl (x_asg (ev_over (L := L) h hw hw2 w.nil rfl rfl) rfl (x_ret (a_callF (s_cons (a_var rfl) (s_cons (a_var rfl) (s_cons (a_var rfl) s_nil))) (hof.at w.nil)))) rfl (cl_fx w (Fx.bl _))
end Hd

namespace Hd
open MP PySem L2 PySem.Spec PyProof.Rows
variable {κ : Bool} {L n : Nat}
theorem twos_fold {α β : Type} (ys : List β) : ∀ (xs : List α) (s : List (α × β)), xs.foldl (fun s x => s ++ ys.map fun y => (x, y)) s = s ++ xs.flatMap fun x => ys.map fun y => (x, y)
  | [], s => by simp
  | x :: xs, s => by
    rw [List.foldl_cons, twos_fold ys xs, List.flatMap_cons, List.append_assoc]
abbrev eT {α β : Type} (f : α → D) (g : β → D) (p : α × β) : D := .tup [f p.1, g p.2]
theorem g_l_twos {α β : Type} {f : α → D} {g : β → D} (hf : ∀ x, Fk κ (f x)) (hg : ∀ y, Fk κ (g y)) {xs : List α} {ys : List β} (hx : xs.length ≤ 1000) (hy : ys.length ≤ 1000) : Gv κ Pg (L + 1) i_l_twos [.lst (xs.map f), .lst (ys.map g)] (.lst ((xs.flatMap fun x => ys.map fun y => (x, y)).map (eT f g))) := fun m w => by
  have hfg : ∀ p : α × β, Fk κ (eT f g p) := fun p => Fk.tup fun d hd => by
    rcases List.mem_cons.mp hd with rfl | hd
    · exact hf _
    · rcases List.mem_cons.mp hd with rfl | hd
      · exact hg _
      · simp at hd
  obtain ⟨j', hfo, hI⟩ := for_st (src := .lst (xs.map f)) (tg := .name 3) (body := fun env' m' => exs (MP.run Pg L) (.cons (.expr (.meth .extend (.var 2) (.cons (.comp (.name 4) (.of (.var 1)) .nil (.tup (.cons (.var 3) (.cons (.var 4) .nil))) [4]) .nil))) .nil) env' m')
    (g := fun _ x => f x) xs (fun (s : List (α × β)) x => s ++ ys.map fun y => (x, y))
    (E := fun _ (j : Option D) => [some (.lst (xs.map f)), some (.lst (ys.map g)), some (.ref (m.length + 0)), j, none]) (M := fun s => m ++ [.lst (s.map (eT f g))]) (Inv := fun i s => s.length = i * ys.length)
    (fun s i _ _ => by rw [at_lst, List.getElem?_map])
    (fun i hi s j hI => by
      have hw : WF κ (m ++ [.lst (s.map (eT f g))]) := w.app fun o ho => by
        rw [List.mem_singleton.mp ho]
        exact good_lst (fk_map hfg s)
      have hsl : s.length ≤ 1000 * 1000 := by rw [hI]; exact Nat.mul_le_mul (by omega) hy
      have hc := a_comp0 (κ := κ) (C := MP.run Pg L) (env := [some (.lst (xs.map f)), some (.lst (ys.map g)), some (.ref (m.length + 0)), some (f xs[i]), none]) (m := m ++ [.lst (s.map (eT f g))]) (g := g) (f := fun y => eT f g (xs[i], y)) (own := [4]) (tg := .name 4) (src := .of (.var 1)) (elt := .tup (.cons (.var 3) (.cons (.var 4) .nil))) ys hw (r_lst (a_var rfl)) (fun acc i => at_lst _ _ _ _) (fun y _ => ⟨_, rfl, fun m' acc _ w' => ⟨a_tup (s_cons (a_var rfl) (s_cons (a_var rfl) s_nil)) rfl, hfg _⟩⟩) (by omega)
      have e : (ys.map fun y => eT f g (xs[i], y)) = (ys.map fun y => (xs[i], y)).map (eT f g) := by
        rw [List.map_map]
        rfl
      rw [e] at hc
      refine ⟨_, some (f xs[i]), rfl, x_expr (a_meth (a_var rfl) (v_clsL (l := [.lst (s.map (eT f g))]) rfl) rfl (s_cons hc s_nil) (v_clsL (l := [.lst (s.map (eT f g))]) rfl) (v_extend (l := [.lst (s.map (eT f g))]) rfl ?_)) ?_, by rw [List.length_append, List.length_map, hI, Nat.succ_mul]⟩
      · have : s.length + ys.length = (i + 1) * ys.length := by rw [hI, Nat.succ_mul]
        have : (i + 1) * ys.length ≤ 1000 * 1000 := Nat.mul_le_mul (by omega) hy
        simp only [List.length_map]
        omega
      · rw [← List.map_append]
        exact x_nil)
    (by omega) [] none (by simp)
  rw [twos_fold, List.nil_append] at hfo
  exact c_okl (l := [.lst ((xs.flatMap fun x => ys.map fun y => (x, y)).map (eT f g))]) (m := m) p_l_twos rfl (x_asg (a_newLl (l := []) (l' := []) s_nil rfl) rfl (x_for (r_lst (a_var rfl)) hfo (x_ret (a_var rfl)))) rfl (cl_ref w rfl fun d hd => (fk_map hfg _ d hd).1)
end Hd

namespace Hd
open MP PySem L2 PySem.Spec PyProof.Rows
variable {L n : Nat}
def lnB : Sts := (.cons (.asg (.name 4) (.thaw (.bin .mul (.lst (.cons (.lit (.int 0)) .nil)) (.ix (.var 0) (.lit (.int 0)))))) (.cons (.forS (.name 5) (.rng1 (.ix (.var 0) (.lit (.int 0)))) (.cons (.setIx (.var 4) (.ix (.var 1) (.var 5)) (.ix (.var 1) (.ix (.var 3) (.var 5)))) .nil)) (.cons (.expr (.meth .append (.var 2) (.cons (.callB .tuple (.cons (.var 4) .nil)) .nil))) .nil)))
theorem g_l_named {os : List (Or n)} {p : Or n} (hn : n ≤ 1000) (hl : os.length ≤ 1000) : Gv true Pg (L + 1) i_l_named [eR n os, eO p] (eR n (os.map fun o => Or.tur o p)) := fun m w => by
  have lp := p.2.1
  obtain ⟨env2, m2, hf, junk, f3, f4, f5, rfl, rfl, hjg⟩ := for_inv (src := .tup (os.map eO)) (tg := .name 3) (body := fun env' m' => exs (MP.run Pg L) lnB env' m') os.length
    (fun i env m' => ∃ (junk : List O) (f3 f4 f5 : Option D), env = [some (eR n os), some (eO p), some (.ref (m.length + 0)), f3, f4, f5] ∧ m' = m ++ (.lst ((os.take i).map fun o => eO (Or.tur o p)) :: junk) ∧ ∀ o ∈ junk, Good true o)
    (fun i env m' hi hI => by
      obtain ⟨junk, f3, f4, f5, rfl, rfl, hjg⟩ := hI
      obtain ⟨o, ho⟩ : ∃ o, os[i] = o := ⟨_, rfl⟩
      obtain ⟨X, hX⟩ : ∃ X, ((os.take i).map fun o => eO (Or.tur o p)) = X := ⟨_, rfl⟩
      have hXf : ∀ d ∈ X, Fk true d := by
        rw [← hX]
        exact fk_map (fun (o : Or n) => fk_o (Or.tur o p)) _
      have hXl : X.length ≤ 1000 := by
        rw [← hX, List.length_map, List.length_take]
        omega
      rw [hX]
      have lo := o.2.1
      have wm : WF true (m ++ (.lst X :: junk)) := w.app fun o ho => by
        rcases List.mem_cons.mp ho with rfl | ho
        · exact good_lst hXf
        · exact hjg o ho
      obtain ⟨m0, hm0⟩ : ∃ m0, m ++ (O.lst X :: junk) = m0 := ⟨_, rfl⟩
      rw [hm0] at wm ⊢
      have hq : ∀ k, k < n → (behind o.1 p.1).getD k 0 = p.1.getD (o.1.getD k 0) 0 := fun k hk => behind_get (by omega)
      obtain ⟨j', hfi, hI⟩ := for_st (src := .rng 0 n) (tg := .name 5) (body := fun env' m' => exs (MP.run Pg L) (.cons (.setIx (.var 4) (.ix (.var 1) (.var 5)) (.ix (.var 1) (.ix (.var 3) (.var 5)))) .nil) env' m')
        (g := fun i (_ : Nat) => D.int (i : Nat)) (List.range n) (fillS p.1 (behind o.1 p.1))
        (E := fun _ (j : Option D) => [some (eR n os), some (eO p), some (.ref (m.length + 0)), some (eO o), some (.ref (m0.length + 0)), j]) (M := fun s => m0 ++ [.lst (nI s)]) (Inv := FillI n p.1 (behind o.1 p.1))
        (fun s i _ _ => by
          rw [at_rng, List.getElem?_map]
          by_cases hi : i < n
          · simp [hi]
          · simp [hi])
        (fun i hi s j hI => by
          have hi : i < n := by simpa using hi
          have e : (List.range n)[i] = i := by simp
          rw [e]
          refine ⟨_, some (.int (i : Nat)), rfl, ?_, fill_step p.2 hi hI⟩
          refine x_setIx (a_ix (a_var rfl) (a_ix (a_var rfl) (a_var rfl) (ix_tN2 (by omega) _)) (ix_tN2 (by rw [lp]; exact o.2.lt hi) _)) (a_var rfl) (a_ix (a_var rfl) (a_var rfl) (ix_tN2 (by omega) _)) (v_setL (l := [.lst (nI s)]) rfl (ixn_nat (by rw [nI_len, hI.1]; exact p.2.lt hi))) ?_
          rw [nI_set, ← hq i hi]
          exact x_nil)
        (by simp; omega) (List.replicate n 0) f5 ⟨by simp, fun k hk => by omega⟩
      have hr : (List.range n).foldl (fillS p.1 (behind o.1 p.1)) (List.replicate n 0) = (Or.tur o p).1 := by
        show _ = turned o.1 p.1
        rw [List.length_range] at hI
        refine ord_ext (n := n) hI.1 ((p.2.bk.beh o.2).beh p.2).1 fun j hj => ?_
        have hb := back_lt p.2 hj
        rw [fill_end p.2 hI hj, hq _ hb, turned, behind_get (by rw [(p.2.bk.beh o.2).1]; exact hj), behind_get (by rw [p.2.bk.1]; exact hj)]
      rw [hr] at hfi
      have hml : m0 ++ [O.lst (nI (Or.tur o p).1)] = m ++ (O.lst X :: (junk ++ [O.lst (nI (Or.tur o p).1)])) := by
        rw [← hm0]
        simp
      have happ := v_append (m := m) (l := O.lst X :: (junk ++ [O.lst (nI (Or.tur o p).1)])) (j := 0) (ds := X) (d := eO (Or.tur o p)) rfl (by omega)
      have hcl := v_clsL (m := m) (l := O.lst X :: (junk ++ [O.lst (nI (Or.tur o p).1)])) (j := 0) (ds := X) rfl
      rw [← hml] at happ hcl
      have hth := a_thawL (C := MP.run Pg L) (env := [some (eR n os), some (eO p), some (.ref (m.length + 0)), some (eO o), f4, f5]) (m := m0) (m1 := m0) (a := .bin .mul (.lst (.cons (.lit (.int 0)) .nil)) (.ix (.var 0) (.lit (.int 0)))) (ds := nI (List.replicate n 0)) (a_bin (a_lst (s_cons a_lit s_nil) rfl) (a_ix (a_var rfl) a_lit ix20) (zeros_mul _ hn)) (by rw [noL_nI, wm.2 rfl]; rfl)
      refine ⟨eO o, [some (eR n os), some (eO p), some (.ref (m.length + 0)), some (eO o), f4, f5], [some (eR n os), some (eO p), some (.ref (m.length + 0)), some (eO o), some (.ref (m0.length + 0)), j'], m ++ (O.lst (X ++ [eO (Or.tur o p)]) :: (junk ++ [O.lst (nI (Or.tur o p).1)])), ?_, rfl,
        x_asg hth rfl (x_for (r_rng1 (j := (n : Int)) (a_ix (a_var rfl) a_lit ix20) (by omega) (by omega)) hfi (x_expr (a_meth (T := "list") (a_var rfl) hcl rfl (s_cons (a_callB (s_cons (a_var rfl) s_nil) (v_tuple (m := m0) (l := [.lst (nI (Or.tur o p).1)]) (j := 0) rfl)) s_nil) hcl happ) x_nil)),
        junk ++ [O.lst (nI (Or.tur o p).1)], _, _, _, rfl, ?_, fun o ho => ?_⟩
      · rw [at_tup, List.getElem?_map, List.getElem?_eq_getElem hi, ho]
        rfl
      · rw [← hX, List.take_add_one, List.getElem?_eq_getElem hi, ho, List.map_append]
        rfl
      · rcases List.mem_append.mp ho with ho | ho
        · exact hjg o ho
        · rw [List.mem_singleton.mp ho]
          exact good_nI _)
    (fun env m' hI => by rw [at_tup, List.getElem?_eq_none (by simp)]) turnsMax 0 [some (eR n os), some (eO p), some (.ref (m.length + 0)), none, none, none] (m ++ [.lst []]) (Nat.zero_le _) (by unfold turnsMax; omega) ⟨[], none, none, none, rfl, rfl, by simp⟩
  rw [List.take_length] at hf
  have e : (os.map fun o => eO (Or.tur o p)) = (os.map fun o => Or.tur o p).map eO := by rw [List.map_map]; rfl
  rw [e] at hf
  exact c_okl (l := .lst ((os.map fun o => Or.tur o p).map eO) :: junk) (m := m) p_l_named rfl (x_asg (a_newLl (l := []) (l' := []) s_nil rfl) rfl (x_for (r_tup (a_ix (a_var rfl) a_lit ix21)) hf (x_ret (a_tup (s_cons (a_ix (a_var rfl) a_lit ix20) (s_cons (a_callB (s_cons (a_var rfl) s_nil) (v_tuple (m := m) (l := .lst ((os.map fun o => Or.tur o p).map eO) :: junk) (j := 0) rfl)) s_nil)) rfl)))) rfl (cl_fx w (fk_r (κ := true) _).1)
end Hd

namespace Hd
open MP PySem L2 PySem.Spec PyProof.Rows
variable {κ : Bool} {L n : Nat}
/-- how long rounds are, sorted, long ones ahead -/
theorem lots_tail {o : List Nat} {m : Mem} {P : Nat → Option DefI} {env : MP.Env} {x : Ex} {v : SrcV} (w : WF κ m) (hl : (cyc o).length ≤ 1000000) (h : evSr (MP.run P L) (.of x) env m = .ok v m) (h2 : ∀ acc i, v.at (m ++ [O.acc acc]) i = some ((cyc o).map tN)[i]?) (h1 : 1 < env.length) :
    ev (MP.run P L) (.callB .tuple (.cons (.rev (.callB .sorted (.cons (.comp (.name 1) (.of x) .nil (.callB .len (.cons (.var 1) .nil)) [1]) .nil))) .nil)) env m = .ok (tN (lotsN o)) m := by
  have hc := a_comp0 (κ := κ) (C := MP.run P L) (env := env) (m := m) (g := tN) (f := fun (c : List Nat) => D.int (c.length : Nat)) (own := [1]) (tg := .name 1) (src := .of x) (elt := .callB .len (.cons (.var 1) .nil)) (cyc o) w h h2 (fun y hy => ⟨(env.set 1 none).set 1 (some (tN y)), by
    show (if 1 < (wipeE env [1]).length then _ else none) = _
    rw [if_pos (by simpa [wipeE] using h1)]
    rfl, fun m' acc _ w' => ⟨a_callB (s_cons (a_var (by
      show envGet ((env.set 1 none).set 1 (some (tN y))) 1 = _
      simp [envGet, h1])) s_nil) (len_tN y _), Fk.int _⟩⟩) hl
  have e : ((cyc o).map fun (c : List Nat) => D.int (c.length : Nat)) = nI (lens o) := by
    unfold nI lens
    rw [List.map_map]
    rfl
  rw [e] at hc
  have hs : callV .sorted m [.lst (nI (lens o))] = some (.lst (nI (sortB leN (lens o))), m) := by
    rw [v_sorted (sortOk_nI _)]
    rw [show sortD (nI (lens o)) = nI (sortB leN (lens o)) from sortD_B leP_N (lens o)]
  refine a_callB (s_cons (a_rev (a_callB (s_cons hc s_nil) hs) ?_) s_nil) (tuple_lst _ _)
  show some (D.lst (nI (sortB leN (lens o))).reverse) = _
  rw [nI_reverse]
  rfl
theorem cyc_len {o : List Nat} (ho : isOrd n o) : (cyc o).length ≤ n := by
  have h := (rounds_cyc ho)
  have := h.perm.length_eq
  rw [List.length_range, List.length_flatten] at this
  rw [← this]
  have key : ∀ cs : List (List Nat), (∀ c ∈ cs, c ≠ []) → cs.length ≤ (cs.map List.length).sum := by
    intro cs
    induction cs with
    | nil => intro _; simp
    | cons c cs ih =>
      intro hc
      have h1 := ih fun d hd => hc d (List.mem_cons_of_mem _ hd)
      have h2 := List.length_pos_iff.mpr (hc c List.mem_cons_self)
      simp
      omega
  exact key _ fun c hc => (h.cyc c hc).ne
section
variable {o : List Nat} {m : Mem}
/-- the law's walk -/
theorem lrd_walk (ho : isOrd n o) (hn : n ≤ 1000) {seen : List Nat} {F : O} {junk : List O} {e1 : Option D} {tgt : List Nat} (hseen : seen.length ≤ 1000) : ∀ N k env m', k < N → (∃ own at_, env = [some (tN o), e1, some (.ref (m.length + 0)), some (.ref (m.length + 1)), some (.ref (m.length + (junk.length + 2))), some (.int (at_ : Nat))] ∧ m' = rdMem m F (.dic (kvT (seen ++ own))) junk own ∧ at_ < n ∧ cycW o (k + 1) seen at_ own = tgt ∧ freeN n (seen ++ own) ≤ k ∧ own.length + k ≤ 5000) →
    ∃ env2 m2, whileLoop (fun env' m' => ev (MP.run Pg L) (.cmp .notIn (.var 5) (.var 3)) env' m') (fun env' m' => exs (MP.run Pg L) (.cons (.setIx (.var 3) (.var 5) (.lit (.bl true))) (.cons (.expr (.meth .append (.var 4) (.cons (.var 5) .nil))) (.cons (.asg (.name 5) (.ix (.var 0) (.var 5))) .nil))) env' m') N env m' = .ok .nx env2 m2 ∧ ∃ at_, env2 = [some (tN o), e1, some (.ref (m.length + 0)), some (.ref (m.length + 1)), some (.ref (m.length + (junk.length + 2))), some (.int (at_ : Nat))] ∧ m2 = rdMem m F (.dic (kvT (seen ++ tgt))) junk tgt := by
  refine while_inv (fun k env m' => ∃ own at_, env = [some (tN o), e1, some (.ref (m.length + 0)), some (.ref (m.length + 1)), some (.ref (m.length + (junk.length + 2))), some (.int ((at_ : Nat) : Int))] ∧ m' = rdMem m F (.dic (kvT (seen ++ own))) junk own ∧ at_ < n ∧ cycW o (k + 1) seen at_ own = tgt ∧ freeN n (seen ++ own) ≤ k ∧ own.length + k ≤ 5000) (fun env m' => ∃ at_, env = [some (tN o), e1, some (.ref (m.length + 0)), some (.ref (m.length + 1)), some (.ref (m.length + (junk.length + 2))), some (.int ((at_ : Nat) : Int))] ∧ m' = rdMem m F (.dic (kvT (seen ++ tgt))) junk tgt) ?_
  rintro k env m' ⟨own, at_, rfl, rfl, hat, ht, hf, hlen⟩
  have hc : ev (MP.run Pg L) (.cmp .notIn (.var 5) (.var 3)) [some (tN o), e1, some (.ref (m.length + 0)), some (.ref (m.length + 1)), some (.ref (m.length + (junk.length + 2))), some (.int (at_ : Nat))] (rdMem m F (.dic (kvT (seen ++ own))) junk own) = .ok (.bl (!decide (at_ ∈ seen ++ own))) (rdMem m F (.dic (kvT (seen ++ own))) junk own) := by
    have := v_notIn (m := m) (l := F :: .dic (kvT (seen ++ own)) :: (junk ++ [.lst (nI own)])) (j := 1) (i := (at_ : Nat)) (kvs := kvT (seen ++ own)) rfl
    rw [kvT_get] at this
    exact a_cmp (a_var rfl) (a_var rfl) this
  by_cases hin : at_ ∈ seen ++ own
  · left
    rw [cycW_stop hin] at ht
    subst ht
    exact ⟨_, _, hc, by simp only [truV, decide_eq_true hin]; rfl, at_, rfl, rfl⟩
  · right
    have hfr := freeN_add hat hin
    rw [List.append_assoc] at hfr
    obtain ⟨k, rfl⟩ : ∃ k', k = k' + 1 := ⟨k - 1, by omega⟩
    have hset := v_setD (m := m) (l := F :: .dic (kvT (seen ++ own)) :: (junk ++ [.lst (nI own)])) (j := 1) (i := (at_ : Nat)) (v := .bl true) rfl (by rw [kvT_len, List.length_append]; omega)
    rw [kvT_put hin, List.append_assoc] at hset
    have happ := v_append (m := m) (l := F :: .dic (kvT (seen ++ (own ++ [at_]))) :: (junk ++ [.lst (nI own)])) (j := junk.length + 2) (ds := nI own) (d := .int (at_ : Nat)) rdo (by rw [nI_len]; omega)
    rw [rdos, show nI own ++ [.int (at_ : Nat)] = nI (own ++ [at_]) by simp [nI]] at happ
    exact ⟨_, _, [some (tN o), e1, some (.ref (m.length + 0)), some (.ref (m.length + 1)), some (.ref (m.length + (junk.length + 2))), some (.int (o.getD at_ 0 : Nat))], _, k, hc, by simp only [truV, decide_eq_false hin]; rfl, x_setIx a_lit (a_var rfl) (a_var rfl) hset (x_expr (a_meth (a_var rfl) (v_clsL rdo) rfl (s_cons (a_var rfl) s_nil) (v_clsL rdo) happ) (x_asg (a_ix (a_var rfl) (a_var rfl) (ix_tN2 (by rw [ho.1]; exact hat) _)) rfl x_nil)), by omega, own ++ [at_], o.getD at_ 0, rfl, rfl, ho.lt hat, by rw [← ht, cycW_go hin], by omega, by simp; omega⟩
theorem g_l_rounds (ho : isOrd n o) (hn : n ≤ 1000) : Gv κ Pg (L + 1) i_l_rounds [tN o] (.tup ((cyc o).map tN)) := by
  intro m w
  have lo := ho.1
  obtain ⟨env2, m2, hf, junk, found, e1, e4, e5, rfl, rfl, hfound, _, _, _⟩ := for_inv (src := .rng 0 n) (tg := .name 1) (body := fun env' m' => exs (MP.run Pg L) (.cons (.ifS (.cmp .notIn (.var 1) (.var 3)) (.cons (.par 4 5 (.newL .nil) (.var 1)) (.cons (.whileS (.cmp .notIn (.var 5) (.var 3)) (.cons (.setIx (.var 3) (.var 5) (.lit (.bl true))) (.cons (.expr (.meth .append (.var 4) (.cons (.var 5) .nil))) (.cons (.asg (.name 5) (.ix (.var 0) (.var 5))) .nil)))) (.cons (.expr (.meth .append (.var 2) (.cons (.callB .tuple (.cons (.var 4) .nil)) .nil))) .nil))) .nil) .nil) env' m') n
    (fun i env m' => ∃ (junk : List O) (found : List (List Nat)) (e1 e4 e5 : Option D), env = [some (tN o), e1, some (.ref (m.length + 0)), some (.ref (m.length + 1)), e4, e5] ∧ m' = m ++ (.lst (found.map tN) :: .dic (kvT found.flatten) :: junk) ∧ cycF o n ((List.range n).drop i) found = cyc o ∧ found.length ≤ i ∧ found.flatten.Nodup ∧ (∀ c ∈ found, isCyc n o c))
    (fun i env m' hi hI => by
      obtain ⟨junk, found, e1, e4, e5, rfl, rfl, h1, h3, h4, h5⟩ := hI
      have hdr : (List.range n).drop i = i :: (List.range n).drop (i + 1) := by
        rw [List.drop_eq_getElem_cons (by simpa using hi)]
        simp
      rw [hdr] at h1
      have hfl : found.flatten.length ≤ n := nodup_le h4 fun x hx => by
        obtain ⟨c, hc, hx⟩ := List.mem_flatten.mp hx
        exact (h5 c hc).lt x hx
      have hc : ev (MP.run Pg L) (.cmp .notIn (.var 1) (.var 3)) [some (tN o), some (.int (0 + (i : Int))), some (.ref (m.length + 0)), some (.ref (m.length + 1)), e4, e5] (m ++ (.lst (found.map tN) :: .dic (kvT found.flatten) :: junk)) = .ok (.bl (!decide (i ∈ found.flatten))) (m ++ (.lst (found.map tN) :: .dic (kvT found.flatten) :: junk)) := by
        have := v_notIn (m := m) (l := .lst (found.map tN) :: .dic (kvT found.flatten) :: junk) (j := 1) (i := (i : Nat)) (kvs := kvT found.flatten) rfl
        rw [kvT_get] at this
        refine a_cmp (a_var rfl) (a_var rfl) ?_
        rw [Int.zero_add]
        exact this
      by_cases hm : i ∈ found.flatten
      · refine ⟨.int (0 + (i : Int)), _, _, _, by simp [SrcV.at, hi], rfl, x_ifF hc (by simp only [truV, decide_eq_true hm]; rfl) x_nil, junk, found, _, _, _, rfl, rfl, ?_, by omega, h4, h5⟩
        rw [← h1]
        conv => rhs; unfold cycF
        rw [if_pos hm]
      · obtain ⟨env2, m2, hw, at_, rfl, rfl⟩ := lrd_walk (L := L) (m := m) (o := o) ho hn (seen := found.flatten) (F := .lst (found.map tN)) (junk := junk) (e1 := some (.int (0 + (i : Int)))) (tgt := cycW o (n + 1) found.flatten i []) (by omega) turnsMax n _ _ (by unfold turnsMax; omega) ⟨[], i, rfl, rfl, hi, rfl, by rw [List.append_nil]; exact freeN_le _, by simp; omega⟩
        rw [List.append_nil] at hw
        have hnew := a_newLk (es := .nil) (C := MP.run Pg L) (env := [some (tN o), some (.int (0 + (i : Int))), some (.ref (m.length + 0)), some (.ref (m.length + 1)), e4, e5]) (m := m) (l := .lst (found.map tN) :: .dic (kvT found.flatten) :: junk) (l' := .lst (found.map tN) :: .dic (kvT found.flatten) :: junk) (k := junk.length + 2) (ds := []) s_nil rfl rfl
        obtain ⟨own, hown⟩ : ∃ own, cycW o (n + 1) found.flatten i [] = own := ⟨_, rfl⟩
        rw [hown] at hw
        have htup := v_tuple (m := m) (l := .lst (found.map tN) :: .dic (kvT (found.flatten ++ own)) :: (junk ++ [.lst (nI own)])) (j := junk.length + 2) rdo
        have happ := v_append (m := m) (l := .lst (found.map tN) :: .dic (kvT (found.flatten ++ own)) :: (junk ++ [.lst (nI own)])) (j := 0) (ds := found.map tN) (d := tN own) rfl (by rw [List.length_map]; omega)
        have hcl := (cycF_spec ho [i] found (fun s hs => by rw [List.mem_singleton.mp hs]; exact hi) h5 h4)
        have e : cycF o n [i] found = found ++ [own] := by
          unfold cycF
          rw [if_neg hm]
          unfold cycF
          rw [hown]
        rw [e] at hcl
        refine ⟨.int (0 + (i : Int)), _, [some (tN o), some (.int (0 + (i : Int))), some (.ref (m.length + 0)), some (.ref (m.length + 1)), some (.ref (m.length + (junk.length + 2))), some (.int (at_ : Nat))], _, by simp [SrcV.at, hi], rfl, x_ifT hc (by simp only [truV, decide_eq_false hm]; rfl) (x_par hnew (a_var rfl) rfl rfl ((by rw [show (some (D.int (0 + (i : Int))) : Option D) = some (.int ((i : Nat) : Int)) by rw [Int.zero_add]] at hw ⊢; exact x_while hw (x_expr (a_meth (a_var rfl) (v_clsL (l := .lst (found.map tN) :: .dic (kvT (found.flatten ++ own)) :: (junk ++ [.lst (nI own)])) (j := 0) rfl) rfl (s_cons (a_callB (s_cons (a_var rfl) s_nil) htup) s_nil) (v_clsL (l := .lst (found.map tN) :: .dic (kvT (found.flatten ++ own)) :: (junk ++ [.lst (nI own)])) (j := 0) rfl) happ) x_nil)))), junk ++ [.lst (nI own)], found ++ [own], _, _, _, rfl, ?_, ?_, ?_, hcl.2.1, hcl.1⟩
        · simp
        · rw [← h1]
          conv => rhs; unfold cycF
          rw [if_neg hm, hown]
        · simp
          omega)
    (fun env m' hI => by simp [SrcV.at]) turnsMax 0 [some (tN o), none, some (.ref (m.length + 0)), some (.ref (m.length + 1)), none, none] (m ++ [.lst (([] : List (List Nat)).map tN), .dic (kvT [])]) (Nat.zero_le _) (by unfold turnsMax; omega)
    ⟨[], [], none, none, none, rfl, rfl, by rw [List.drop_zero]; unfold cyc; rw [lo], by simp, by simp, by simp⟩
  have hfc : found = cyc o := by
    rw [List.drop_eq_nil_of_le (by simp)] at hfound
    exact hfound
  subst hfc
  exact c_okl (l := .lst ((cyc o).map tN) :: .dic (kvT (cyc o).flatten) :: junk) (m := m) p_l_rounds rfl (x_par (a_newLl (l := []) (l' := []) s_nil rfl) (a_thawR (a_dictl (l := [.lst (([] : List (List Nat)).map tN)]))) rfl rfl (x_for (range_src (k := n) (fun m => a_callB (s_cons (a_var rfl) s_nil) (by rw [len_tN, lo])) (by omega) _) hf (x_ret (a_callB (s_cons (a_var rfl) s_nil) (v_tuple (j := 0) rfl))))) rfl (cl_fx w (Fx.tup fun d hd => (fk_map (fun (f : List Nat) => (Enc.fk κ f : Fk κ (tN f))) _ d hd).1))
end
theorem g_l_lots {o : List Nat} (ho : isOrd n o) (hn : n ≤ 1000) : Gv κ Pg (L + 2) i_l_lots [tN o] (tN (lotsN o)) := fun m w =>
  c_okl (l := []) p_l_lots rfl (x_ret (lots_tail w.nil (by have := cyc_len ho; omega) (r_tup (a_callF (s_cons (a_var rfl) s_nil) ((g_l_rounds ho hn).at w.nil))) (fun _ _ => rfl) (show 1 < 2 by decide))) rfl (cl_fx w (Fx.tN _))
end Hd

namespace Hd
open MP PySem L2 PySem.Spec PyProof.Rows
variable {κ : Bool} {L n : Nat}
theorem erase_map {α β : Type} (f : α → β) (xs : List α) (k : Nat) : (xs.map f).eraseIdx k = (xs.eraseIdx k).map f := by
  rw [List.eraseIdx_eq_take_drop_succ, List.eraseIdx_eq_take_drop_succ, List.map_append, List.map_take, List.map_drop]
theorem erase_perm {α : Type} {xs : List α} {k : Nat} (h : k < xs.length) : (xs[k] :: xs.eraseIdx k).Perm xs := by
  rw [List.eraseIdx_eq_take_drop_succ]
  refine List.Perm.trans (List.perm_middle.symm) ?_
  rw [← List.drop_eq_getElem_cons h, List.take_append_drop]
def pkB : Sts := (.cons (.expr (.meth .append (.var 5) (.cons (.meth .pop (.var 4) (.cons (.callF i_l_take (.cons (.var 0) (.cons (.callB .len (.cons (.var 4) .nil)) .nil))) .nil)) .nil))) .nil)
theorem g_l_pick {xs0 : List Nat} (hx : xs0.length ≤ 1000) : Dr true Pg (L + 2) i_l_pick xs0.length [.ref 0, .lst (nI xs0), .int (xs0.length : Nat)] (fun d => ∃ ys, d = .lst (nI ys) ∧ ys.Perm xs0) := by
  intro B a b c l t hB w
  obtain ⟨env2, m2, hf, a', c', ys, pool, e3, rfl, rfl, t', hp, hlen⟩ := for_inv (src := .rng 0 xs0.length) (tg := .name 3) (body := fun env' m' => exs (MP.run Pg (L + 1)) pkB env' m') xs0.length
    (fun i env m' => ∃ (a' c' : Int) (ys pool : List Nat) (e3 : Option D), env = [some (.ref 0), some (.lst (nI xs0)), some (.int (xs0.length : Nat)), e3, some (.ref (l.length + 1 + 0)), some (.ref (l.length + 1 + 1))] ∧ m' = (tn a' b c' :: l) ++ [.lst (nI pool), .lst (nI ys)] ∧ Tin (B + i) a' b c' ∧ (ys ++ pool).Perm xs0 ∧ ys.length = i)
    (fun i env m' hi hI => by
      obtain ⟨a1, c1, ys, pool, e3, rfl, rfl, t1, hp, hlen⟩ := hI
      have hpl : pool.length = xs0.length - i := by
        have := hp.length_eq
        rw [List.length_append] at this
        omega
      have wl : WF true (tn a1 b c1 :: (l ++ [.lst (nI pool), .lst (nI ys)])) := (w.tn (a' := a1) (b' := b) (c' := c1)).app fun o ho => by
        rcases List.mem_cons.mp ho with rfl | ho
        · exact good_nI _
        · rw [List.mem_singleton.mp ho]
          exact good_nI _
      obtain ⟨d, a2, c2, e, ⟨v, rfl, hv⟩, t2⟩ := g_take (κ := true) (L := L) (k := (pool.length : Nat)) (by omega) (by omega) (B + i) a1 b c1 _ t1 (by omega) wl
      have hv' : v < pool.length := by omega
      have hvp : pool[v]? = some pool[v] := List.getElem?_eq_getElem hv'
      have htake : ev (MP.run Pg (L + 1)) (.callF i_l_take (.cons (.var 0) (.cons (.callB .len (.cons (.var 4) .nil)) .nil))) [some (.ref 0), some (.lst (nI xs0)), some (.int (xs0.length : Nat)), some (.int (0 + (i : Int))), some (.ref (l.length + 1 + 0)), some (.ref (l.length + 1 + 1))] ((tn a1 b c1 :: l) ++ [.lst (nI pool), .lst (nI ys)]) = .ok (.int (v : Nat)) ((tn a2 b c2 :: l) ++ [.lst (nI pool), .lst (nI ys)]) := by
        refine a_callF (s_cons (a_var rfl) (s_cons (a_callB (s_cons (a_var rfl) s_nil) ?_) s_nil)) e
        have := v_lenL (m := tn a1 b c1 :: l) (l := [.lst (nI pool), .lst (nI ys)]) (j := 0) (ds := nI pool) rfl
        rw [nI_len] at this
        exact this
      have hpop : methV .pop ((tn a2 b c2 :: l) ++ [.lst (nI pool), .lst (nI ys)]) (.ref (l.length + 1 + 0)) [.int (v : Nat)] = some (.int (pool[v] : Nat), (tn a2 b c2 :: l) ++ [.lst (nI (pool.eraseIdx v)), .lst (nI ys)]) := by
        have := v_popI (m := tn a2 b c2 :: l) (l := [.lst (nI pool), .lst (nI ys)]) (j := 0) (k := v) (ds := nI pool) (d := .int (pool[v] : Nat)) rfl (by simp [nI, hvp])
        rw [show (nI pool).eraseIdx v = nI (pool.eraseIdx v) by rw [nI, erase_map]; rfl] at this
        exact this
      have happ : methV .append ((tn a2 b c2 :: l) ++ [.lst (nI (pool.eraseIdx v)), .lst (nI ys)]) (.ref (l.length + 1 + 1)) [.int (pool[v] : Nat)] = some (.non, (tn a2 b c2 :: l) ++ [.lst (nI (pool.eraseIdx v)), .lst (nI (ys ++ [pool[v]]))]) := by
        have := v_append (m := tn a2 b c2 :: l) (l := [.lst (nI (pool.eraseIdx v)), .lst (nI ys)]) (j := 1) (ds := nI ys) (d := .int (pool[v] : Nat)) rfl (by rw [nI_len]; omega)
        rw [show nI ys ++ [.int (pool[v] : Nat)] = nI (ys ++ [pool[v]]) by simp [nI]] at this
        exact this
      refine ⟨_, _, [some (.ref 0), some (.lst (nI xs0)), some (.int (xs0.length : Nat)), some (.int (0 + (i : Int))), some (.ref (l.length + 1 + 0)), some (.ref (l.length + 1 + 1))], _, ?_, rfl,
        x_expr (a_meth (a_var rfl) (v_clsL (m := tn a1 b c1 :: l) (l := [.lst (nI pool), .lst (nI ys)]) (j := 1) rfl) rfl (s_cons (a_meth (a_var rfl) (v_clsL (m := tn a1 b c1 :: l) (l := [.lst (nI pool), .lst (nI ys)]) (j := 0) rfl) rfl (s_cons htake s_nil) (v_clsL (m := tn a2 b c2 :: l) (l := [.lst (nI pool), .lst (nI ys)]) (j := 0) rfl) hpop) s_nil) (v_clsL (m := tn a2 b c2 :: l) (l := [.lst (nI (pool.eraseIdx v)), .lst (nI ys)]) (j := 1) rfl) happ) x_nil,
        a2, c2, ys ++ [pool[v]], pool.eraseIdx v, _, rfl, rfl, t2, ?_, by simp [hlen]⟩
      · simp [SrcV.at, hi]
      · refine List.Perm.trans ?_ hp
        rw [List.append_assoc]
        exact (erase_perm hv').append_left ys)
    (fun env m' hI => by simp [SrcV.at]) turnsMax 0 [some (.ref 0), some (.lst (nI xs0)), some (.int (xs0.length : Nat)), none, some (.ref (l.length + 1 + 0)), some (.ref (l.length + 1 + 1))] ((tn a b c :: l) ++ [.lst (nI xs0), .lst (nI [])]) (Nat.zero_le _) (by unfold turnsMax; omega)
    ⟨a, c, [], xs0, none, rfl, rfl, t, by simp, rfl⟩
  have hpn : pool = [] := by
    have := hp.length_eq
    rw [List.length_append] at this
    exact List.length_eq_zero_iff.mp (by omega)
  subst hpn
  rw [List.append_nil] at hp
  have wm := w.tn (a' := a') (b' := b) (c' := c')
  have h1 : ev (MP.run Pg (L + 1)) (.thaw (.callB .list (.cons (.var 1) .nil))) [some (.ref 0), some (.lst (nI xs0)), some (.int (xs0.length : Nat)), none, none, none] ((tn a b c :: l) ++ []) = .ok (.ref (l.length + 1 + 0)) ((tn a b c :: l) ++ [.lst (nI xs0)]) :=
    a_thawLl (l := []) (l' := []) (a_callB (s_cons (a_var rfl) s_nil) rfl) (by rw [noL_nI, List.append_nil, w.2 rfl]; rfl)
  have h2 : ev (MP.run Pg (L + 1)) (.newL .nil) [some (.ref 0), some (.lst (nI xs0)), some (.int (xs0.length : Nat)), none, none, none] ((tn a b c :: l) ++ [.lst (nI xs0)]) = .ok (.ref (l.length + 1 + 1)) ((tn a b c :: l) ++ [.lst (nI xs0), .lst (nI [])]) :=
    a_newLl (l := [.lst (nI xs0)]) (l' := [.lst (nI xs0)]) s_nil rfl
  have h3 : evSr (MP.run Pg (L + 1)) (.rng1 (.callB .min2 (.cons (.callB .int (.cons (.var 2) .nil)) (.cons (.callB .len (.cons (.var 4) .nil)) .nil)))) [some (.ref 0), some (.lst (nI xs0)), some (.int (xs0.length : Nat)), none, some (.ref (l.length + 1 + 0)), some (.ref (l.length + 1 + 1))] ((tn a b c :: l) ++ [.lst (nI xs0), .lst (nI [])]) = .ok (.rng 0 xs0.length) ((tn a b c :: l) ++ [.lst (nI xs0), .lst (nI [])]) := by
    have hl := v_lenL (m := tn a b c :: l) (l := [.lst (nI xs0), .lst (nI [])]) (j := 0) (ds := nI xs0) rfl
    rw [nI_len] at hl
    have hmin : callV .min2 ((tn a b c :: l) ++ [.lst (nI xs0), .lst (nI [])]) [.int (xs0.length : Nat), .int (xs0.length : Nat)] = some (.int (xs0.length : Nat), (tn a b c :: l) ++ [.lst (nI xs0), .lst (nI [])]) := by
      simp [callV]
    have := r_rng1 (C := MP.run Pg (L + 1)) (a_callB (s_cons (a_callB (b := .int) (s_cons (a_var (env := [some (.ref 0), some (.lst (nI xs0)), some (.int (xs0.length : Nat)), none, some (.ref (l.length + 1 + 0)), some (.ref (l.length + 1 + 1))]) (i := 2) rfl) s_nil) (call_int _ _)) (s_cons (a_callB (s_cons (a_var (i := 4) rfl) s_nil) hl) s_nil)) hmin) (by omega) (by omega)
    exact this
  exact ⟨_, a', c', c_okd p_l_pick rfl (x_par h1 h2 rfl rfl (x_for h3 hf (x_ret (a_var rfl)))) rfl (cl_ref (j := 1) wm rfl (fx_nI ys)), ⟨ys, rfl, hp⟩, t'⟩
theorem g_l_order (hn : n ≤ 1000) : Dr true Pg (L + 3) i_l_order n [.ref 0, .int (n : Nat)] (fun d => ∃ o : Or n, d = eO o) := by
  intro B a b c l t hB w
  obtain ⟨d, a', c', e, ⟨ys, rfl, hp⟩, t'⟩ := g_l_pick (L := L) (xs0 := List.range n) (by simpa using hn) B a b c l t (by simpa using hB) w
  rw [List.length_range] at e t'
  have h1 := a_rngL (C := MP.run Pg (L + 2)) (env := [some (.ref 0), some (.int (n : Nat))]) (m := (tn a b c :: l) ++ []) (m1 := (tn a b c :: l) ++ []) (m2 := (tn a b c :: l) ++ []) (a := .lit (.int 0)) (b := .var 1) (i := 0) (j := (n : Nat)) a_lit (a_var rfl) (by omega) (by omega) (by omega) (by omega)
  rw [rngList_nI] at h1
  have e2 : MP.run Pg (L + 2) i_l_pick [.ref 0, .lst (nI (List.range n)), .int (n : Nat)] ((tn a b c :: l) ++ []) = .ok (.lst (nI ys)) ((tn a' b c' :: l) ++ []) := by
    rw [List.append_nil, List.append_nil]
    exact e
  exact ⟨tN ys, a', c', c_okd (l2 := []) p_l_order rfl (x_ret (a_callB (s_cons (a_callF (s_cons (a_var rfl) (s_cons h1 (s_cons (a_var rfl) s_nil))) e2) s_nil) (tuple_lst _ _))) rfl (cl_fx (w.tn (a' := a') (b' := b) (c' := c')) (Fx.tN _)), ⟨⟨ys, isOrd_of_perm hp⟩, rfl⟩, t'⟩
theorem g_l_any_row {k : Nat} (hn : n ≤ 1000) (hk : k ≤ 1000) : Dr true Pg (L + 4) i_l_any_row (k * n) [.ref 0, .int (n : Nat), .int (k : Nat)] (fun d => ∃ os : List (Or n), d = eR n os ∧ os.length = k) := by
  intro B a b c l t hB w
  have hc := ed_comp (κ := true) (C := MP.run Pg (L + 3)) (env := [some (.ref 0), some (.int (n : Nat)), some (.int (k : Nat)), none]) (g := fun (i : Nat) => D.int (0 + (i : Int))) (f := fun (o : Or n) => eO o) (Pr := fun _ => True) (tg := .name 3) (src := .rng1 (.var 2)) (own := [3]) (elt := .callF i_l_order (.cons (.var 0) (.cons (.var 1) .nil))) n (List.range k)
    (fun m _ => range_src (fun m => a_var rfl) (by omega) m) (fun m i => at_rng _ _ _ _)
    (fun y _ => ⟨_, rfl, Ed.callF (fun m => s_cons (a_var rfl) (s_cons (a_var rfl) s_nil)) ((g_l_order hn).mono fun d ⟨o, e⟩ => ⟨o, e, trivial⟩)⟩) (fun o _ => fk_o o) (by simp; omega)
  rw [List.length_range] at hc
  obtain ⟨d, a', c', e, ⟨os, rfl, ho, _⟩, t'⟩ := Ed.at hc t hB w
  exact ⟨eR n os, a', c', c_okd (l2 := []) p_l_any_row rfl (x_ret (a_tup (s_cons (a_var rfl) (s_cons (a_callB (s_cons e s_nil) (tuple_lst _ _)) s_nil)) rfl)) rfl (cl_fx (w.tn (a' := a') (b' := b) (c' := c')) (fk_r (κ := true) os).1), ⟨os, rfl, ho⟩, t'⟩
end Hd

namespace Hd
open MP PySem L2 PySem.Spec PyProof.Rows
variable {κ : Bool} {L n : Nat}
abbrev C59 := MP.run Pg 59
theorem pl_r {os : List (Or n)} (hn : n ≤ 1000) (hl : os.length ≤ 1000) : pln 4 (eR n os) = true := Enc.pl ((n, os) : Nat × List (Or n)) ⟨trivial, by show os.length ≤ 1000000; omega, fun o _ => ⟨by rw [o.2.1]; omega, fun _ _ => trivial⟩⟩
theorem pl_ms {ms : List (Nat × Bool)} (hl : ms.length ≤ 1000000) : pln 4 (eMs ms) = true := by
  have h : ∀ x ∈ ms, pln 3 (eM x) = true := fun x _ => rfl
  simp only [pln, Bool.and_eq_true, decide_eq_true_eq, List.length_map, List.all_eq_true]
  refine ⟨hl, fun d hd => ?_⟩
  obtain ⟨x, hx, rfl⟩ := List.mem_map.mp hd
  exact h x hx
theorem g_same (k L : Nat) (d : D) (h : pln k d = true) : Gv κ Pg (L + k + 1) i_l_same [d, d] (.bl true) := same_gv p_l_same k L d h
/-- two values that are the same -/
theorem same_ev {env : MP.Env} {m m1 m2 : Mem} {x y : Ex} {d d' : D} (w : WF κ m2) (hx : ev C59 x env m = .ok d m1) (hy : ev C59 y env m1 = .ok d' m2) (he : d = d') (h : pln 5 d = true) : ev C59 (.notE (.callF i_l_same (.cons x (.cons y .nil)))) env m = .ok (.bl false) m2 := by
  subst he
  exact a_notB (t := true) (a_callF (s_cons hx (s_cons hy s_nil)) ((g_same 5 53 d h).at w))
theorem w0 (a b c : Int) : WF true [tn a b c] := ⟨by simp [tn, bndO, bndDs, bndD], fun _ => by simp [tn, noO, noLs, noL]⟩
theorem at0 {B : Nat} {a b c : Int} {C : Nat → List D → Mem → Res D} {K : Nat} {e : Ex} {env : MP.Env} {Q : D → Prop} (h : Ed true C K e env Q) (t : Tin B a b c) (hB : B + K ≤ 2 ^ 100) : ∃ r a' c', ev C e env [tn a b c] = .ok r [tn a' b c'] ∧ Q r ∧ Tin (B + K) a' b c' := h B a b c [] t hB (w0 a b c)
theorem ed_take {env : MP.Env} {e : Ex} {k : Int} (hv : envGet env 1 = some (.ref 0)) (he : ∀ m, ev C59 e env m = .ok (.int k) m) (hk : 0 < k) (hk2 : k < 2 ^ 62) : Ed true C59 1 (.callF i_l_take (.cons (.var 1) (.cons e .nil))) env (fun d => ∃ v : Nat, d = .int (v : Nat) ∧ (v : Int) < k) := Ed.callF (fun m => s_cons (a_var hv) (s_cons (he m) s_nil)) (g_take (L := 58) hk hk2)
end Hd

namespace Hd
open MP PySem L2 PySem.Spec PyProof.Rows
variable {κ : Bool} {L a b : Nat} {os : List (Or a)} {ps : List (Or b)}
/-! heard -/
theorem heard2 (h : Two os ps) (hb : big (pcs (us os ps)) = false) : Gv κ Pg (L + 10) i_l_heard [.int 2, eR a os, eR b ps, .non] (eOns (pcs (us os ps)) (us os ps)) := fun m w =>
  c_okl (l := []) p_l_heard rfl (x_asg (a_tup (s_cons a_lit (s_cons a_lit s_nil)) rfl) rfl (x_try (x_ifF (a_cmp (c := false) (a_var rfl) a_lit rfl) rfl (x_asg (a_iteT (a_cmp (c := true) (a_var rfl) a_lit rfl) rfl (a_callF (s_cons (a_var rfl) (s_cons (a_var rfl) s_nil)) ((g_pulled_rows (κ := κ) (L := L + 1) h hb).at w.nil))) rfl x_nil)) (x_ret (a_iteT (a_cmp (c := true) (a_var rfl) a_lit rfl) rfl (a_var rfl))))) rfl (cl_fx w (fk_Ons (κ := κ) _ _).1)
theorem heard2no (h : Two os ps) (hb : big (pcs (us os ps)) = true) : Gv κ Pg (L + 10) i_l_heard [.int 2, eR a os, eR b ps, .non] (.str "many") := fun m w =>
  c_okl (l := []) p_l_heard rfl (x_asg (a_tup (s_cons a_lit (s_cons a_lit s_nil)) rfl) rfl (x_tryE (x_ifF (a_cmp (c := false) (a_var rfl) a_lit rfl) rfl (x_asgE (a_iteT (a_cmp (c := true) (a_var rfl) a_lit rfl) rfl (a_callF (s_cons (a_var rfl) (s_cons (a_var rfl) s_nil)) ((g_pulled_rows_no (κ := κ) (L := L + 1) h hb).at w.nil))))) (h_miss rfl (h_hit a_lit rfl)) (x_ret (a_iteF (a_cmp (c := false) (a_var rfl) a_lit rfl) rfl (a_var rfl))))) rfl (cl_fx w (Fx.str _))
theorem heard1no (h : Two os ps) {c : List Nat} (hl : c.length ≤ 1000) (hc : prs b c ∉ (pcs (us os ps)).map (prs b)) : Gv κ Pg (L + 10) i_l_heard [.int 1, eR a os, eR b ps, eNc b c] (.str "unfit") := fun m w =>
  c_okl (l := []) p_l_heard rfl (x_asg (a_tup (s_cons a_lit (s_cons a_lit s_nil)) rfl) rfl (x_tryE (x_ifT (a_cmp (c := true) (a_var rfl) a_lit rfl) rfl (x_asgE (a_iteF (a_cmp (c := false) (a_var rfl) a_lit rfl) rfl (a_callF (s_cons (a_var rfl) (s_cons (a_var rfl) (s_cons (a_var rfl) s_nil))) ((g_sides_no (κ := κ) (L := L + 1) h hl hc).at w.nil))))) (h_miss rfl (h_miss rfl (h_hit a_lit rfl))) (x_ret (a_iteF (a_cmp (c := false) (a_var rfl) a_lit rfl) rfl (a_var rfl))))) rfl (cl_fx w (Fx.str _))
theorem heard0 (h : Two os ps) (ha : Wh os) (hb : Wh ps) (hl : (lst1 (us os ps)).length ≤ 24) : Gv κ Pg (L + 10) i_l_heard [.int 0, eR a os, eR b ps, .non] (eOn (lst1 (us os ps)) (us os ps)) := fun m w =>
  c_okl (l := []) p_l_heard rfl (x_asg (a_tup (s_cons a_lit (s_cons a_lit s_nil)) rfl) rfl (x_try (x_ifT (a_cmp (c := true) (a_var rfl) a_lit rfl) rfl (x_asg (a_iteT (a_cmp (c := true) (a_var rfl) a_lit rfl) rfl (a_callF (s_cons (a_var rfl) (s_cons (a_var rfl) s_nil)) ((g_least_over (κ := κ) (L := L) h ha hb hl).at w.nil))) rfl x_nil)) (x_ret (a_iteT (a_cmp (c := true) (a_var rfl) a_lit rfl) rfl (a_var rfl))))) rfl (cl_fx w (fk_On (κ := κ) _ _).1)
theorem heard0many (h : Two os ps) (ha : Wh os) (hb : Wh ps) (hl : 24 < (lst1 (us os ps)).length) : Gv κ Pg (L + 10) i_l_heard [.int 0, eR a os, eR b ps, .non] (.str "many") := fun m w =>
  c_okl (l := []) p_l_heard rfl (x_asg (a_tup (s_cons a_lit (s_cons a_lit s_nil)) rfl) rfl (x_tryE (x_ifT (a_cmp (c := true) (a_var rfl) a_lit rfl) rfl (x_asgE (a_iteT (a_cmp (c := true) (a_var rfl) a_lit rfl) rfl (a_callF (s_cons (a_var rfl) (s_cons (a_var rfl) s_nil)) ((g_least_over_many (κ := κ) (L := L) h ha hb hl).at w.nil))))) (h_miss rfl (h_hit a_lit rfl)) (x_ret (a_iteF (a_cmp (c := false) (a_var rfl) a_lit rfl) rfl (a_var rfl))))) rfl (cl_fx w (Fx.str _))
theorem heard0none (h : Two os ps) (hw : ¬(Wh os ∧ Wh ps)) : Gv κ Pg (L + 10) i_l_heard [.int 0, eR a os, eR b ps, .non] (.str "none") := fun m w =>
  c_okl (l := []) p_l_heard rfl (x_asg (a_tup (s_cons a_lit (s_cons a_lit s_nil)) rfl) rfl (x_tryE (x_ifT (a_cmp (c := true) (a_var rfl) a_lit rfl) rfl (x_asgE (a_iteT (a_cmp (c := true) (a_var rfl) a_lit rfl) rfl (a_callF (s_cons (a_var rfl) (s_cons (a_var rfl) s_nil)) ((g_least_over_none (κ := κ) (L := L) h hw).at w.nil))))) (h_hit a_lit rfl) (x_ret (a_iteF (a_cmp (c := false) (a_var rfl) a_lit rfl) rfl (a_var rfl))))) rfl (cl_fx w (Fx.str _))
end Hd

namespace Hd
open MP PySem L2 PySem.Spec PyProof.Rows
def iS (i : Nat) : Sts → Sts
  | .nil => .nil
  | .cons s r => match i with
    | 0 => .cons s r
    | i + 1 => iS i r
def lawB : Sts := match q_law.body with
  | .cons _ (.cons (.forS _ _ b) _) => b
  | _ => .nil
def OkE (ns : List Int) (env : MP.Env) : Prop := ∃ e2 e3 e4 e5 e6 e7 e8 e9 e10 e11 e12 e13 e14 e15 e16 e17 e18 e19 e20 e21 e22 e23, env = [some (.scr ns), some (.ref 0), e2, e3, e4, e5, e6, e7, e8, e9, e10, e11, e12, e13, e14, e15, e16, e17, e18, e19, e20, e21, e22, e23]
/-- where the suite goes on to its end -/
def End (ns : List Int) (b : Int) (B K : Nat) (R : SRes) : Prop := ∃ env' a' c', R = .ok .nx env' [tn a' b c'] ∧ OkE ns env' ∧ Tin (B + K) a' b c'
theorem same_ev6 {κ : Bool} {env : MP.Env} {m m1 m2 : Mem} {x y : Ex} {d d' : D} (w : WF κ m2) (hx : ev C59 x env m = .ok d m1) (hy : ev C59 y env m1 = .ok d' m2) (he : d = d') (h : pln 6 d = true) : ev C59 (.notE (.callF i_l_same (.cons x (.cons y .nil)))) env m = .ok (.bl false) m2 := by
  subst he
  exact a_notB (t := true) (a_callF (s_cons hx (s_cons hy s_nil)) ((g_same 6 52 d h).at w))
theorem map_getD {f : Nat → Nat} {c : List Nat} {i : Nat} (hi : i < c.length) : (c.map f).getD i 0 = f (c.getD i 0) := by simp [List.getD, hi]
section
variable {a b : Nat} {os : List (Or a)} {ps : List (Or b)}
theorem us_get (h : Two os ps) {i : Nat} (hi : i < os.length) : (us os ps).getD i Or.one = pul (os.getD i Or.one) (ps.getD i Or.one) := by
  have hi2 : i < ps.length := by rw [← h.ln]; exact hi
  have hz : (os.zip ps)[i]? = some (os[i], ps[i]) := by
    rw [List.getElem?_eq_getElem (by rw [List.length_zip]; omega), List.getElem_zip]
  unfold us puls
  simp only [List.getD, List.getElem?_map, hz, Option.map_some, List.getElem?_eq_getElem hi, List.getElem?_eq_getElem hi2, Option.getD_some]
theorem qs_get (h : Two os ps) {c : List Nat} {qs : List (Or c.length)} (hq : qs.map (fun p => p.1) = (us os ps).map fun o => onO c o.1) : qs.length = os.length ∧ ∀ i, i < os.length → (qs.getD i Or.one).1 = onO c ((us os ps).getD i Or.one).1 := by
  have hl := congrArg List.length hq
  rw [List.length_map, List.length_map, h.ul] at hl
  refine ⟨hl, fun i hi => ?_⟩
  have hg := congrArg (fun l => l[i]?) hq
  have hi2 : i < (us os ps).length := by rw [h.ul]; exact hi
  simp only [List.getElem?_map, List.getElem?_eq_getElem (show i < qs.length by omega), List.getElem?_eq_getElem hi2, Option.map_some] at hg
  simp only [List.getD, List.getElem?_eq_getElem (show i < qs.length by omega), List.getElem?_eq_getElem hi2, Option.getD_some]
  exact Option.some.inj hg
theorem lead_at (h : Two os ps) {c : List Nat} (hc : c ∈ pcs (us os ps)) {qs : List (Or c.length)} (hq : qs.map (fun p => p.1) = (us os ps).map fun o => onO c o.1) {i x : Nat} (hi : i < os.length) (hx : x < c.length) : c.getD ((qs.getD i Or.one).1.getD x 0) 0 = (pul (os.getD i Or.one) (ps.getD i Or.one)).1.getD (c.getD x 0) 0 ∧ (qs.getD i Or.one).1.getD x 0 < c.length ∧ c.getD x 0 < a * b := by
  obtain ⟨h1, h2, h3⟩ := on_pcs hc
  have hm := getD_mem hx
  have hi2 : i < (us os ps).length := by rw [h.ul]; exact hi
  have hu : (us os ps).getD i Or.one ∈ us os ps := by
    simp only [List.getD, List.getElem?_eq_getElem hi2, Option.getD_some]
    exact List.getElem_mem hi2
  have hcl := h3 _ hu _ hm
  rw [(qs_get h hq).2 i hi, onO_get hx, idx_get hcl, us_get h hi]
  exact ⟨rfl, by rw [← us_get h hi]; exact List.idxOf_lt_length_of_mem hcl, h2 _ hm⟩
theorem lead_div (h : Two os ps) {c : List Nat} (hc : c ∈ pcs (us os ps)) {qs : List (Or c.length)} (hq : qs.map (fun p => p.1) = (us os ps).map fun o => onO c o.1) {i x : Nat} (hi : i < os.length) (hx : x < c.length) : (c.map (· / b)).getD ((qs.getD i Or.one).1.getD x 0) 0 = (os.getD i Or.one).1.getD ((c.map (· / b)).getD x 0) 0 := by
  obtain ⟨e, h1, h2⟩ := lead_at h hc hq hi hx
  rw [map_getD h1, map_getD hx, e, pul_div _ _ h2]
theorem lead_mod (h : Two os ps) {c : List Nat} (hc : c ∈ pcs (us os ps)) {qs : List (Or c.length)} (hq : qs.map (fun p => p.1) = (us os ps).map fun o => onO c o.1) {i x : Nat} (hi : i < os.length) (hx : x < c.length) : (c.map (· % b)).getD ((qs.getD i Or.one).1.getD x 0) 0 = (ps.getD i Or.one).1.getD ((c.map (· % b)).getD x 0) 0 := by
  obtain ⟨e, h1, h2⟩ := lead_at h hc hq hi hx
  rw [map_getD h1, map_getD hx, e, pul_mod _ _ h2]
theorem leads {κ : Bool} {L : Nat} (h : Two os ps) (ha : Wh os) (hb : Wh ps) {c : List Nat} (hc : c ∈ pcs (us os ps)) (hl : c.length ≤ 24) : Gv κ Pg (L + 9) i_is_leading [eOn c (us os ps), eR a os, tN (c.map (· / b))] (.bl true) ∧ Gv κ Pg (L + 9) i_is_leading [eOn c (us os ps), eR b ps, tN (c.map (· % b))] (.bl true) := by
  obtain ⟨qs, hq⟩ := row_on (on_pcs hc)
  rw [eOn_row hq]
  obtain ⟨s, hs, e⟩ := (pcs_ok (us os ps)).1.el c hc
  have hpos : 1 ≤ c.length := by
    rw [e]
    exact List.length_pos_of_mem (self_pce hs)
  have hw : Wh qs := by
    subst e
    exact on_whole hs hq
  have hql := (qs_get h hq).1
  have hlt := (on_pcs hc).2.1
  have l60 := h.l60
  have ln := h.ln
  exact ⟨g_leading ⟨hpos, hl, h.a1, h.a24, hql, by omega⟩ hw ha (by simp) (fun x hx => by
      obtain ⟨y, hy, rfl⟩ := List.mem_map.mp hx
      exact div_lt (hlt y hy)) fun i hi x hx => lead_div h hc hq (by omega) hx,
    g_leading ⟨hpos, hl, h.b1, h.b24, by omega, by omega⟩ hw hb (by simp) (fun x hx => by
      obtain ⟨y, hy, rfl⟩ := List.mem_map.mp hx
      exact mod_lt' (hlt y hy)) fun i hi x hx => lead_mod h hc hq (by omega) hx⟩
theorem pl_On {n : Nat} {c : List Nat} (os : List (Or n)) (hl : c.length ≤ 1000) (ho : os.length ≤ 1000) : pln 5 (eOn c os) = true := by
  have e : eOn c os = Enc.e ((c.length, os.map fun o => onO c o.1) : Nat × List (List Nat)) := by
    show D.tup [.int (c.length : Nat), .tup (os.map fun o => tN (onO c o.1))] = .tup [.int (c.length : Nat), .tup ((os.map fun o => onO c o.1).map tN)]
    rw [List.map_map]
    rfl
  rw [e]
  exact pln_mono (show Enc.dep (Nat × List (List Nat)) ≤ 5 by decide) (Enc.pl _ ⟨trivial, by show (os.map fun o => onO c o.1).length ≤ 1000000; rw [List.length_map]; omega, fun x hx => by
    obtain ⟨o, _, rfl⟩ := List.mem_map.mp hx
    exact ⟨by rw [onO, List.length_map]; omega, fun _ _ => trivial⟩⟩)
theorem sizes_first (h : Two os ps) : (szs (pcs (us os ps))).getD 0 0 = (lst1 (us os ps)).length ∧ 0 < (szs (pcs (us os ps))).length := by
  have hP := pcs_ok (us os ps)
  have hf := least_piece (pcs_ne' h.ab1) hP.1.ne hP.2.1
  have hm : (lst1 (us os ps)).length ∈ (pcs (us os ps)).map List.length := List.mem_map.mpr ⟨_, lst1_mem h, rfl⟩
  obtain ⟨h1, h2⟩ := sort_first hm
  obtain ⟨c, hc, e⟩ := List.mem_map.mp h1
  obtain ⟨j, hj, rfl⟩ := List.getElem_of_mem hc
  have := hf.le j hj
  have ej : (pcs (us os ps)).getD j [] = (pcs (us os ps))[j] := by simp [List.getD, hj]
  rw [ej] at this
  refine ⟨?_, ?_⟩
  · show (sortB leN ((pcs (us os ps)).map List.length)).getD 0 0 = ((pcs (us os ps)).getD (argIx ((pcs (us os ps)).map eLn)) []).length
    have h2 : (sortB leN ((pcs (us os ps)).map List.length)).getD 0 0 ≤ ((pcs (us os ps)).getD (argIx ((pcs (us os ps)).map eLn)) []).length := h2
    rw [← e] at h2 ⊢
    omega
  · rw [(sortB_self _).length_eq, List.length_map]
    exact List.length_pos_iff.mpr (pcs_ne' h.ab1)
theorem first_of (h : Two os ps) : ((pcs (us os ps)).filter fun c => ((List.length c : Int) == (((szs (pcs (us os ps))).getD 0 0 : Nat) : Int)))[0]? = some (lst1 (us os ps)) := by
  have hP := pcs_ok (us os ps)
  have hf := least_piece (pcs_ne' h.ab1) hP.1.ne hP.2.1
  have h0 := (sizes_first h).1
  rw [h0]
  have ei : lst1 (us os ps) = (pcs (us os ps))[argIx ((pcs (us os ps)).map eLn)]'hf.lt := by simp [List.getD, hf.lt]
  have := filter_first (fun c : List Nat => ((List.length c : Int) == ((lst1 (us os ps)).length : Int))) (pcs (us os ps)) (argIx ((pcs (us os ps)).map eLn)) hf.lt (by
    show _ = true
    rw [← ei]
    simp) fun j hj => by
      have hjl : j < (pcs (us os ps)).length := Nat.lt_trans hj hf.lt
      have h3 := hf.fst j hj
      have ej : (pcs (us os ps)).getD j [] = (pcs (us os ps))[j] := by simp [List.getD, hjl]
      rw [ej] at h3
      have h3 : (lst1 (us os ps)).length < ((pcs (us os ps))[j]).length := h3
      show (((List.length ((pcs (us os ps))[j]) : Nat) : Int) == (((lst1 (us os ps)).length : Nat) : Int)) = false
      rw [beq_eq_false_iff_ne]
      omega
  rw [this, ← ei]
end
end Hd

namespace Hd
open MP PySem L2 PySem.Spec PyProof.Rows
section
variable {a b : Nat} {os : List (Or a)} {ps : List (Or b)} {ns : List Int} {x q z : Int} {B k : Nat} {e2 e3 e4 e5 e6 e7 e8 e9 e10 e11 e12 e13 e14 e15 e16 e17 e18 e19 e20 e21 e22 e23 : Option D}
theorem ns_at (h : Two os ps) (hk : k < (pcs (us os ps)).length) (m : Mem) : ixV m (eNs b (pcs (us os ps))) (.int (k : Nat)) = some (eNc b ((pcs (us os ps)).getD k [])) := by
  rw [ix_tupM (f := eNc b) (xs := pcs (us os ps)) rfl (List.getElem?_eq_getElem hk)]
  simp [List.getD, hk]
theorem ons_at (h : Two os ps) (hk : k < (pcs (us os ps)).length) (m : Mem) : ixV m (eOns (pcs (us os ps)) (us os ps)) (.int (k : Nat)) = some (eOn ((pcs (us os ps)).getD k []) (us os ps)) := by
  rw [ix_tupM (f := fun c => eOn c (us os ps)) (xs := pcs (us os ps)) rfl (List.getElem?_eq_getElem hk)]
  simp [List.getD, hk]
theorem k_mem {T : List (List Nat)} (hk : k < T.length) : T.getD k [] ∈ T := by
  have e : T.getD k [] = T[k] := by simp [List.getD, hk]
  rw [e]
  exact List.getElem_mem hk
theorem t16 (h : Two os ps) (hk : k < (pcs (us os ps)).length) (t : Tin B x q z) : End ns q B 0 (exs C59 (iS 16 lawB) [some (.scr ns), some (.ref 0), e2, e3, e4, e5, e6, e7, some (eNs b (pcs (us os ps))), some (eOns (pcs (us os ps)) (us os ps)), some (tN (szs (pcs (us os ps)))), e11, some (.int (k : Nat)), some (.tup [tN (((pcs (us os ps)).getD k []).map (· / b)), tN (((pcs (us os ps)).getD k []).map (· % b))]), some (.bl (decide (Wh os) && decide (Wh ps))), some (eR a os), some (eR b ps), e17, e18, e19, e20, e21, e22, e23] [tn x q z]) := by
  have w := w0 x q z
  by_cases hw : Wh os ∧ Wh ps
  · obtain ⟨ha, hb⟩ := hw
    have h14 : (decide (Wh os) && decide (Wh ps)) = true := by rw [decide_eq_true ha, decide_eq_true hb]; rfl
    rw [h14]
    obtain ⟨s1, s2⟩ := sizes_first h
    have hpl := pcs_ln h
    have hck := pcs_el h (k_mem hk)
    have hcm := k_mem hk
    have hlm := lst1_mem h
    have h0 : ∀ m, ixV m (tN (szs (pcs (us os ps)))) (.int 0) = some (.int (((szs (pcs (us os ps))).getD 0 0 : Nat) : Int)) := fun m => ix_tN2 (i := 0) s2 m
    have q1 := a_comp (κ := true) (C := C59) (env := [some (.scr ns), some (.ref 0), e2, e3, e4, e5, e6, e7, some (eNs b (pcs (us os ps))), some (eOns (pcs (us os ps)) (us os ps)), some (tN (szs (pcs (us os ps)))), e11, some (.int (k : Nat)), some (.tup [tN (((pcs (us os ps)).getD k []).map (· / b)), tN (((pcs (us os ps)).getD k []).map (· % b))]), some (.bl true), some (eR a os), some (eR b ps), e17, e18, e19, e20, e21, e22, e23]) (m := [tn x q z]) (g := fun c => eOn c (us os ps)) (p := fun c => ((List.length c : Int) == (((szs (pcs (us os ps))).getD 0 0 : Nat) : Int))) (f := fun c => eOn c (us os ps)) (own := [19]) (tg := .name 19) (src := .of (.var 9)) (ifs := .cons (.cmp .eq (.ix (.var 19) (.lit (.int 0))) (.ix (.var 10) (.lit (.int 0)))) .nil) (elt := .var 19) (pcs (us os ps)) w (r_tup (a_var rfl)) (fun acc j => at_tup (fun c => eOn c (us os ps)) (pcs (us os ps)) _ j)
      (fun c _ => ⟨_, rfl, fun m' acc _ w' => ⟨t_oneB (a_cmp (a_ix (a_var rfl) a_lit ix20) (a_ix (a_var rfl) a_lit (h0 _)) (MP.eq_int _ _ _)), fun _ => ⟨a_var rfl, fk_On c _⟩⟩⟩) (by omega)
    have q2 := a_ix (C := C59) (i := .lit (.int 0)) q1 a_lit (ix_lstM (f := fun c => eOn c (us os ps)) (j := 0) rfl (first_of h))
    obtain ⟨c, hc⟩ : ∃ c, (pcs (us os ps)).getD k [] = c := ⟨_, rfl⟩
    have hna := ns_at h hk
    have hoa := ons_at h hk
    rw [hc] at hna hoa hck hcm
    rw [hc]
    rw [hc] at q2
    have hl1 := pcs_el h hlm
    -- the least
    have q3 : ev C59 (.notE (.callF i_l_same (.cons (.callF i_l_heard (.cons (.lit (.int 0)) (.cons (.var 15) (.cons (.var 16) (.cons (.lit (.non)) .nil))))) (.cons (.ite (.cmp .lt (.ix (.var 10) (.lit (.int 0))) (.lit (.int 25))) (.var 17) (.lit (.str "many"))) .nil)))) [some (.scr ns), some (.ref 0), e2, e3, e4, e5, e6, e7, some (eNs b (pcs (us os ps))), some (eOns (pcs (us os ps)) (us os ps)), some (tN (szs (pcs (us os ps)))), e11, some (.int (k : Nat)), some (.tup [tN (c.map (· / b)), tN (c.map (· % b))]), some (.bl true), some (eR a os), some (eR b ps), some (eOn (lst1 (us os ps)) (us os ps)), e18, e19, e20, e21, e22, e23] [tn x q z] = .ok (.bl false) [tn x q z] := by
      by_cases hl : (lst1 (us os ps)).length ≤ 24
      · exact same_ev6 w (a_callF (s_cons a_lit (s_cons (a_var rfl) (s_cons (a_var rfl) (s_cons a_lit s_nil)))) ((heard0 (κ := true) (L := 49) h ha hb hl).at w)) (a_iteT (a_cmp (c := true) (a_ix (a_var rfl) a_lit (h0 _)) a_lit (by rw [cmp_lt]; exact congrArg some (decide_eq_true (by omega)))) rfl (a_var rfl)) rfl (pln_mono (by omega) (pl_On _ (by omega) (by rw [h.ul]; have := h.l60; omega)))
      · exact same_ev6 w (a_callF (s_cons a_lit (s_cons (a_var rfl) (s_cons (a_var rfl) (s_cons a_lit s_nil)))) ((heard0many (κ := true) (L := 49) h ha hb (by omega)).at w)) (a_iteF (a_cmp (c := false) (a_ix (a_var rfl) a_lit (h0 _)) a_lit (by rw [cmp_lt]; exact congrArg some (decide_eq_false (by omega)))) rfl a_lit) rfl (by kernel_rfl)
    have hlen : callV .len [tn x q z] [eNc b c] = some (.int ((List.length c : Nat) : Int), [tn x q z]) := len_tupM (f := ePr b) (xs := c)
    have q4 := a_andB (C := C59) (env := [some (.scr ns), some (.ref 0), e2, e3, e4, e5, e6, e7, some (eNs b (pcs (us os ps))), some (eOns (pcs (us os ps)) (us os ps)), some (tN (szs (pcs (us os ps)))), e11, some (.int (k : Nat)), some (.tup [tN (c.map (· / b)), tN (c.map (· % b))]), some (.bl true), some (eR a os), some (eR b ps), some (eOn (lst1 (us os ps)) (us os ps)), e18, e19, e20, e21, e22, e23]) (m := [tn x q z]) (m1 := [tn x q z]) (a := .cmp .lt (.callB .len (.cons (.ix (.var 8) (.var 12)) .nil)) (.lit (.int 25))) (b := .notE (.callF i_l_same (.cons (.lst (.cons (.callF i_is_leading (.cons (.ix (.var 9) (.var 12)) (.cons (.var 15) (.cons (.ix (.var 13) (.lit (.int 0))) .nil)))) (.cons (.callF i_is_leading (.cons (.ix (.var 9) (.var 12)) (.cons (.var 16) (.cons (.ix (.var 13) (.lit (.int 1))) .nil)))) .nil))) (.cons (.lst (.cons (.lit (.bl true)) (.cons (.lit (.bl true)) .nil))) .nil)))) (t := decide ((List.length c : Int) < 25)) (u := false) (a_cmp (a_callB (s_cons (a_ix (a_var rfl) (a_var rfl) (hna _)) s_nil) hlen) a_lit (cmp_lt _ _ _)) fun ht => by
      have ht := of_decide_eq_true ht
      obtain ⟨l1, l2⟩ := leads (κ := true) (L := 50) h ha hb hcm (by omega)
      exact same_ev6 w (a_lst (s_cons (a_callF (s_cons (a_ix (a_var rfl) (a_var rfl) (hoa _)) (s_cons (a_var rfl) (s_cons (a_ix (a_var rfl) a_lit ix20) s_nil))) (l1.at w)) (s_cons (a_callF (s_cons (a_ix (a_var rfl) (a_var rfl) (hoa _)) (s_cons (a_var rfl) (s_cons (a_ix (a_var rfl) a_lit ix21) s_nil))) (l2.at w)) s_nil)) rfl) (a_lst (s_cons a_lit (s_cons a_lit s_nil)) rfl) rfl (by kernel_rfl)
    rw [Bool.and_false] at q4
    exact ⟨_, x, z, x_ifT (a_var rfl) rfl (x_asg q2 rfl (x_ifF q3 rfl (x_ifF q4 rfl x_nil))), ⟨_, _, _, _, _, _, _, _, _, _, _, _, _, _, _, _, _, _, _, _, _, _, rfl⟩, t⟩
  · have h14 : (decide (Wh os) && decide (Wh ps)) = false := by rw [← Bool.decide_and, decide_eq_false hw]
    rw [h14]
    exact ⟨_, x, z, x_ifF (a_var rfl) rfl (x_ifF (same_ev6 w (a_callF (s_cons a_lit (s_cons (a_var rfl) (s_cons (a_var rfl) (s_cons a_lit s_nil)))) ((heard0none (κ := true) (L := 49) h hw).at w)) a_lit rfl (by kernel_rfl)) rfl x_nil), ⟨_, _, _, _, _, _, _, _, _, _, _, _, _, _, _, _, _, _, _, _, _, _, rfl⟩, t⟩
end
end Hd

namespace Hd
open MP PySem L2 PySem.Spec PyProof.Rows
theorem same_ev7 {κ : Bool} {env : MP.Env} {m m1 m2 : Mem} {x y : Ex} {d d' : D} (w : WF κ m2) (hx : ev C59 x env m = .ok d m1) (hy : ev C59 y env m1 = .ok d' m2) (he : d = d') (h : pln 7 d = true) : ev C59 (.notE (.callF i_l_same (.cons x (.cons y .nil)))) env m = .ok (.bl false) m2 := by
  subst he
  exact a_notB (t := true) (a_callF (s_cons hx (s_cons hy s_nil)) ((g_same 7 51 d h).at w))
theorem prs_inj {b : Nat} : ∀ {c d : List Nat}, prs b c = prs b d → c = d
  | [], [], _ => rfl
  | [], y :: d, h => by simp at h
  | x :: c, [], h => by simp at h
  | x :: c, y :: d, h => by
    have h : (x / b, x % b) :: prs b c = (y / b, y % b) :: prs b d := h
    obtain ⟨h1, h2⟩ := List.cons.inj h
    obtain ⟨e1, e2⟩ := Prod.mk.inj h1
    have k1 := Nat.div_add_mod x b
    have k2 := Nat.div_add_mod y b
    rw [e1, e2, k2] at k1
    rw [k1, prs_inj h2]
section
variable {a b : Nat} {os : List (Or a)} {ps : List (Or b)} {ns : List Int} {x q z : Int} {B k : Nat} {e2 e3 e4 e5 e6 e7 e8 e9 e10 e11 e12 e13 e14 e15 e16 e17 e18 e19 e20 e21 e22 e23 : Option D}
theorem not_piece (h : Two os ps) {c : List Nat} (hc : c ∈ pcs (us os ps)) : prs b (c.drop 1) ∉ (pcs (us os ps)).map (prs b) := fun hm => by
  obtain ⟨d, hd, e⟩ := List.mem_map.mp hm
  have e := prs_inj e
  have hP := (pcs_ok (us os ps)).1
  have hdn := hP.ne d hd
  have hdc : d = c := by
    obtain ⟨s, hs, rfl⟩ := hP.el c hc
    obtain ⟨t, ht, rfl⟩ := hP.el d hd
    have hy := headD_mem (y := 0) hdn
    have hy2 : (pce (us os ps) t).headD 0 ∈ pce (us os ps) s := by
      have : (pce (us os ps) t).headD 0 ∈ (pce (us os ps) s).drop 1 := by rw [← e]; exact hy
      exact List.mem_of_mem_drop this
    rw [← pce_eq ht hy, pce_eq hs hy2]
  have hl := congrArg List.length e
  rw [hdc, List.length_drop] at hl
  have := List.length_pos_iff.mpr (hP.ne c hc)
  omega
theorem wh_pieces {n : Nat} {os : List (Or n)} (h1 : 1 ≤ n) : ((((pcs os).map tN).length : Int) == 1) = decide (Wh os) := by
  rw [Bool.eq_iff_iff, beq_iff_eq, decide_eq_true_iff, List.length_map]
  have := whole_iff (os := os) h1
  unfold Wh
  omega
theorem t15 (h : Two os ps) (hk : k < (pcs (us os ps)).length) (t : Tin B x q z) : End ns q B 0 (exs C59 (iS 15 lawB) [some (.scr ns), some (.ref 0), e2, e3, e4, e5, e6, e7, some (eNs b (pcs (us os ps))), some (eOns (pcs (us os ps)) (us os ps)), some (tN (szs (pcs (us os ps)))), e11, some (.int (k : Nat)), some (.tup [tN (((pcs (us os ps)).getD k []).map (· / b)), tN (((pcs (us os ps)).getD k []).map (· % b))]), e14, some (eR a os), some (eR b ps), e17, e18, e19, e20, e21, e22, e23] [tn x q z]) := by
  have w := w0 x q z
  have h60 := h.l60
  have hln := h.ln
  have p1 := (g_l_pieces (κ := true) (L := 58) (os := os) (by have := h.a24; omega) (by omega)).at w
  have p2 := (g_l_pieces (κ := true) (L := 58) (os := ps) (by have := h.b24; omega) (by omega)).at w
  obtain ⟨env', a', c', r1, r2, r3⟩ := t16 (os := os) (ps := ps) (ns := ns) (x := x) (q := q) (z := z) (k := k) (e2 := e2) (e3 := e3) (e4 := e4) (e5 := e5) (e6 := e6) (e7 := e7) (e11 := e11) (e17 := e17) (e18 := e18) (e19 := e19) (e20 := e20) (e21 := e21) (e22 := e22) (e23 := e23) h hk t
  exact ⟨env', a', c', x_asg (a_and2 (t := decide (Wh os)) (u := decide (Wh ps)) (a_cmp (a_callB (s_cons (a_callF (s_cons (a_var rfl) s_nil) p1) s_nil) (len_tup _ _)) a_lit (by rw [MP.eq_int, wh_pieces h.a1])) (a_cmp (a_callB (s_cons (a_callF (s_cons (a_var rfl) s_nil) p2) s_nil) (len_tup _ _)) a_lit (by rw [MP.eq_int, wh_pieces h.b1]))) rfl r1, r2, r3⟩
theorem pl_tN {c : List Nat} (hl : c.length ≤ 1000) : pln 2 (tN c) = true := Enc.pl c ⟨by omega, fun _ _ => trivial⟩
theorem t14 (h : Two os ps) (hk : k < (pcs (us os ps)).length) (t : Tin B x q z) : End ns q B 0 (exs C59 (iS 14 lawB) [some (.scr ns), some (.ref 0), e2, e3, e4, e5, e6, e7, some (eNs b (pcs (us os ps))), some (eOns (pcs (us os ps)) (us os ps)), some (tN (szs (pcs (us os ps)))), e11, some (.int (k : Nat)), some (.tup [tN (((pcs (us os ps)).getD k []).map (· / b)), tN (((pcs (us os ps)).getD k []).map (· % b))]), e14, some (eR a os), some (eR b ps), e17, e18, e19, e20, e21, e22, e23] [tn x q z]) := by
  have w := w0 x q z
  obtain ⟨env', a', c', r1, r2, r3⟩ := t15 (os := os) (ps := ps) (ns := ns) (x := x) (q := q) (z := z) (k := k) (e2 := e2) (e3 := e3) (e4 := e4) (e5 := e5) (e6 := e6) (e7 := e7) (e11 := e11) (e14 := e14) (e17 := e17) (e18 := e18) (e19 := e19) (e20 := e20) (e21 := e21) (e22 := e22) (e23 := e23) h hk t
  have hck := pcs_el h (k_mem hk)
  have hcm := k_mem hk
  have hna := ns_at h hk
  obtain ⟨c, hc⟩ : ∃ c, (pcs (us os ps)).getD k [] = c := ⟨_, rfl⟩
  rw [hc] at hna hck hcm r1
  rw [hc]
  have hsl : slV [tn x q z] (eNc b c) (some 1) none = some (eNc b (c.drop 1)) := by
    have := sl_from (m := [tn x q z]) (ds := c.map (ePr b)) (k := 1) (j := 1) rfl
    rw [← List.map_drop] at this
    exact this
  have hpl : pln 7 (.lst [.tup [tN (c.map (· / b)), tN (c.map (· % b))], .str "unfit"]) = true := by
    have p1 := pl_tN (c := c.map (· / b)) (by rw [List.length_map]; omega)
    have p2 := pl_tN (c := c.map (· % b)) (by rw [List.length_map]; omega)
    have : pln 3 (.tup [tN (c.map (· / b)), tN (c.map (· % b))]) = true := by
      unfold pln
      simp only [List.all_cons, List.all_nil, Bool.and_true, p1, p2, Bool.and_self, decide_eq_true_eq]
      show 2 ≤ 1000000
      omega
    have h6 : pln 6 (.tup [tN (c.map (· / b)), tN (c.map (· % b))]) = true := pln_mono (by omega) this
    unfold pln
    simp only [List.all_cons, List.all_nil, Bool.and_true, h6, Bool.true_and, Bool.and_eq_true]
    exact ⟨decide_eq_true (show 2 ≤ 1000000 by omega), by kernel_rfl⟩
  exact ⟨env', a', c', x_ifF (same_ev7 w (a_lst (s_cons (a_callF (s_cons (a_var rfl) (s_cons (a_var rfl) (s_cons (a_ix (a_var rfl) (a_var rfl) (hna _)) s_nil))) ((g_sides_of (κ := true) (L := 51) h hcm).at w)) (s_cons (a_callF (s_cons a_lit (s_cons (a_var rfl) (s_cons (a_var rfl) (s_cons (a_sl (h := []) (h' := []) (a_ix (a_var rfl) (a_var rfl) (hna _)) (s_cons a_lit s_nil) rfl s_nil rfl hsl) s_nil)))) ((heard1no (κ := true) (L := 49) h (by rw [List.length_drop]; omega) (not_piece h hcm)).at w)) s_nil)) rfl) (a_lst (s_cons (a_var rfl) (s_cons a_lit s_nil)) rfl) rfl hpl) rfl r1, r2, r3⟩
theorem t13 (h : Two os ps) (hk : k < (pcs (us os ps)).length) (t : Tin B x q z) : End ns q B 0 (exs C59 (iS 13 lawB) [some (.scr ns), some (.ref 0), e2, e3, e4, e5, e6, e7, some (eNs b (pcs (us os ps))), some (eOns (pcs (us os ps)) (us os ps)), some (tN (szs (pcs (us os ps)))), e11, some (.int (k : Nat)), e13, e14, some (eR a os), some (eR b ps), e17, e18, e19, e20, e21, e22, e23] [tn x q z]) := by
  have w := w0 x q z
  obtain ⟨env', a', c', r1, r2, r3⟩ := t14 (os := os) (ps := ps) (ns := ns) (x := x) (q := q) (z := z) (k := k) (e2 := e2) (e3 := e3) (e4 := e4) (e5 := e5) (e6 := e6) (e7 := e7) (e11 := e11) (e14 := e14) (e17 := e17) (e18 := e18) (e19 := e19) (e20 := e20) (e21 := e21) (e22 := e22) (e23 := e23) h hk t
  have hck := pcs_el h (k_mem hk)
  have hna := ns_at h hk
  obtain ⟨c, hc⟩ : ∃ c, (pcs (us os ps)).getD k [] = c := ⟨_, rfl⟩
  rw [hc] at hna hck r1
  have h1 := a_comp0 (κ := true) (C := C59) (env := [some (.scr ns), some (.ref 0), e2, e3, e4, e5, e6, e7, some (eNs b (pcs (us os ps))), some (eOns (pcs (us os ps)) (us os ps)), some (tN (szs (pcs (us os ps)))), e11, some (.int (k : Nat)), e13, e14, some (eR a os), some (eR b ps), e17, e18, e19, e20, e21, e22, e23]) (m := [tn x q z]) (g := ePr b) (f := fun (x : Nat) => D.int ((x / b : Nat) : Int)) (own := [19]) (tg := .name 19) (src := .of (.ix (.var 8) (.var 12))) (elt := .ix (.var 19) (.lit (.int 0))) c w (r_tup (a_ix (a_var rfl) (a_var rfl) (hna _))) (fun acc i => at_tup (ePr b) c _ i) (fun x _ => ⟨_, rfl, fun m' acc _ w' => ⟨a_ix (a_var rfl) a_lit ix20, Fk.int _⟩⟩) (by omega)
  have h2 := a_comp0 (κ := true) (C := C59) (env := [some (.scr ns), some (.ref 0), e2, e3, e4, e5, e6, e7, some (eNs b (pcs (us os ps))), some (eOns (pcs (us os ps)) (us os ps)), some (tN (szs (pcs (us os ps)))), e11, some (.int (k : Nat)), e13, e14, some (eR a os), some (eR b ps), e17, e18, e19, e20, e21, e22, e23]) (m := [tn x q z]) (g := ePr b) (f := fun (x : Nat) => D.int ((x % b : Nat) : Int)) (own := [19]) (tg := .name 19) (src := .of (.ix (.var 8) (.var 12))) (elt := .ix (.var 19) (.lit (.int 1))) c w (r_tup (a_ix (a_var rfl) (a_var rfl) (hna _))) (fun acc i => at_tup (ePr b) c _ i) (fun x _ => ⟨_, rfl, fun m' acc _ w' => ⟨a_ix (a_var rfl) a_lit ix21, Fk.int _⟩⟩) (by omega)
  rw [nI_map (fun x => x / b)] at h1
  rw [nI_map (fun x => x % b)] at h2
  exact ⟨env', a', c', x_asg (a_tup (s_cons (a_callB (s_cons h1 s_nil) (tuple_lst _ _)) (s_cons (a_callB (s_cons h2 s_nil) (tuple_lst _ _)) s_nil)) rfl) rfl r1, r2, r3⟩
theorem End.mono {ns : List Int} {b : Int} {B K K' : Nat} {R : SRes} (h : End ns b B K R) (hk : K ≤ K') : End ns b B K' R := by
  obtain ⟨e, a', c', h1, h2, h3⟩ := h
  exact ⟨e, a', c', h1, h2, h3.mono (by omega)⟩
theorem t12 (h : Two os ps) (t : Tin B x q z) (hB : B + 1 ≤ 2 ^ 100) : End ns q B 1 (exs C59 (iS 12 lawB) [some (.scr ns), some (.ref 0), e2, e3, e4, e5, e6, some (.tup ((pcs (us os ps)).map tN)), some (eNs b (pcs (us os ps))), some (eOns (pcs (us os ps)) (us os ps)), some (tN (szs (pcs (us os ps)))), e11, e12, e13, e14, some (eR a os), some (eR b ps), e17, e18, e19, e20, e21, e22, e23] [tn x q z]) := by
  have hl := pcs_ln h
  have hpos := List.length_pos_iff.mpr (pcs_ne' (os := us os ps) h.ab1)
  obtain ⟨d, a1, c1, q1, ⟨v, rfl, hv⟩, u1⟩ := at0 (ed_take (env := [some (.scr ns), some (.ref 0), e2, e3, e4, e5, e6, some (.tup ((pcs (us os ps)).map tN)), some (eNs b (pcs (us os ps))), some (eOns (pcs (us os ps)) (us os ps)), some (tN (szs (pcs (us os ps)))), e11, e12, e13, e14, some (eR a os), some (eR b ps), e17, e18, e19, e20, e21, e22, e23]) (e := .callB .len (.cons (.var 7) .nil)) (k := ((pcs (us os ps)).length : Nat)) rfl (fun m => a_callB (s_cons (a_var rfl) s_nil) len_tupM) (by omega) (by omega)) t (by omega)
  obtain ⟨env', a', c', r1, r2, r3⟩ := t13 (os := os) (ps := ps) (ns := ns) (x := a1) (q := q) (z := c1) (k := v) (e2 := e2) (e3 := e3) (e4 := e4) (e5 := e5) (e6 := e6) (e7 := some (.tup ((pcs (us os ps)).map tN))) (e11 := e11) (e13 := e13) (e14 := e14) (e17 := e17) (e18 := e18) (e19 := e19) (e20 := e20) (e21 := e21) (e22 := e22) (e23 := e23) h (by omega) u1
  exact ⟨env', a', c', x_asg q1 rfl r1, r2, r3⟩
end
end Hd

namespace Hd
open MP PySem L2 PySem.Spec PyProof.Rows
noncomputable def rowsV {n : Nat} (V : List (Or n)) : D := if big (pcs V) = true then .str "many" else eOns (pcs V) V
noncomputable abbrev gotV {a b : Nat} (os : List (Or a)) (ps : List (Or b)) : D := .lst [eNs b (pcs (us os ps)), tN (szs (pcs (us os ps))), eLots (us os ps), rowsV (us os ps)]
theorem ix_last {xs : List Nat} (h : 0 < xs.length) (m : Mem) : ixV m (tN xs) (.int (-1)) = some (.int ((xs.getD (xs.length - 1) 0 : Nat) : Int)) := by
  have h2 : ixN xs.length (-1) = some (xs.length - 1) := by
    unfold ixN
    rw [if_neg (by omega), if_pos (by omega)]
    exact congrArg some (by omega)
  show atI (nI xs) (-1) = _
  unfold atI
  rw [nI_len, h2]
  have : xs.length - 1 < xs.length := by omega
  simp [nI, List.getD, this]
theorem big_last {T : List (List Nat)} (hne : T ≠ []) : decide ((((szs T).getD ((szs T).length - 1) 0 : Nat) : Int) < 25) = !big T := by
  obtain ⟨c, hc⟩ := List.exists_mem_of_ne_nil T hne
  have hl : (szs T).length = (T.map List.length).length := (sortB_self _).length_eq
  have hm : c.length ∈ T.map List.length := List.mem_map.mpr ⟨c, hc, rfl⟩
  obtain ⟨h1, _⟩ := sort_last hm
  rw [hl]
  have h1 : (szs T).getD ((T.map List.length).length - 1) 0 ∈ T.map List.length := h1
  have hall : ∀ d ∈ T, d.length ≤ (szs T).getD ((T.map List.length).length - 1) 0 := fun d hd => (sort_last (List.mem_map.mpr ⟨d, hd, rfl⟩)).2
  obtain ⟨e, he, hel⟩ := List.mem_map.mp h1
  rw [Bool.eq_iff_iff, decide_eq_true_iff, Bool.not_eq_true']
  unfold big
  rw [List.any_eq_false]
  constructor
  · intro hz d hd
    have := hall d hd
    rw [decide_eq_true_iff]
    omega
  · intro hz
    have := hz e he
    rw [decide_eq_true_iff] at this
    omega
section
variable {a b : Nat} {os : List (Or a)} {ps : List (Or b)} {ns : List Int} {x q z : Int} {B k : Nat} {e2 e3 e4 e5 e6 e7 e8 e9 e10 e11 e12 e13 e14 e15 e16 e17 e18 e19 e20 e21 e22 e23 : Option D}
theorem pl_Ns (h : Two os ps) : pln 4 (eNs b (pcs (us os ps))) = true := by
  have hl := pcs_ln h
  rw [eNs_e]
  exact Enc.pl (α := List (List (Nat × Nat))) ((pcs (us os ps)).map (prs b)) ⟨by rw [List.length_map]; omega, fun y hy => by
    obtain ⟨c, hc, rfl⟩ := List.mem_map.mp hy
    have := pcs_el h hc
    show (prs b c).length ≤ 1000000 ∧ ∀ y ∈ prs b c, True ∧ True
    exact ⟨by rw [List.length_map]; omega, fun _ _ => ⟨trivial, trivial⟩⟩⟩
theorem lots_len {n : Nat} {o : List Nat} (ho : isOrd n o) : (lotsN o).length ≤ n := by
  unfold lotsN
  rw [List.length_reverse, (sortB_self _).length_eq, lens, List.length_map]
  exact cyc_len ho
theorem pl_Lots (h : Two os ps) : pln 3 (eLots (us os ps)) = true := by
  have e : eLots (us os ps) = Enc.e ((us os ps).map fun u => lotsN u.1) := by
    show D.tup ((us os ps).map fun u => tN (lotsN u.1)) = .tup (((us os ps).map fun u => lotsN u.1).map tN)
    rw [List.map_map]
    rfl
  have := h.ab
  rw [e]
  exact Enc.pl (α := List (List Nat)) ((us os ps).map fun u => lotsN u.1) ⟨by rw [List.length_map, h.ul]; have := h.l60; omega, fun y hy => by
    obtain ⟨u, hu, rfl⟩ := List.mem_map.mp hy
    have := lots_len u.2
    exact ⟨by omega, fun _ _ => trivial⟩⟩
theorem pl_tupk {ds : List D} {k : Nat} (hl : ds.length ≤ 1000000) (h : ∀ d ∈ ds, pln k d = true) : pln (k + 1) (.tup ds) = true := by
  simp only [pln, Bool.and_eq_true, decide_eq_true_eq, List.all_eq_true]
  exact ⟨hl, h⟩
theorem pl_lstk {ds : List D} {k : Nat} (hl : ds.length ≤ 1000000) (h : ∀ d ∈ ds, pln k d = true) : pln (k + 1) (.lst ds) = true := by
  simp only [pln, Bool.and_eq_true, decide_eq_true_eq, List.all_eq_true]
  exact ⟨hl, h⟩
theorem pl_got (h : Two os ps) : pln 7 (gotV os ps) = true := by
  have hab := h.ab
  have hl := pcs_ln h
  refine pl_lstk (show 4 ≤ 1000000 by omega) fun d hd => ?_
  simp only [List.mem_cons, List.not_mem_nil, or_false] at hd
  rcases hd with rfl | rfl | rfl | rfl
  · exact pln_mono (by omega) (pl_Ns h)
  · exact pln_mono (by omega) (pl_tN (by rw [(sortB_self _).length_eq, List.length_map]; omega))
  · exact pln_mono (by omega) (pl_Lots h)
  · unfold rowsV
    split
    · kernel_rfl
    · exact pl_tupk (by rw [List.length_map]; omega) fun d hd => by
        obtain ⟨c, hc, rfl⟩ := List.mem_map.mp hd
        have := pcs_el h hc
        exact pl_On _ (by omega) (by rw [h.ul]; have := h.l60; omega)
theorem fk_rows {κ : Bool} {n : Nat} (V : List (Or n)) : Fk κ (rowsV V) := by
  unfold rowsV
  split
  · exact ⟨Fx.str _, fun _ => by simp [noL]⟩
  · exact fk_Ons _ _
theorem t11 (h : Two os ps) (t : Tin B x q z) (hB : B + 1 ≤ 2 ^ 100) : End ns q B 1 (exs C59 (iS 11 lawB) [some (.scr ns), some (.ref 0), e2, some (gotV os ps), e4, e5, e6, some (.tup ((pcs (us os ps)).map tN)), some (eNs b (pcs (us os ps))), some (eOns (pcs (us os ps)) (us os ps)), some (tN (szs (pcs (us os ps)))), some (gotV os ps), e12, e13, e14, some (eR a os), some (eR b ps), e17, e18, e19, e20, e21, e22, e23] [tn x q z]) := by
  obtain ⟨env', a', c', r1, r2, r3⟩ := t12 (os := os) (ps := ps) (ns := ns) (x := x) (q := q) (z := z) (e2 := e2) (e3 := some (gotV os ps)) (e4 := e4) (e5 := e5) (e6 := e6) (e11 := some (gotV os ps)) (e12 := e12) (e13 := e13) (e14 := e14) (e17 := e17) (e18 := e18) (e19 := e19) (e20 := e20) (e21 := e21) (e22 := e22) (e23 := e23) h t hB
  exact ⟨env', a', c', x_ifF (same_ev7 (w0 x q z) (a_var rfl) (a_var rfl) rfl (pl_got h)) rfl r1, r2, r3⟩
theorem t10 (h : Two os ps) (t : Tin B x q z) (hB : B + 1 ≤ 2 ^ 100) : End ns q B 1 (exs C59 (iS 10 lawB) [some (.scr ns), some (.ref 0), e2, some (gotV os ps), e4, e5, some (eR (a * b) (us os ps)), some (.tup ((pcs (us os ps)).map tN)), some (eNs b (pcs (us os ps))), some (eOns (pcs (us os ps)) (us os ps)), some (tN (szs (pcs (us os ps)))), e11, e12, e13, e14, some (eR a os), some (eR b ps), e17, e18, e19, e20, e21, e22, e23] [tn x q z]) := by
  have w := w0 x q z
  have hab := h.ab
  obtain ⟨env', a', c', r1, r2, r3⟩ := t11 (os := os) (ps := ps) (ns := ns) (x := x) (q := q) (z := z) (e2 := e2) (e4 := e4) (e5 := e5) (e6 := some (eR (a * b) (us os ps))) (e12 := e12) (e13 := e13) (e14 := e14) (e17 := e17) (e18 := e18) (e19 := e19) (e20 := e20) (e21 := e21) (e22 := e22) (e23 := e23) h t hB
  have hc := a_comp0 (κ := true) (C := C59) (env := [some (.scr ns), some (.ref 0), e2, some (gotV os ps), e4, e5, some (eR (a * b) (us os ps)), some (.tup ((pcs (us os ps)).map tN)), some (eNs b (pcs (us os ps))), some (eOns (pcs (us os ps)) (us os ps)), some (tN (szs (pcs (us os ps)))), e11, e12, e13, e14, some (eR a os), some (eR b ps), e17, e18, e19, e20, e21, e22, e23]) (m := [tn x q z]) (g := eO) (f := fun (u : Or (a * b)) => tN (lotsN u.1)) (own := [19]) (tg := .name 19) (src := .of (.ix (.var 6) (.lit (.int 1)))) (elt := .callF i_l_lots (.cons (.var 19) .nil)) (us os ps) w (r_tup (a_ix (a_var rfl) a_lit ix21)) (fun acc i => at_tup eO (us os ps) _ i) (fun u _ => ⟨_, rfl, fun m' acc _ w' => ⟨a_callF (s_cons (a_var rfl) s_nil) ((g_l_lots (κ := true) (L := 57) u.2 (by omega)).at w'), fk_tN _⟩⟩) (by rw [h.ul]; have := h.l60; omega)
  have hpos : 0 < (szs (pcs (us os ps))).length := (sizes_first h).2
  have hlt := a_cmp (C := C59) (env := [some (.scr ns), some (.ref 0), e2, some (gotV os ps), e4, e5, some (eR (a * b) (us os ps)), some (.tup ((pcs (us os ps)).map tN)), some (eNs b (pcs (us os ps))), some (eOns (pcs (us os ps)) (us os ps)), some (tN (szs (pcs (us os ps)))), e11, e12, e13, e14, some (eR a os), some (eR b ps), e17, e18, e19, e20, e21, e22, e23]) (m := [tn x q z]) (o := .lt) (a := .ix (.var 10) (.neg (.lit (.int 1)))) (b := .lit (.int 25)) (a_ix (a_var rfl) (a_neg a_lit) (ix_last hpos _)) a_lit ((cmp_lt _ _ _).trans (congrArg some (big_last (pcs_ne' h.ab1))))
  have hite : ev C59 (.ite (.cmp .lt (.ix (.var 10) (.neg (.lit (.int 1)))) (.lit (.int 25))) (.var 9) (.lit (.str "many"))) [some (.scr ns), some (.ref 0), e2, some (gotV os ps), e4, e5, some (eR (a * b) (us os ps)), some (.tup ((pcs (us os ps)).map tN)), some (eNs b (pcs (us os ps))), some (eOns (pcs (us os ps)) (us os ps)), some (tN (szs (pcs (us os ps)))), e11, e12, e13, e14, some (eR a os), some (eR b ps), e17, e18, e19, e20, e21, e22, e23] [tn x q z] = .ok (rowsV (us os ps)) [tn x q z] := by
    unfold rowsV
    by_cases hb : big (pcs (us os ps)) = true
    · rw [if_pos hb]
      rw [hb] at hlt
      exact a_iteF hlt rfl a_lit
    · rw [if_neg hb]
      rw [Bool.eq_false_iff.mpr hb] at hlt
      exact a_iteT hlt rfl (a_var rfl)
  exact ⟨env', a', c', x_asg (a_lst (s_cons (a_var rfl) (s_cons (a_var rfl) (s_cons (a_callB (s_cons hc s_nil) (tuple_lst _ _)) (s_cons hite s_nil)))) rfl) rfl r1, r2, r3⟩
theorem heard2v (h : Two os ps) : Gv true Pg (L + 10) i_l_heard [.int 2, eR a os, eR b ps, .non] (rowsV (us os ps)) := by
  unfold rowsV
  by_cases hb : big (pcs (us os ps)) = true
  · rw [if_pos hb]
    exact heard2no h hb
  · rw [if_neg hb]
    exact heard2 h (Bool.eq_false_iff.mpr hb)
theorem t9 (h : Two os ps) (t : Tin B x q z) (hB : B + 1 ≤ 2 ^ 100) : End ns q B 1 (exs C59 (iS 9 lawB) [some (.scr ns), some (.ref 0), e2, e3, e4, e5, some (eR (a * b) (us os ps)), some (.tup ((pcs (us os ps)).map tN)), some (eNs b (pcs (us os ps))), some (eOns (pcs (us os ps)) (us os ps)), some (tN (szs (pcs (us os ps)))), e11, e12, e13, e14, some (eR a os), some (eR b ps), e17, e18, e19, e20, e21, e22, e23] [tn x q z]) := by
  have w := w0 x q z
  obtain ⟨env', a', c', r1, r2, r3⟩ := t10 (os := os) (ps := ps) (ns := ns) (x := x) (q := q) (z := z) (e2 := e2) (e4 := e4) (e5 := e5) (e11 := e11) (e12 := e12) (e13 := e13) (e14 := e14) (e17 := e17) (e18 := e18) (e19 := e19) (e20 := e20) (e21 := e21) (e22 := e22) (e23 := e23) h t hB
  exact ⟨env', a', c', x_asg (a_lst (s_cons (a_callF (s_cons (a_var rfl) (s_cons (a_var rfl) s_nil)) ((g_pulled_pieces (κ := true) (L := 51) h).at w)) (s_cons (a_callF (s_cons (a_var rfl) (s_cons (a_var rfl) s_nil)) ((g_image_sizes (κ := true) (L := 51) h).at w)) (s_cons (a_callF (s_cons (a_var rfl) (s_cons (a_var rfl) s_nil)) ((g_pulled_lots (κ := true) (L := 51) h).at w)) (s_cons (a_callF (s_cons a_lit (s_cons (a_var rfl) (s_cons (a_var rfl) (s_cons a_lit s_nil)))) ((heard2v (L := 49) h).at w)) s_nil)))) rfl) rfl r1, r2, r3⟩
theorem t8 (h : Two os ps) (t : Tin B x q z) (hB : B + 1 ≤ 2 ^ 100) : End ns q B 1 (exs C59 (iS 8 lawB) [some (.scr ns), some (.ref 0), e2, e3, e4, e5, some (eR (a * b) (us os ps)), some (.tup ((pcs (us os ps)).map tN)), some (eNs b (pcs (us os ps))), some (eOns (pcs (us os ps)) (us os ps)), e10, e11, e12, e13, e14, some (eR a os), some (eR b ps), e17, e18, e19, e20, e21, e22, e23] [tn x q z]) := by
  have w := w0 x q z
  obtain ⟨env', a', c', r1, r2, r3⟩ := t9 (os := os) (ps := ps) (ns := ns) (x := x) (q := q) (z := z) (e2 := e2) (e3 := e3) (e4 := e4) (e5 := e5) (e11 := e11) (e12 := e12) (e13 := e13) (e14 := e14) (e17 := e17) (e18 := e18) (e19 := e19) (e20 := e20) (e21 := e21) (e22 := e22) (e23 := e23) h t hB
  have hc := a_comp0 (κ := true) (C := C59) (env := [some (.scr ns), some (.ref 0), e2, e3, e4, e5, some (eR (a * b) (us os ps)), some (.tup ((pcs (us os ps)).map tN)), some (eNs b (pcs (us os ps))), some (eOns (pcs (us os ps)) (us os ps)), e10, e11, e12, e13, e14, some (eR a os), some (eR b ps), e17, e18, e19, e20, e21, e22, e23]) (m := [tn x q z]) (g := tN) (f := fun c => D.int ((List.length c : Nat) : Int)) (own := [19]) (tg := .name 19) (src := .of (.var 7)) (elt := .callB .len (.cons (.var 19) .nil)) (pcs (us os ps)) w (r_tup (a_var rfl)) (fun acc i => at_tup tN (pcs (us os ps)) _ i) (fun c hc => ⟨_, rfl, fun m' acc _ w' => ⟨a_callB (s_cons (a_var rfl) s_nil) (len_tN _ _), Fk.int _⟩⟩) (by have := pcs_ln h; omega)
  rw [nI_map List.length] at hc
  exact ⟨env', a', c', x_asg (a_callB (s_cons (a_callB (s_cons hc s_nil) (srt_nI _ _)) s_nil) (tuple_lst _ _)) rfl r1, r2, r3⟩
theorem t7 (h : Two os ps) (t : Tin B x q z) (hB : B + 1 ≤ 2 ^ 100) : End ns q B 1 (exs C59 (iS 7 lawB) [some (.scr ns), some (.ref 0), e2, e3, e4, e5, some (eR (a * b) (us os ps)), some (.tup ((pcs (us os ps)).map tN)), some (eNs b (pcs (us os ps))), e9, e10, e11, e12, e13, e14, some (eR a os), some (eR b ps), e17, e18, e19, e20, e21, e22, e23] [tn x q z]) := by
  have w := w0 x q z
  have hab := h.ab
  have h60 := h.l60
  obtain ⟨env', a', c', r1, r2, r3⟩ := t8 (os := os) (ps := ps) (ns := ns) (x := x) (q := q) (z := z) (e2 := e2) (e3 := e3) (e4 := e4) (e5 := e5) (e10 := e10) (e11 := e11) (e12 := e12) (e13 := e13) (e14 := e14) (e17 := e17) (e18 := e18) (e19 := e19) (e20 := e20) (e21 := e21) (e22 := e22) (e23 := e23) h t hB
  have hc := a_comp0 (κ := true) (C := C59) (env := [some (.scr ns), some (.ref 0), e2, e3, e4, e5, some (eR (a * b) (us os ps)), some (.tup ((pcs (us os ps)).map tN)), some (eNs b (pcs (us os ps))), e9, e10, e11, e12, e13, e14, some (eR a os), some (eR b ps), e17, e18, e19, e20, e21, e22, e23]) (m := [tn x q z]) (g := tN) (f := fun c => eOn c (us os ps)) (own := [19]) (tg := .name 19) (src := .of (.var 7)) (elt := .callF i_l_on (.cons (.var 6) (.cons (.var 19) .nil))) (pcs (us os ps)) w (r_tup (a_var rfl)) (fun acc i => at_tup tN (pcs (us os ps)) _ i) (fun c hc => ⟨_, rfl, fun m' acc _ w' => ⟨a_callF (s_cons (a_var rfl) (s_cons (a_var rfl) s_nil)) ((g_l_on (κ := true) (L := 58) (on_pcs hc) (by omega) (by rw [h.ul]; omega)).at w'), fk_On c _⟩⟩) (by have := pcs_ln h; omega)
  exact ⟨env', a', c', x_asg (a_callB (s_cons hc s_nil) (tuple_lst _ _)) rfl r1, r2, r3⟩
theorem t6 (h : Two os ps) (t : Tin B x q z) (hB : B + 1 ≤ 2 ^ 100) : End ns q B 1 (exs C59 (iS 6 lawB) [some (.scr ns), some (.ref 0), e2, e3, e4, some (.lst ((List.range (a * b)).map (ePr b))), some (eR (a * b) (us os ps)), some (.tup ((pcs (us os ps)).map tN)), e8, e9, e10, e11, e12, e13, e14, some (eR a os), some (eR b ps), e17, e18, e19, e20, e21, e22, e23] [tn x q z]) := by
  have w := w0 x q z
  obtain ⟨env', a', c', r1, r2, r3⟩ := t7 (os := os) (ps := ps) (ns := ns) (x := x) (q := q) (z := z) (e2 := e2) (e3 := e3) (e4 := e4) (e5 := some (.lst ((List.range (a * b)).map (ePr b)))) (e9 := e9) (e10 := e10) (e11 := e11) (e12 := e12) (e13 := e13) (e14 := e14) (e17 := e17) (e18 := e18) (e19 := e19) (e20 := e20) (e21 := e21) (e22 := e22) (e23 := e23) h t hB
  have hc := a_comp0 (κ := true) (C := C59) (env := [some (.scr ns), some (.ref 0), e2, e3, e4, some (.lst ((List.range (a * b)).map (ePr b))), some (eR (a * b) (us os ps)), some (.tup ((pcs (us os ps)).map tN)), e8, e9, e10, e11, e12, e13, e14, some (eR a os), some (eR b ps), e17, e18, e19, e20, e21, e22, e23]) (m := [tn x q z]) (g := tN) (f := eNc b) (own := [18]) (tg := .name 18) (src := .of (.var 7)) (elt := .callB .tuple (.cons (.comp (.name 19) (.of (.var 18)) .nil (.ix (.var 5) (.var 19)) [19]) .nil)) (pcs (us os ps)) w (r_tup (a_var rfl)) (fun acc i => at_tup tN (pcs (us os ps)) _ i) (fun c hc => ⟨_, rfl, fun m' acc _ w' => by
    have hlt := (on_pcs hc).2.1
    have hcl := pcs_el h hc
    have h2 := a_comp0 (κ := true) (C := C59) (env := [some (.scr ns), some (.ref 0), e2, e3, e4, some (.lst ((List.range (a * b)).map (ePr b))), some (eR (a * b) (us os ps)), some (.tup ((pcs (us os ps)).map tN)), e8, e9, e10, e11, e12, e13, e14, some (eR a os), some (eR b ps), e17, some (tN c), e19, e20, e21, e22, e23]) (m := m') (g := fun (x : Nat) => D.int (x : Nat)) (f := ePr b) (own := [19]) (tg := .name 19) (src := .of (.var 18)) (elt := .ix (.var 5) (.var 19)) c w' (r_tup (a_var rfl)) (fun acc i => at_tup _ _ _ _) (fun y hy => ⟨_, rfl, fun m2 acc _ w2 => ⟨a_ix (a_var rfl) (a_var rfl) (ix_lstM (f := ePr b) (xs := List.range (a * b)) (j := y) (a := y) rfl (by simp [hlt y hy])), fk_Pr b y⟩⟩) (by omega)
    exact ⟨a_callB (s_cons h2 s_nil) (tuple_lst _ _), fk_Nc b c⟩⟩) (by have := pcs_ln h; omega)
  exact ⟨env', a', c', x_asg (a_callB (s_cons hc s_nil) (tuple_lst _ _)) rfl r1, r2, r3⟩
theorem t5 (h : Two os ps) (t : Tin B x q z) (hB : B + 1 ≤ 2 ^ 100) : End ns q B 1 (exs C59 (iS 5 lawB) [some (.scr ns), some (.ref 0), e2, e3, e4, some (.lst ((List.range (a * b)).map (ePr b))), some (eR (a * b) (us os ps)), e7, e8, e9, e10, e11, e12, e13, e14, some (eR a os), some (eR b ps), e17, e18, e19, e20, e21, e22, e23] [tn x q z]) := by
  have w := w0 x q z
  have hab := h.ab
  have h60 := h.l60
  obtain ⟨env', a', c', r1, r2, r3⟩ := t6 (os := os) (ps := ps) (ns := ns) (x := x) (q := q) (z := z) (e2 := e2) (e3 := e3) (e4 := e4) (e8 := e8) (e9 := e9) (e10 := e10) (e11 := e11) (e12 := e12) (e13 := e13) (e14 := e14) (e17 := e17) (e18 := e18) (e19 := e19) (e20 := e20) (e21 := e21) (e22 := e22) (e23 := e23) h t hB
  exact ⟨env', a', c', x_asg (a_callF (s_cons (a_var rfl) s_nil) ((g_l_pieces (κ := true) (L := 58) (os := us os ps) (by omega) (by rw [h.ul]; omega)).at w)) rfl r1, r2, r3⟩
end
end Hd

namespace Hd
open MP PySem L2 PySem.Spec PyProof.Rows
theorem idx_nd {α : Type} [DecidableEq α] {xs : List α} (hn : xs.Nodup) {i : Nat} (hi : i < xs.length) : xs.idxOf xs[i] = i := hn.idxOf_getElem i hi
theorem index_pair {a b i j : Nat} (hi : i < a) (hj : j < b) (m : Mem) : methV .index m (.lst ((List.range (a * b)).map (ePr b))) [.tup [.int (i : Nat), .int (j : Nat)]] = some (.int ((i * b + j : Nat) : Int), m) := by
  have hlt := pair_lt hi hj
  have hl : i * b + j < ((List.range (a * b)).map fun k => (k / b, k % b)).length := by simpa using hlt
  have hnd : ((List.range (a * b)).map fun k => (k / b, k % b)).Nodup := by
    rw [List.Nodup, List.pairwise_map]
    refine List.Pairwise.imp_of_mem (fun {x y} hx hy hxy e => ?_) List.nodup_range
    obtain ⟨e1, e2⟩ := Prod.mk.inj e
    have h1 := Nat.div_add_mod x b
    have h2 := Nat.div_add_mod y b
    rw [e1, e2, h2] at h1
    exact hxy h1.symm
  have h1 := idx_nd hnd hl
  have e : ((List.range (a * b)).map fun k => (k / b, k % b))[i * b + j] = (i, j) := by simp [pair_div hj, pair_mod hj]
  rw [e] at h1
  have h2 := index_lstE (α := Nat × Nat) (by decide) (pair_mem hi hj) m (fun k e => nomatch e)
  rw [h1, List.map_map] at h2
  exact h2
section
variable {a b : Nat} {os : List (Or a)} {ps : List (Or b)} {ns : List Int} {x q z : Int} {B k : Nat} {e2 e3 e4 e5 e6 e7 e8 e9 e10 e11 e12 e13 e14 e15 e16 e17 e18 e19 e20 e21 e22 e23 : Option D}
theorem t4 (h : Two os ps) (t : Tin B x q z) (hB : B + 1 ≤ 2 ^ 100) : End ns q B 1 (exs C59 (iS 4 lawB) [some (.scr ns), some (.ref 0), e2, e3, e4, some (.lst ((List.range (a * b)).map (ePr b))), e6, e7, e8, e9, e10, e11, e12, e13, e14, some (eR a os), some (eR b ps), e17, e18, e19, e20, e21, e22, e23] [tn x q z]) := by
  have w := w0 x q z
  have hab := h.ab
  have h60 := h.l60
  have hln := h.ln
  obtain ⟨env', a', c', r1, r2, r3⟩ := t5 (os := os) (ps := ps) (ns := ns) (x := x) (q := q) (z := z) (e2 := e2) (e3 := e3) (e4 := e4) (e7 := e7) (e8 := e8) (e9 := e9) (e10 := e10) (e11 := e11) (e12 := e12) (e13 := e13) (e14 := e14) (e17 := e17) (e18 := e18) (e19 := e19) (e20 := e20) (e21 := e21) (e22 := e22) (e23 := e23) h t hB
  have hz := r_zipT (C := C59) (env := [some (.scr ns), some (.ref 0), e2, e3, e4, some (.lst ((List.range (a * b)).map (ePr b))), e6, e7, e8, e9, e10, e11, e12, e13, e14, some (eR a os), some (eR b ps), e17, e18, e19, e20, e21, e22, e23]) (m := [tn x q z]) (m1 := [tn x q z]) (m2 := [tn x q z]) (a := .ix (.var 15) (.lit (.int 1))) (b := .ix (.var 16) (.lit (.int 1))) (ds := os.map eO) (es := ps.map eO) (a_ix (a_var rfl) a_lit ix21) (a_ix (a_var rfl) a_lit ix21)
  have hc := a_comp0 (κ := true) (C := C59) (env := [some (.scr ns), some (.ref 0), e2, e3, e4, some (.lst ((List.range (a * b)).map (ePr b))), e6, e7, e8, e9, e10, e11, e12, e13, e14, some (eR a os), some (eR b ps), e17, e18, e19, e20, e21, e22, e23]) (m := [tn x q z]) (g := fun (y : Or a × Or b) => D.wtup [eO y.1, eO y.2]) (f := fun (y : Or a × Or b) => eO (pul y.1 y.2)) (own := [20, 21]) (tg := .pair (.cons (.name 20) (.cons (.name 21) .nil))) (src := .zip (.ix (.var 15) (.lit (.int 1))) (.ix (.var 16) (.lit (.int 1)))) (elt := .callB .tuple (.cons (.comp (.pair (.cons (.name 22) (.cons (.name 23) .nil))) (.of (.var 5)) .nil (.meth .index (.var 5) (.cons (.tup (.cons (.ix (.var 20) (.var 22)) (.cons (.ix (.var 21) (.var 23)) .nil))) .nil)) [22, 23]) .nil)) (os.zip ps) w hz (fun acc i => at_zipT _ _ _ _ _ _) (fun y _ => ⟨_, rfl, fun m' acc _ w' => by
    have h2 := a_comp0 (κ := true) (C := C59) (env := [some (.scr ns), some (.ref 0), e2, e3, e4, some (.lst ((List.range (a * b)).map (ePr b))), e6, e7, e8, e9, e10, e11, e12, e13, e14, some (eR a os), some (eR b ps), e17, e18, e19, some (eO y.1), some (eO y.2), e22, e23]) (m := m') (g := ePr b) (f := fun (k : Nat) => D.int ((y.1.1.getD (k / b) 0 * b + y.2.1.getD (k % b) 0 : Nat) : Int)) (own := [22, 23]) (tg := .pair (.cons (.name 22) (.cons (.name 23) .nil))) (src := .of (.var 5)) (elt := .meth .index (.var 5) (.cons (.tup (.cons (.ix (.var 20) (.var 22)) (.cons (.ix (.var 21) (.var 23)) .nil))) .nil)) (List.range (a * b)) w' (r_lst (a_var rfl)) (fun acc i => at_lst (ePr b) (List.range (a * b)) _ i) (fun k hk => ⟨_, rfl, fun m2 acc _ w2 => by
      have hk := List.mem_range.mp hk
      have h1 := div_lt hk
      have h2 := mod_lt' hk
      exact ⟨a_meth (T := "list") (a_var rfl) rfl rfl (s_cons (a_tup (s_cons (a_ix (a_var rfl) (a_var rfl) (ix_tN2 (by rw [y.1.2.1]; exact h1) _)) (s_cons (a_ix (a_var rfl) (a_var rfl) (ix_tN2 (by rw [y.2.2.1]; exact h2) _)) s_nil)) rfl) s_nil) rfl (index_pair (y.1.2.lt h1) (y.2.2.lt h2) _), Fk.int _⟩⟩) (by rw [List.length_range]; omega)
    have e : ((List.range (a * b)).map fun (k : Nat) => D.int ((y.1.1.getD (k / b) 0 * b + y.2.1.getD (k % b) 0 : Nat) : Int)) = nI (pul y.1 y.2).1 := by
      show _ = nI (pulL a b y.1.1 y.2.1)
      rw [pulL_eq]
      exact nI_map (fun k => y.1.1.getD (k / b) 0 * b + y.2.1.getD (k % b) 0) _
    rw [e] at h2
    exact ⟨a_callB (s_cons h2 s_nil) (tuple_lst _ _), fk_o _⟩⟩) (by rw [List.length_zip]; omega)
  have e : ((os.zip ps).map fun (y : Or a × Or b) => eO (pul y.1 y.2)) = (us os ps).map eO := by
    show _ = ((os.zip ps).map fun x => pul x.1 x.2).map eO
    rw [List.map_map]
    rfl
  rw [e] at hc
  have hlen : callV .len [tn x q z] [.lst ((List.range (a * b)).map (ePr b))] = some (.int ((a * b : Nat) : Int), [tn x q z]) := by
    rw [len_lstM (f := ePr b), List.length_range]
  exact ⟨env', a', c', x_asg (a_tup (s_cons (a_callB (s_cons (a_var rfl) s_nil) hlen) (s_cons (a_callB (s_cons hc s_nil) (tuple_lst _ _)) s_nil)) rfl) rfl r1, r2, r3⟩
theorem t3 (h : Two os ps) (t : Tin B x q z) (hB : B + 1 ≤ 2 ^ 100) : End ns q B 1 (exs C59 (iS 3 lawB) [some (.scr ns), some (.ref 0), e2, e3, e4, e5, e6, e7, e8, e9, e10, e11, e12, e13, e14, some (eR a os), some (eR b ps), e17, e18, e19, e20, e21, e22, e23] [tn x q z]) := by
  have w := w0 x q z
  have ha := h.a24
  have hb := h.b24
  obtain ⟨env', a', c', r1, r2, r3⟩ := t4 (os := os) (ps := ps) (ns := ns) (x := x) (q := q) (z := z) (e2 := e2) (e3 := e3) (e4 := e4) (e6 := e6) (e7 := e7) (e8 := e8) (e9 := e9) (e10 := e10) (e11 := e11) (e12 := e12) (e13 := e13) (e14 := e14) (e17 := e17) (e18 := e18) (e19 := e19) (e20 := e20) (e21 := e21) (e22 := e22) (e23 := e23) h t hB
  have h1 := a_rngL (C := C59) (env := [some (.scr ns), some (.ref 0), e2, e3, e4, e5, e6, e7, e8, e9, e10, e11, e12, e13, e14, some (eR a os), some (eR b ps), e17, e18, e19, e20, e21, e22, e23]) (m := [tn x q z]) (m1 := [tn x q z]) (m2 := [tn x q z]) (a := .lit (.int 0)) (b := .ix (.var 15) (.lit (.int 0))) (i := 0) (j := (a : Nat)) a_lit (a_ix (a_var rfl) a_lit ix20) (by omega) (by omega) (by omega) (by omega)
  have h2 := a_rngL (C := C59) (env := [some (.scr ns), some (.ref 0), e2, e3, e4, e5, e6, e7, e8, e9, e10, e11, e12, e13, e14, some (eR a os), some (eR b ps), e17, e18, e19, e20, e21, e22, e23]) (m := [tn x q z]) (m1 := [tn x q z]) (m2 := [tn x q z]) (a := .lit (.int 0)) (b := .ix (.var 16) (.lit (.int 0))) (i := 0) (j := (b : Nat)) a_lit (a_ix (a_var rfl) a_lit ix20) (by omega) (by omega) (by omega) (by omega)
  rw [rngList_nI] at h1 h2
  have htw := (g_l_twos (κ := true) (L := 58) (f := fun (n : Nat) => D.int (n : Nat)) (g := fun (n : Nat) => D.int (n : Nat)) (fun n => Fk.int _) (fun n => Fk.int _) (xs := List.range a) (ys := List.range b) (by rw [List.length_range]; omega) (by rw [List.length_range]; omega)).at w
  rw [flat_eq (fun i j => (i, j)) a b, List.map_map] at htw
  exact ⟨env', a', c', x_asg (a_callF (s_cons h1 (s_cons h2 s_nil)) htw) rfl r1, r2, r3⟩
/-- the second one may be the first under other names -/
theorem t2 (h : Two os ps) (ha5 : a ≤ 5) (t : Tin B x q z) (hB : B + 10 ≤ 2 ^ 100) : End ns q B 10 (exs C59 (iS 2 lawB) [some (.scr ns), some (.ref 0), e2, e3, e4, e5, e6, e7, e8, e9, e10, e11, e12, e13, e14, some (eR a os), some (eR b ps), e17, e18, e19, e20, e21, e22, e23] [tn x q z]) := by
  have h60 := h.l60
  obtain ⟨d, a1, c1, q1, ⟨v, rfl, hv⟩, u1⟩ := at0 (ed_take (env := [some (.scr ns), some (.ref 0), e2, e3, e4, e5, e6, e7, e8, e9, e10, e11, e12, e13, e14, some (eR a os), some (eR b ps), e17, e18, e19, e20, e21, e22, e23]) (e := .lit (.int 3)) (k := 3) rfl (fun m => a_lit) (by omega) (by omega)) t (by omega)
  by_cases hv0 : v = 0
  · subst hv0
    obtain ⟨d, a2, c2, q2, ⟨o, rfl⟩, u2⟩ := at0 (Ed.callF (κ := true) (P := Pg) (L := 59) (x := i_l_order) (es := .cons (.var 1) (.cons (.ix (.var 15) (.lit (.int 0))) .nil)) (env := [some (.scr ns), some (.ref 0), e2, e3, e4, e5, e6, e7, e8, e9, e10, e11, e12, e13, e14, some (eR a os), some (eR b ps), e17, e18, e19, e20, e21, e22, e23]) (fun m => s_cons (a_var rfl) (s_cons (a_ix (a_var rfl) a_lit ix20) s_nil)) (g_l_order (L := 56) (n := a) (by omega))) u1 (by omega)
    have w2 := w0 a2 q c2
    have hn := (g_l_named (L := 58) (os := os) (p := o) (by omega) (by omega)).at w2
    obtain ⟨env', a', c', r1, r2, r3⟩ := t3 (os := os) (ps := os.map fun y => Or.tur y o) (ns := ns) (x := a2) (q := q) (z := c2) (e2 := e2) (e3 := e3) (e4 := e4) (e5 := e5) (e6 := e6) (e7 := e7) (e8 := e8) (e9 := e9) (e10 := e10) (e11 := e11) (e12 := e12) (e13 := e13) (e14 := e14) (e17 := e17) (e18 := e18) (e19 := e19) (e20 := e20) (e21 := e21) (e22 := e22) (e23 := e23) ⟨h.a1, h.a24, h.a1, h.a24, by rw [List.length_map], h.l60⟩ u2 (by omega)
    exact ⟨env', a', c', x_ifT (a_cmp (c := true) q1 a_lit rfl) rfl (x_asg (a_callF (s_cons (a_var rfl) (s_cons q2 s_nil)) hn) rfl r1), r2, r3.mono (by omega)⟩
  · obtain ⟨env', a', c', r1, r2, r3⟩ := t3 (os := os) (ps := ps) (ns := ns) (x := a1) (q := q) (z := c1) (e2 := e2) (e3 := e3) (e4 := e4) (e5 := e5) (e6 := e6) (e7 := e7) (e8 := e8) (e9 := e9) (e10 := e10) (e11 := e11) (e12 := e12) (e13 := e13) (e14 := e14) (e17 := e17) (e18 := e18) (e19 := e19) (e20 := e20) (e21 := e21) (e22 := e22) (e23 := e23) h u1 (by omega)
    exact ⟨env', a', c', x_ifF (a_cmp (c := false) q1 a_lit (by rw [MP.eq_int]; refine congrArg some ?_; rw [beq_eq_false_iff_ne]; omega)) rfl r1, r2, r3.mono (by omega)⟩
theorem lap (t : Tin B x q z) (hB : B + 60 ≤ 2 ^ 100) : End ns q B 60 (exs C59 lawB [some (.scr ns), some (.ref 0), e2, e3, e4, e5, e6, e7, e8, e9, e10, e11, e12, e13, e14, e15, e16, e17, e18, e19, e20, e21, e22, e23] [tn x q z]) := by
  obtain ⟨d, a1, c1, q1, ⟨l, rfl, hl⟩, u1⟩ := at0 (ed_take (env := [some (.scr ns), some (.ref 0), e2, e3, e4, e5, e6, e7, e8, e9, e10, e11, e12, e13, e14, e15, e16, e17, e18, e19, e20, e21, e22, e23]) (e := .lit (.int 4)) (k := 4) rfl (fun m => a_lit) (by omega) (by omega)) t (by omega)
  have hl3 : l ≤ 3 := by omega
  obtain ⟨d, a2, c2, q2, ⟨v, rfl, hv⟩, u2⟩ := at0 (ed_take (env := [some (.scr ns), some (.ref 0), e2, e3, some (.int (l : Nat)), e5, e6, e7, e8, e9, e10, e11, e12, e13, e14, e15, e16, e17, e18, e19, e20, e21, e22, e23]) (e := .lit (.int 5)) (k := 5) rfl (fun m => a_lit) (by omega) (by omega)) u1 (by omega)
  obtain ⟨n, hn⟩ : ∃ n, 1 + v = n := ⟨_, rfl⟩
  have hn5 : l * n ≤ 3 * 5 := Nat.mul_le_mul hl3 (by omega)
  obtain ⟨d, a3, c3, q3, ⟨os, rfl, hos⟩, u3⟩ := g_l_any_row (L := 55) (n := n) (k := l) (by omega) (by omega) _ a2 q c2 [] u2 (by omega) (w0 a2 q c2)
  obtain ⟨d, a4, c4, q4, ⟨v2, rfl, hv2⟩, u4⟩ := at0 (ed_take (env := [some (.scr ns), some (.ref 0), e2, e3, some (.int (l : Nat)), e5, e6, e7, e8, e9, e10, e11, e12, e13, e14, e15, e16, e17, e18, e19, e20, e21, e22, e23]) (e := .lit (.int 5)) (k := 5) rfl (fun m => a_lit) (by omega) (by omega)) u3 (by omega)
  obtain ⟨n2, hn2⟩ : ∃ n, 1 + v2 = n := ⟨_, rfl⟩
  have hn25 : l * n2 ≤ 3 * 5 := Nat.mul_le_mul hl3 (by omega)
  obtain ⟨d, a5, c5, q5, ⟨ps, rfl, hps⟩, u5⟩ := g_l_any_row (L := 55) (n := n2) (k := l) (by omega) (by omega) _ a4 q c4 [] u4 (by omega) (w0 a4 q c4)
  have s1 : ev C59 (.callF i_l_any_row (.cons (.var 1) (.cons (.bin .add (.lit (.int 1)) (.callF i_l_take (.cons (.var 1) (.cons (.lit (.int 5)) .nil)))) (.cons (.var 4) .nil)))) [some (.scr ns), some (.ref 0), e2, e3, some (.int (l : Nat)), e5, e6, e7, e8, e9, e10, e11, e12, e13, e14, e15, e16, e17, e18, e19, e20, e21, e22, e23] [tn a1 q c1] = .ok (eR n os) [tn a3 q c3] := a_callF (s_cons (a_var rfl) (s_cons (a_bin a_lit q2 (by rw [bin_add, show (1 : Int) + (v : Int) = (n : Int) by omega])) (s_cons (a_var rfl) s_nil))) q3
  have s2 : ev C59 (.callF i_l_any_row (.cons (.var 1) (.cons (.bin .add (.lit (.int 1)) (.callF i_l_take (.cons (.var 1) (.cons (.lit (.int 5)) .nil)))) (.cons (.var 4) .nil)))) [some (.scr ns), some (.ref 0), e2, e3, some (.int (l : Nat)), e5, e6, e7, e8, e9, e10, e11, e12, e13, e14, e15, e16, e17, e18, e19, e20, e21, e22, e23] [tn a3 q c3] = .ok (eR n2 ps) [tn a5 q c5] := a_callF (s_cons (a_var rfl) (s_cons (a_bin a_lit q4 (by rw [bin_add, show (1 : Int) + (v2 : Int) = (n2 : Int) by omega])) (s_cons (a_var rfl) s_nil))) q5
  obtain ⟨env', a', c', r1, r2, r3⟩ := t2 (os := os) (ps := ps) (ns := ns) (x := a5) (q := q) (z := c5) (e2 := e2) (e3 := e3) (e4 := some (.int (l : Nat))) (e5 := e5) (e6 := e6) (e7 := e7) (e8 := e8) (e9 := e9) (e10 := e10) (e11 := e11) (e12 := e12) (e13 := e13) (e14 := e14) (e17 := e17) (e18 := e18) (e19 := e19) (e20 := e20) (e21 := e21) (e22 := e22) (e23 := e23) ⟨by omega, by omega, by omega, by omega, by omega, by omega⟩ (by omega) u5 (by omega)
  exact ⟨env', a', c', x_asg q1 rfl (x_par s1 s2 rfl rfl r1), r2, r3.mono (by omega)⟩
end
end Hd

namespace Hd
open MP PySem L2 PySem.Spec PyProof.Rows
def lawTail : Sts := match q_law.body with
  | .cons _ (.cons _ r) => r
  | _ => .nil
theorem tail_ok (ns : List Int) (a b c : Int) (e2 e3 e4 e5 e6 e7 e8 e9 e10 e11 e12 e13 e14 e15 e16 e17 e18 e19 e20 e21 e22 e23 : Option D) : exs C59 lawTail [some (.scr ns), some (.ref 0), e2, e3, e4, e5, e6, e7, e8, e9, e10, e11, e12, e13, e14, e15, e16, e17, e18, e19, e20, e21, e22, e23] [tn a b c] = .ok (.rt false (.bl true)) [some (.scr ns), some (.ref 0), e2, some (.lst [.str "none", .str "none", .tup [.tup [.tup [.int 0, .int 0]], .tup [.tup [.int 1, .int 0]]], .str "many"]), e4, e5, e6, e7, e8, e9, e10, e11, e12, e13, e14, e15, e16, e17, e18, e19, e20, e21, e22, e23] [tn a b c] := by kernel_rfl
theorem law_true (ns : List Int) (hn : ns.length ≤ 63) (hz : ∀ z ∈ ns, Builtin.Int.intBits z ≤ 1048576) : ∃ m, MP.run pg.P 60 i_law [.scr ns] [] = .ok (.bl true) m := by
  obtain ⟨a, b, t, e0⟩ := start_ok (P := pg.P) (xb := i_l_box) (xc := i_l_cells) (L := 58) (w := 22171022) (ns := ns) (r := [none, none, none, none, none, none, none, none, none, none, none, none, none, none, none, none, none, none, none, none, none, none]) p_l_cells p_l_box (by omega) (by omega) hn hz
  obtain ⟨env2, m2, hf, a', c', ⟨e2, e3, e4, e5, e6, e7, e8, e9, e10, e11, e12, e13, e14, e15, e16, e17, e18, e19, e20, e21, e22, e23, rfl⟩, rfl, t'⟩ := for_inv (src := .rng 0 5) (tg := .name 2) (body := fun env' m' => exs C59 lawB env' m') 5
    (fun i env m => ∃ a' c', OkE ns env ∧ m = [tn a' b c'] ∧ Tin (1 + i * 60) a' b c')
    (fun i env m hi hI => by
      obtain ⟨a1, c1, ⟨e2, e3, e4, e5, e6, e7, e8, e9, e10, e11, e12, e13, e14, e15, e16, e17, e18, e19, e20, e21, e22, e23, rfl⟩, rfl, t1⟩ := hI
      obtain ⟨env', a2, c2, r1, r2, t2⟩ := lap (ns := ns) (e2 := some (.int (0 + (i : Int)))) (e3 := e3) (e4 := e4) (e5 := e5) (e6 := e6) (e7 := e7) (e8 := e8) (e9 := e9) (e10 := e10) (e11 := e11) (e12 := e12) (e13 := e13) (e14 := e14) (e15 := e15) (e16 := e16) (e17 := e17) (e18 := e18) (e19 := e19) (e20 := e20) (e21 := e21) (e22 := e22) (e23 := e23) t1 (by omega)
      refine ⟨.int (0 + (i : Int)), _, env', _, by simp [SrcV.at, hi], rfl, r1, a2, c2, r2, rfl, ?_⟩
      rw [Nat.succ_mul, ← Nat.add_assoc]
      exact t2)
    (fun env m hI => by simp [SrcV.at]) turnsMax 0 [some (.scr ns), some (.ref 0), none, none, none, none, none, none, none, none, none, none, none, none, none, none, none, none, none, none, none, none, none, none] [tn a b 0] (Nat.zero_le _) (by unfold turnsMax; omega)
    ⟨a, 0, ⟨_, _, _, _, _, _, _, _, _, _, _, _, _, _, _, _, _, _, _, _, _, _, rfl⟩, rfl, t⟩
  obtain ⟨env3, ht⟩ : ∃ e, exs C59 lawTail [some (.scr ns), some (.ref 0), e2, e3, e4, e5, e6, e7, e8, e9, e10, e11, e12, e13, e14, e15, e16, e17, e18, e19, e20, e21, e22, e23] [tn a' b c'] = .ok (.rt false (.bl true)) e [tn a' b c'] := ⟨_, tail_ok ns a' b c' e2 e3 e4 e5 e6 e7 e8 e9 e10 e11 e12 e13 e14 e15 e16 e17 e18 e19 e20 e21 e22 e23⟩
  refine ⟨[], c_ok (P := pg.P) (L := 59) (x := i_law) (m1 := [tn a' b c']) (fr := false) (d := .bl true) (env' := env3) p_law rfl ?_ rfl rfl⟩
  show exs C59 (.cons _ (.cons (.forS (.name 2) (.rng1 (.lit (.int 5))) lawB) lawTail)) _ [] = _
  rw [exs_cons]
  refine (congrArg (fun r => SRes.thn r _) e0).trans ?_
  rw [thn_nx]
  exact x_for (range_src (k := 5) (fun m => a_lit) (by omega) _) hf ht
end Hd

open PySem PySem.W PySem.Calls PyProof.Rows
theorem PySem.Challenge.cw_roworbits_k22_whole_rows_pulled_together_holds : PySem.Challenge.rw_roworbits_k22_whole_rows_pulled_together.Holds := by
  w_on; o_law
  refine HandSHeadRun.head_any (r := OpenLaw.row PySem.Challenge.rw_roworbits_k22_whole_rows_pulled_together) (q := view (OpenLaw.row PySem.Challenge.rw_roworbits_k22_whole_rows_pulled_together).prog [49]) (H := Hd.hk) (ob := Hd.ob) (M := 4000) (loose := Hd.loose) (d := HandSHeadRun.topDef (OpenLaw.row PySem.Challenge.rw_roworbits_k22_whole_rows_pulled_together).prog 49) (kwd := []) Hd.ob_eq
    (by kernel_rfl) (fun s => by kernel_rfl) Hd.run (by kernel_rfl) (by kernel_rfl) (by kernel_rfl) (by rfl) (by first | assumption | decide +kernel) (by decide +kernel) ⟨rfl, rfl, rfl, rfl, rfl, by decide +kernel⟩ ?hw ?hc
  case hw => w_witness2
  case hc =>
    exact MP.law_walk (p := Hd.pg) (L := 60) (nl := 37) (dl := Hd.d37) rfl (by kernel_rfl) ⟨rfl, by decide, by decide⟩ (fun _ _ y => y) rfl rfl (by kernel_rfl) Hd.prK (fun d h => (Hd.prB d h).1) (fun d h => (Hd.prB d h).2) (by decide) Hd.law_true

