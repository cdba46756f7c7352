import PyProof.Rows.All
import Wide.All
import OpenK.AllK
import Wide.FinOn
import HandS.ForMost
import HandS.ForExc
import HandS.TupAny
import HandS.RaiseMore
import HandS.More
import HandS.Flt
import HandS.DictComp
import HandS.IsInst
import KE.IntTextLaws
import HandS.Codes
import HandS.StrMore
import HandS.Property
import HandS.Zip
import HandS.HeadWalk
import KE.KStar
import HandS.Star
import HandS.Style
import HandS.FStr
import HandS.HeadHook2
import HandS.Head0
import HandS.Head1
import HandS.Head2
import HandS.HeadEnd
import Wide.Tac
import PySem.Challenge.RW_everylevel_k37_denials_of_demands
set_option linter.all false
set_option Elab.async false
/-! EvCore: an own syntax without positions, its values, heap and evaluator -/
namespace Ev
abbrev Tx := List Nat
/-- values: tuples are pure; lists, dicts, instances stand in the heap -/
inductive Val where
  | non | bl (b : Bool) | int (i : Int) | str (s : Tx) | tup (vs : List Val) | ref (a : Nat) | cls (c : Nat)
  deriving Inhabited
/-- objects; fr: may be read, not written -/
inductive Obj where
  | list (fr : Bool) (vs : List Val)
  | dict (fr : Bool) (kvs : List (Val × Val))
  | inst (c : Nat) (fs : List (Nat × Val))
  deriving Inhabited
abbrev Hp := List Obj
abbrev St := List (Option Val)
/-- an exception: its class, its fields -/
structure Exn where
  c : Nat
  fs : List (Nat × Val)
inductive R (α : Type) where
  | ok (a : α) (h : Hp)
  | exc (x : Exn) (h : Hp)
  | stuck
def R.bind {α β : Type} : R α → (α → Hp → R β) → R β
  | .ok a h, f => f a h
  | .exc x h, _ => .exc x h
  | .stuck, _ => .stuck
/-- where no exception may leave -/
def R.calm {α : Type} : R α → R α
  | .ok a h => .ok a h
  | _ => .stuck
def R.some {α : Type} (h : Hp) : Option α → R α
  | .some a => .ok a h
  | .none => .stuck
def guard {α : Type} (b : Bool) (r : R α) : R α := if b = true then r else .stuck
abbrev LIM : Nat := 16777216

inductive Bop where | add | sub | mul | fdiv | mod | pow
  deriving DecidableEq
inductive Cop where | lt | le | gt | ge | eq | ne | is | isnot | in_ | notin
  deriving DecidableEq
/-- built-in classes that isinstance asks -/
inductive Ty where | int | bool | str | list | tuple | dict | own (c : Nat)
/-- built-in functions -/
inductive Bi where
  | len | abs | int | str | max | min | sum | any | all | sorted | list | tuple | dict | repr | lenSet | sortedSet | sortedLists
  deriving DecidableEq
/-- built-in methods -/
inductive Bm where
  | append | extend | pop | get | join | split | partition | strip | update | index | remove | find | rfind | endswith | replace
  deriving DecidableEq
/-- targets -/
inductive Pat where
  | v (i : Nat) | t (ps : List Pat)
mutual
inductive E where
  | var (i : Nat) | con (v : Val) | glob (g : Nat)
  | bin (op : Bop) (a b : E) | neg (a : E) | not (a : E) | and (a b : E) | or (a b : E)
  | cmp (op : Cop) (a b : E) | chain (o1 o2 : Cop) (a b c : E) | ife (c a b : E)
  | tup (es : Es) | lst (es : Es) | dic (ds : Ds)
  | lc (own : List Nat) (p : Pat) (it : It) (ifs : Es) (elt : E)
  | lc2 (own : List Nat) (p : Pat) (it : It) (ifs : Es) (own1 : List Nat) (p1 : Pat) (it1 : It) (ifs1 : Es) (elt : E)
  | dc (own : List Nat) (p : Pat) (it : It) (ifs : Es) (k v : E)
  | sub (o i : E) | slc (o : E) (lo hi : Oe)
  | attr (o : E) (f : Nat)
  | call (f : Nat) (as : Es) | new (c : Nat) (as : Es) | meth (o : E) (m : Nat) (as : Es)
  | bi (b : Bi) (as : Es) | isi (e : E) (ts : List Ty) | bm (m : Bm) (o : E) (as : Es) | fstr (es : Es)
  | listIt (it : It) | dictIt (it : It)
inductive Es where
  | nil | cons (star : Bool) (e : E) (es : Es)
inductive Ds where
  | nil | kv (k v : E) (ds : Ds) | star (e : E) (ds : Ds)
inductive Oe where
  | none | some (e : E)
inductive It where
  | ex (e : E) | range1 (e : E) | range2 (a b : E) | enum (e : E) | zip (a b : E) | items (e : E)
end
inductive Tg where
  | pat (p : Pat) | sub (o i : E) | attr (o : E) (f : Nat)
mutual
inductive S where
  | expr (e : E) | asg (t : Tg) (e : E) | aug (i : Nat) (op : Bop) (e : E) | augAttr (o : E) (f : Nat) (op : Bop) (e : E)
  | ret (e : E) | retN | pass | brk | cnt
  | ite (c : E) (a b : Ss) | whl (c : E) (b : Ss) | for_ (p : Pat) (it : It) (b : Ss)
  | raise (c : Nat) (as : Es)
inductive Ss where
  | nil | cons (s : S) (ss : Ss)
end

/-! ### values -/
mutual
def Val.beq : Val → Val → Bool
  | .non, .non => true
  | .bl a, .bl b => a == b
  | .int i, .int j => i == j
  | .str s, .str t => s == t
  | .tup vs, .tup ws => Val.beqs vs ws
  | .ref a, .ref b => a == b
  | .cls a, .cls b => a == b
  | _, _ => false
def Val.beqs : List Val → List Val → Bool
  | [], [] => true
  | v :: vs, w :: ws => Val.beq v w && Val.beqs vs ws
  | _, _ => false
end

/-- Python's == of data; n bounds the depth -/
def b2i : Bool → Int | true => 1 | false => 0
/-- data -/
inductive D where
  | non | bl (b : Bool) | int (i : Int) | str (s : Tx) | list (ds : List D) | tup (ds : List D)
def datL (f : Val → Option D) : List Val → Option (List D)
  | [] => some []
  | v :: vs => match f v, datL f vs with
    | some d, some ds => some (d :: ds)
    | _, _ => none
/-- the datum of a value, nested at most n deep -/
def dat : Nat → Hp → Val → Option D
  | 0, _, _ => none
  | n + 1, h, v => match v with
    | .non => some .non
    | .bl b => some (.bl b)
    | .int i => some (.int i)
    | .str s => some (.str s)
    | .tup vs => (datL (dat n h) vs).map .tup
    | .ref a => match h[a]? with
      | some (.list _ vs) => (datL (dat n h) vs).map .list
      | _ => none
    | .cls _ => none
mutual
def D.eqv : D → D → Bool
  | .non, .non => true
  | .bl a, .bl b => a == b
  | .bl a, .int j => b2i a == j
  | .int i, .bl b => i == b2i b
  | .int i, .int j => i == j
  | .str s, .str t => s == t
  | .list xs, .list ys => D.eqvs xs ys
  | .tup xs, .tup ys => D.eqvs xs ys
  | _, _ => false
def D.eqvs : List D → List D → Bool
  | [], [] => true
  | x :: xs, y :: ys => D.eqv x y && D.eqvs xs ys
  | _, _ => false
end
def eqv (h : Hp) (x y : Val) : Option Bool := match dat 64 h x, dat 64 h y with
  | some d, some e => some (D.eqv d e)
  | _, _ => none

/-! ### keys of dicts: ints, texts -/
def isKey : Val → Bool
  | .int _ => true
  | .str _ => true
  | _ => false
def keyEq : Val → Val → Bool
  | .int i, .int j => i == j
  | .str s, .str t => s == t
  | _, _ => false
def look : List (Val × Val) → Val → Option Val
  | [], _ => none
  | (k, v) :: r, x => if keyEq k x then some v else look r x
def put (kvs : List (Val × Val)) (x y : Val) : List (Val × Val) :=
  if (kvs.any fun p => keyEq p.1 x) = true then kvs.map (fun p => if keyEq p.1 x = true then (p.1, y) else p) else kvs ++ [(x, y)]
def drop (kvs : List (Val × Val)) (x : Val) : List (Val × Val) := kvs.filter fun p => !keyEq p.1 x
def putAll : List (Val × Val) → List (Val × Val) → List (Val × Val)
  | d, [] => d
  | d, (k, v) :: r => putAll (put d k v) r

/-! ### indexes and slices -/
/-- Python's index: counted from the end if below 0 -/
def ixOf (n : Nat) (i : Int) : Option Nat :=
  if 0 ≤ i then (if i < n then some i.toNat else none) else (if 0 ≤ i + n then some (i + n).toNat else none)
/-- a slice's bound -/
def bdOf (n : Nat) (i : Int) : Nat := if i < 0 then (i + n).toNat else min i.toNat n
def cut {α : Type} (xs : List α) (lo hi : Option Int) : List α :=
  let l := match lo with | some i => bdOf xs.length i | none => 0
  let u := match hi with | some i => bdOf xs.length i | none => xs.length
  (xs.drop l).take (u - l)

/-! ### texts -/
def decTx (i : Int) : Tx := (toString i).toList.map Char.toNat
def isDig (c : Nat) : Bool := 48 ≤ c && c ≤ 57
def digVal : Tx → Nat → Nat
  | [], n => n
  | c :: r, n => digVal r (n * 10 + (c - 48))
def intOf (s : Tx) : Option Int := if s.length ≤ 600 && !s.isEmpty && s.all isDig then some (digVal s 0 : Nat) else none
def pre : Tx → Tx → Bool
  | [], _ => true
  | _ :: _, [] => false
  | a :: p, b :: s => a == b && pre p s
/-- does p stand in s -/
def inTx (p : Tx) : Tx → Bool
  | [] => p.isEmpty
  | b :: s => pre p (b :: s) || inTx p s
/-- s cut at the first p: what stands ahead, and behind -/
def cutAt (p : Tx) : Tx → Option (Tx × Tx)
  | [] => none
  | b :: s => if pre p (b :: s) then some ([], (b :: s).drop p.length) else match cutAt p s with
    | some (l, r) => some (b :: l, r)
    | none => none
/-- split at one sign -/
def splitOn (c : Nat) : Tx → List Tx
  | [] => [[]]
  | b :: s => if b == c then [] :: splitOn c s else match splitOn c s with
    | [] => [[b]]
    | l :: ls => (b :: l) :: ls
def joinTx (sep : Tx) : List Tx → Tx
  | [] => []
  | [x] => x
  | x :: y :: r => x ++ sep ++ joinTx sep (y :: r)
def allStr : List Val → Option (List Tx)
  | [] => some []
  | .str s :: r => (allStr r).map (s :: ·)
  | _ => none
def allInt : List Val → Option (List Int)
  | [] => some []
  | .int s :: r => (allInt r).map (s :: ·)
  | _ => none
def allBl : List Val → Option (List Bool)
  | [] => some []
  | .bl s :: r => (allBl r).map (s :: ·)
  | _ => none
/-- the order of texts -/
def ltTx : Tx → Tx → Bool
  | [], [] => false
  | [], _ :: _ => true
  | _ :: _, [] => false
  | a :: x, b :: y => decide (a < b) || (a == b && ltTx x y)
def insTx (x : Tx) : List Tx → List Tx
  | [] => [x]
  | y :: r => if ltTx x y then x :: y :: r else y :: insTx x r
def sortTx : List Tx → List Tx
  | [] => []
  | x :: r => insTx x (sortTx r)
def dedup : List Tx → List Tx
  | [] => []
  | x :: r => if r.contains x then dedup r else x :: dedup r
def maxI : Int → List Int → Int
  | m, [] => m
  | m, x :: r => maxI (if x > m then x else m) r
def minI : Int → List Int → Int
  | m, [] => m
  | m, x :: r => minI (if x < m then x else m) r

/-! ### built-in functions and methods, by values -/
def alloc (o : Obj) (h : Hp) : R Val := .ok (.ref h.length) (h ++ [o])
def seqOf (h : Hp) : Val → Option (List Val)
  | .tup vs => some vs
  | .ref a => match h[a]? with
    | some (.list _ vs) => some vs
    | _ => none
  | _ => none
def pairsOf : List Val → Option (List (Val × Val))
  | [] => some []
  | .tup [k, v] :: r => if isKey k then (pairsOf r).map ((k, v) :: ·) else none
  | _ => none
def strVs (ss : List Tx) : List Val := ss.map Val.str
def tupTx : List Val → Option (List (List Tx))
  | [] => some []
  | .tup vs :: r => match allStr vs, tupTx r with
    | some a, some b => some (a :: b)
    | _, _ => none
  | _ => none
def ltTxs : List Tx → List Tx → Bool
  | [], [] => false
  | [], _ :: _ => true
  | _ :: _, [] => false
  | a :: x, b :: y => if ltTx a b then true else if ltTx b a then false else ltTxs x y
def insTxs (x : List Tx) : List (List Tx) → List (List Tx)
  | [] => [x]
  | y :: r => if ltTxs x y then x :: y :: r else y :: insTxs x r
def sortTxs : List (List Tx) → List (List Tx)
  | [] => []
  | x :: r => insTxs x (sortTxs r)
def plainTx (s : Tx) : Bool := s.all fun c => 32 ≤ c && c ≤ 126 && c != 39 && c != 92
def tx (s : String) : Tx := s.toList.map Char.toNat
mutual
def D.repr : D → Option Tx
  | .non => some [78, 111, 110, 101]
  | .bl true => some [84, 114, 117, 101]
  | .bl false => some [70, 97, 108, 115, 101]
  | .int i => if i.natAbs.log2 < 1920 then some (decTx i) else none
  | .str s => if plainTx s then some (39 :: s ++ [39]) else none
  | .tup ds => (D.reprs ds).map fun ts => 40 :: joinTx [44, 32] ts ++ (if ts.length == 1 then [44, 41] else [41])
  | .list ds => (D.reprs ds).map fun ts => 91 :: joinTx [44, 32] ts ++ [93]
def D.reprs : List D → Option (List Tx)
  | [] => some []
  | d :: ds => match D.repr d, D.reprs ds with
    | some t, some ts => some (t :: ts)
    | _, _ => none
end
def biCall (b : Bi) (as : List Val) (h : Hp) : R Val :=
  match b, as with
  | .len, [.str s] => guard (s.length ≤ LIM) (.ok (.int s.length) h)
  | .len, [.tup vs] => .ok (.int vs.length) h
  | .len, [.ref a] => match h[a]? with
    | some (.list _ vs) => .ok (.int vs.length) h
    | some (.dict false kvs) => .ok (.int kvs.length) h
    | _ => .stuck
  | .abs, [.int i] => .ok (.int (if i < 0 then -i else i)) h
  | .int, [.int i] => .ok (.int i) h
  | .int, [.bl b] => .ok (.int (if b then 1 else 0)) h
  | .int, [.str s] => .some h ((intOf s).map .int)
  | .str, [.int i] => guard (i.natAbs.log2 < 1920) (.ok (.str (decTx i)) h)
  | .str, [.str s] => .ok (.str s) h
  | .max, [.int i, .int j] => .ok (.int (if j > i then j else i)) h
  | .max, [.int i, .int j, .int k] => .ok (.int (maxI i [j, k])) h
  | .max, [.ref a] => match h[a]? with
    | some (.list _ vs) => match allInt vs with
      | some (m :: r) => .ok (.int (maxI m r)) h
      | _ => .stuck
    | _ => .stuck
  | .min, [.int i, .int j] => .ok (.int (if j < i then j else i)) h
  | .min, [.ref a] => match h[a]? with
    | some (.list _ vs) => match allInt vs with
      | some (m :: r) => .ok (.int (minI m r)) h
      | _ => .stuck
    | _ => .stuck
  | .sum, [.ref a] => match h[a]? with
    | some (.list _ vs) => match allInt vs with
      | some ns => .ok (.int ns.sum) h
      | _ => .stuck
    | _ => .stuck
  | .any, [.ref a] => match h[a]? with
    | some (.list _ vs) => match allBl vs with
      | some bs => .ok (.bl (bs.any id)) h
      | _ => .stuck
    | _ => .stuck
  | .all, [.ref a] => match h[a]? with
    | some (.list _ vs) => match allBl vs with
      | some bs => .ok (.bl (bs.all id)) h
      | _ => .stuck
    | _ => .stuck
  | .sorted, [.ref a] => match h[a]? with
    | some (.list _ vs) => match allStr vs with
      | some ss => guard (ss.length < 64) (alloc (.list false (strVs (sortTx ss))) h)
      | _ => .stuck
    | _ => .stuck
  | .list, [.tup vs] => alloc (.list false vs) h
  | .list, [.ref a] => match h[a]? with
    | some (.list _ vs) => alloc (.list false vs) h
    | some (.dict _ kvs) => alloc (.list false (kvs.map (·.1))) h
    | _ => .stuck
  | .tuple, [.tup vs] => .ok (.tup vs) h
  | .tuple, [.ref a] => match h[a]? with
    | some (.list _ vs) => .ok (.tup vs) h
    | _ => .stuck
  | .dict, [.ref a] => match h[a]? with
    | some (.list _ vs) => match pairsOf vs with
      | some kvs => alloc (.dict false (putAll [] kvs)) h
      | _ => .stuck
    | some (.dict _ kvs) => alloc (.dict false kvs) h
    | _ => .stuck
  | .lenSet, [v] => match seqOf h v with
    | some vs => match allStr vs with
      | some ss => guard (ss.length < 64) (.ok (.int (dedup ss).length) h)
      | _ => .stuck
    | _ => .stuck
  | .sortedSet, [v] => match seqOf h v with
    | some vs => match allStr vs with
      | some ss => guard (ss.length < 64) (alloc (.list false (strVs (sortTx (dedup ss)))) h)
      | _ => .stuck
    | _ => .stuck
  | .repr, [v] => .some h (((dat 64 h v).bind D.repr).map .str)
  | .sortedLists, [.ref a] => match h[a]? with
    | some (.list _ vs) => match tupTx vs with
      | some ss => alloc (.list false ((sortTxs ss).map fun l => .tup (strVs l))) h
      | _ => .stuck
    | _ => .stuck
  | _, _ => .stuck
def sumLen (ss : List Tx) : Nat := (ss.map List.length).sum
/-- strip(" ") of the signs of demands -/
def stripTab (s : Tx) : Option Tx := if s == [32, 60, 61, 32] then some [60, 61] else if s == [32, 60, 32] then some [60] else if s == [32, 61, 32] then some [61] else none
def bmCall (m : Bm) (o : Val) (as : List Val) (h : Hp) : R Val :=
  match m, o, as with
  | .append, .ref a, [v] => match h[a]? with
    | some (.list false vs) => guard (vs.length < LIM) (.ok .non (h.set a (.list false (vs ++ [v]))))
    | _ => .stuck
  | .extend, .ref a, [.ref b] => match h[a]?, h[b]? with
    | some (.list false vs), some (.list false ws) => guard (vs.length + ws.length ≤ LIM) (.ok .non (h.set a (.list false (vs ++ ws))))
    | _, _ => .stuck
  | .pop, .ref a, [] => match h[a]? with
    | some (.list false vs) => match vs.getLast? with
      | some v => .ok v (h.set a (.list false vs.dropLast))
      | none => .stuck
    | _ => .stuck
  | .pop, .ref a, [.int i] => match h[a]? with
    | some (.list false vs) => match ixOf vs.length i with
      | some k => match vs[k]? with
        | some v => guard (vs.length ≤ LIM) (.ok v (h.set a (.list false (vs.eraseIdx k))))
        | none => .stuck
      | none => .stuck
    | _ => .stuck
  | .pop, .ref a, [.str k] => match h[a]? with
    | some (.dict false kvs) => match look kvs (.str k) with
      | some v => .ok v (h.set a (.dict false (drop kvs (.str k))))
      | none => .stuck
    | _ => .stuck
  | .get, .ref a, [k] => match h[a]? with
    | some (.dict false kvs) => guard (isKey k) (.ok ((look kvs k).getD .non) h)
    | _ => .stuck
  | .get, .ref a, [k, d] => match h[a]? with
    | some (.dict false kvs) => guard (isKey k) (.ok ((look kvs k).getD d) h)
    | _ => .stuck
  | .join, .str s, [v] => match seqOf h v with
    | some vs => match allStr vs with
      | some ss => guard (sumLen ss + s.length * ss.length ≤ LIM) (.ok (.str (joinTx s ss)) h)
      | none => .stuck
    | none => .stuck
  | .split, .str s, [.str [c]] => guard (s.length + 2 ≤ LIM) (alloc (.list false (strVs (splitOn c s))) h)
  | .partition, .str s, [.str (c :: p)] => guard (s.length ≤ LIM) (.ok (match cutAt (c :: p) s with
      | some (l, r) => .tup [.str l, .str (c :: p), .str r]
      | none => .tup [.str s, .str [], .str []]) h)
  | .strip, .str s, [.str [32]] => .some h ((stripTab s).map .str)
  | _, _, _ => .stuck

/-- which type has which built-in method: 0 list, 1 dict, 2 text -/
def bmOk (m : Bm) (n : Nat) : Bool := match n with
  | 0 => m == .append || m == .extend || m == .pop
  | 1 => m == .get || m == .pop
  | 2 => m == .join || m == .split || m == .partition || m == .strip
  | _ => false
def bmKind (x : Val) (h : Hp) : Nat := match x with
  | .str _ => 2
  | .ref a => match h[a]? with
    | some (.list _ _) => 0
    | some (.dict false _) => 1
    | _ => 3
  | _ => 3
def bmPre (m : Bm) (x : Val) (h : Hp) : Bool := bmOk m (bmKind x h)
/-! ### operators -/
def mulOk (i j : Int) : Bool := (decide (-(2 ^ 64) < i) && decide (i < 2 ^ 64)) || (decide (-(2 ^ 64) < j) && decide (j < 2 ^ 64))
def binCall (op : Bop) (x y : Val) (h : Hp) : R Val :=
  match op, x, y with
  | .add, .int i, .int j => .ok (.int (i + j)) h
  | .add, .str s, .str t => guard (s.length + t.length ≤ LIM) (.ok (.str (s ++ t)) h)
  | .add, .ref a, .ref b => match h[a]?, h[b]? with
    | some (.list false vs), some (.list false ws) => guard (vs.length + ws.length ≤ LIM) (alloc (.list false (vs ++ ws)) h)
    | _, _ => .stuck
  | .sub, .int i, .int j => .ok (.int (i - j)) h
  | .mul, .int i, .int j => guard (mulOk i j) (.ok (.int (i * j)) h)
  | .mul, .ref a, .int k => match h[a]? with
    | some (.list false vs) => guard (decide (-(2 ^ 63) ≤ k) && decide (k < 2 ^ 63) && decide (vs.length * k.toNat ≤ LIM)) (alloc (.list false (List.replicate k.toNat vs).flatten) h)
    | _ => .stuck
  | .fdiv, .int i, .int j => guard (decide (0 < j) && decide (j < 1073741824)) (.ok (.int (i / j)) h)
  | .mod, .int i, .int j => guard (decide (0 < j)) (.ok (.int (i % j)) h)
  | .pow, .int i, .int j => guard (decide (0 ≤ j) && decide (j ≤ 1000000) && decide (i.natAbs < 2 ^ 64)) (.ok (.int (i ^ j.toNat)) h)
  | _, _, _ => .stuck
/-- x op= y, of ints -/
def augCall (op : Bop) (x y : Val) (h : Hp) : R Val := match op, x, y with
  | .add, .int i, .int j => .ok (.int (i + j)) h
  | .sub, .int i, .int j => .ok (.int (i - j)) h
  | _, _, _ => .stuck
def isScal : Val → Bool
  | .non | .bl _ | .int _ | .str _ => true
  | _ => false
/-- == of two scalars -/
def eqS : Val → Val → Bool
  | .non, .non => true
  | .bl a, .bl b => a == b
  | .bl a, .int j => b2i a == j
  | .int i, .bl b => i == b2i b
  | .int i, .int j => i == j
  | .str s, .str t => s == t
  | _, _ => false
def memS (x : Val) (vs : List Val) : Option Bool := if isScal x && vs.all isScal then some (vs.any fun y => eqS y x) else none
def inCall (x y : Val) (h : Hp) : Option Bool :=
  match x, y with
  | .str [c], .str t => some (t.contains c)
  | x, .tup vs => memS x vs
  | x, .ref a => match h[a]? with
    | some (.list _ vs) => memS x vs
    | some (.dict _ kvs) => if isKey x then some (look kvs x).isSome else none
    | _ => none
  | _, _ => none
def isNon : Val → Bool
  | .non => true
  | _ => false
/-- two dicts of scalars that are equal -/
def eqDict (ws : List (Val × Val)) : List (Val × Val) → Bool
  | [] => true
  | (k, v) :: r => match look ws k with
    | none => false
    | some w => isScal v && Val.beq v w && eqDict ws r
def eqTop (h : Hp) (x y : Val) : Option Bool := match x, y with
  | .ref a, .ref b => match h[a]?, h[b]? with
    | some (.dict false kvs), some (.dict false ws) => if kvs.length == ws.length && eqDict ws kvs then some true else none
    | _, _ => eqv h x y
  | _, _ => eqv h x y
def cmpCall (op : Cop) (x y : Val) (h : Hp) : Option Bool :=
  match op with
  | .lt => match x, y with
    | .int i, .int j => some (decide (i < j))
    | _, _ => none
  | .le => match x, y with
    | .int i, .int j => some (decide (i ≤ j))
    | _, _ => none
  | .gt => match x, y with
    | .int i, .int j => some (decide (j < i))
    | _, _ => none
  | .ge => match x, y with
    | .int i, .int j => some (decide (j ≤ i))
    | _, _ => none
  | .eq => eqTop h x y
  | .ne => (eqTop h x y).map (!·)
  | .is => if isNon y then some (isNon x) else none
  | .isnot => if isNon y then some (!isNon x) else none
  | .in_ => inCall x y h
  | .notin => (inCall x y h).map (!·)
def subCall (o i : Val) (h : Hp) : R Val :=
  match o, i with
  | .tup vs, .int i => match ixOf vs.length i with
    | some k => .some h vs[k]?
    | none => .stuck
  | .str s, .int i => match ixOf s.length i with
    | some k => guard (s.length ≤ LIM) (.some h (s[k]?.map fun c => .str [c]))
    | none => .stuck
  | .ref a, k => match h[a]? with
    | some (.list _ vs) => match k with
      | .int i => match ixOf vs.length i with
        | some k => .some h vs[k]?
        | none => .stuck
      | _ => .stuck
    | some (.dict _ kvs) => guard (isKey k) (.some h (look kvs k))
    | _ => .stuck
  | _, _ => .stuck
def slcCall (o : Val) (lo hi : Option Int) (h : Hp) : R Val :=
  match o with
  | .tup vs => .ok (.tup (cut vs lo hi)) h
  | .str s => guard (s.length ≤ LIM) (.ok (.str (cut s lo hi)) h)
  | .ref a => match h[a]? with
    | some (.list _ vs) => alloc (.list false (cut vs lo hi)) h
    | _ => .stuck
  | _ => .stuck
def setCall (o i v : Val) (h : Hp) : R Unit :=
  match o with
  | .ref a => match h[a]? with
    | some (.list false vs) => match i with
      | .int i => match ixOf vs.length i with
        | some k => .ok () (h.set a (.list false (vs.set k v)))
        | none => .stuck
      | _ => .stuck
    | some (.dict false kvs) => guard (isKey i && decide (kvs.length < LIM)) (.ok () (h.set a (.dict false (put kvs i v))))
    | _ => .stuck
  | _ => .stuck
/-- the class of a value: 0 None, 1 bool, 2 int, 3 str, 4 tuple, 5 list, 6 dict -/
def tyNo (v : Val) (h : Hp) : Option Nat := match v with
  | .non => some 0
  | .bl _ => some 1
  | .int _ => some 2
  | .str _ => some 3
  | .tup _ => some 4
  | .ref a => match h[a]? with
    | some (.list _ _) => some 5
    | some (.dict _ _) => some 6
    | _ => none
  | .cls _ => none
/-- is a value of the class n one of the class t -/
def tyIs (t : Ty) (n : Nat) : Option Bool := match t with
  | .int => some (n == 1 || n == 2)
  | .bool => some (n == 1)
  | .str => some (n == 3)
  | .tuple => some (n == 4)
  | .list => some (n == 5)
  | .dict => some (n == 6)
  | .own _ => none
def tyAny (n : Nat) : List Ty → Option Bool
  | [] => some false
  | t :: r => match tyIs t n with
    | some true => some true
    | some false => tyAny n r
    | none => none
def tyCall (ts : List Ty) (v : Val) (h : Hp) : Option Bool := match tyNo v h with
  | some n => tyAny n ts
  | none => none
/-- a part of an f-string -/
def partTx : Val → Option Tx
  | .str s => if s.length ≤ LIM then some s else none
  | .int i => if i.natAbs.log2 < 1920 then some (decTx i) else none
  | _ => none

/-! ### what is walked -/
inductive Sr where
  | lst (a : Nat) | vals (vs : List Val) | rng (lo : Int) (n : Nat) | enum (s : Sr) | zip (s t : Sr)
def Sr.at : Sr → Hp → Nat → Option (Option Val)
  | .lst a, h, i => match h[a]? with
    | some (.list _ vs) => some vs[i]?
    | _ => none
  | .vals vs, _, i => some vs[i]?
  | .rng lo n, _, i => some (if i < n then some (.int (lo + i)) else none)
  | .enum s, h, i => match s.at h i with
    | some (some v) => some (some (.tup [.int i, v]))
    | x => x
  | .zip s t, h, i => match s.at h i with
    | some (some v) => match t.at h i with
      | some (some w) => some (some (.tup [v, w]))
      | x => x
    | x => x
def Sr.len : Sr → Hp → Nat
  | .lst a, h => match h[a]? with
    | some (.list _ vs) => vs.length
    | _ => 0
  | .vals vs, _ => vs.length
  | .rng _ n, _ => n
  | .enum s, h => s.len h
  | .zip s t, h => min (s.len h) (t.len h)
/-- what is walked, and a dict that is locked meanwhile -/
abbrev Walk := Sr × Option (Nat × List (Val × Val))
def srOf (v : Val) (h : Hp) : Option Sr := match v with
  | .tup vs => some (.vals vs)
  | .str s => some (.vals (s.map fun c => .str [c]))
  | .ref a => match h[a]? with
    | some (.list _ _) => some (.lst a)
    | _ => none
  | _ => none
def walkOf (v : Val) (h : Hp) : R Walk := match v with
  | .ref a => match h[a]? with
    | some (.list _ _) => .ok (.lst a, none) h
    | some (.dict false kvs) => .ok (.vals (kvs.map (·.1)), some (a, kvs)) h
    | _ => .stuck
  | .tup vs => .ok (.vals vs, none) h
  | .str s => .ok (.vals (s.map fun c => .str [c]), none) h
  | _ => .stuck
def lock (l : Option (Nat × List (Val × Val))) (h : Hp) : Hp := match l with
  | none => h
  | some (a, kvs) => h.set a (.dict true kvs)
def unlock (l : Option (Nat × List (Val × Val))) (h : Hp) : Hp := match l with
  | none => h
  | some (a, kvs) => h.set a (.dict false kvs)

/-! ### targets -/
mutual
def bindP : Pat → Val → St → Option St
  | .v i, x, st => some (st.set i (some x))
  | .t ps, .tup vs, st => bindPs ps vs st
  | _, _, _ => none
def bindPs : List Pat → List Val → St → Option St
  | [], [], st => some st
  | p :: ps, v :: vs, st => match bindP p v st with
    | some st' => bindPs ps vs st'
    | none => none
  | _, _, _ => none
end
def wipe (st : St) : List Nat → St
  | [] => st
  | i :: r => (wipe st r).set i none

inductive Fl where
  | next | ret (v : Val) | brk | cnt
/-- the loop of a for: rem bounds the turns -/
def forGo (bind : Val → St → Option St) (body : St → Hp → R (Fl × St)) (sr : Sr) : Nat → Nat → St → Hp → R (Fl × St)
  | 0, _, _, _ => .stuck
  | rem + 1, i, st, h => match sr.at h i with
    | none => .stuck
    | some none => .ok (.next, st) h
    | some (some v) => match bind v st with
      | none => .stuck
      | some st1 => (body st1 h).bind fun r h2 => match r with
        | (.next, st2) => forGo bind body sr rem (i + 1) st2 h2
        | (.cnt, st2) => forGo bind body sr rem (i + 1) st2 h2
        | (.brk, st2) => .ok (.next, st2) h2
        | (.ret x, st2) => .ok (.ret x, st2) h2
/-- the loop of a comprehension: one turn makes some items -/
def compGo {α : Type} (turn : Val → α → Hp → R α) (sr : Sr) : Nat → Nat → α → Hp → R α
  | 0, _, _, _ => .stuck
  | rem + 1, i, acc, h => match sr.at h i with
    | none => .stuck
    | some none => .ok acc h
    | some (some v) => (turn v acc h).bind fun acc2 h2 => compGo turn sr rem (i + 1) acc2 h2
def whileGo (test : St → Hp → R Bool) (body : St → Hp → R (Fl × St)) : Nat → St → Hp → R (Fl × St)
  | 0, _, _ => .stuck
  | n + 1, st, h => (test st h).bind fun b h1 => if b = true then (body st h1).bind fun r h2 => match r with
      | (.next, st2) => whileGo test body n st2 h2
      | (.cnt, st2) => whileGo test body n st2 h2
      | (.brk, st2) => .ok (.next, st2) h2
      | (.ret x, st2) => .ok (.ret x, st2) h2
    else .ok (.next, st) h1

/-! ### the program's tables -/
structure Cl where
  init : Option Nat := none
  meths : List (Nat × Nat) := []
  props : List (Nat × Nat) := []
  flds : List Nat := []
structure Pg where
  consts : List Val
  cls : List Cl
abbrev Fn := Nat → List Val → Hp → R Val
def blOf : Val → Hp → R Bool
  | .bl b, h => .ok b h
  | _, _ => .stuck
section
variable (P : Pg) (F : Fn)
def attrCall (v : Val) (f : Nat) (h : Hp) : R Val := match v with
  | .ref a => match h[a]? with
    | some (.inst c fs) => match P.cls[c]? with
      | some C => if C.flds.contains f then .some h (fs.lookup f) else match C.props.lookup f with
        | some g => match fs.lookup f with
          | none => F g [.ref a] h
          | some _ => .stuck
        | none => .stuck
      | none => .stuck
    | _ => .stuck
  | _ => .stuck
/-- a field of an instance -/
def fldOf (v : Val) (f : Nat) (h : Hp) : Option Val := match v with
  | .ref a => match h[a]? with
    | some (.inst c fs) => match P.cls[c]? with
      | some C => if C.flds.contains f then fs.lookup f else none
      | none => none
    | _ => none
  | _ => none
def putF (fs : List (Nat × Val)) (f : Nat) (v : Val) : List (Nat × Val) := match fs with
  | [] => [(f, v)]
  | (g, w) :: r => if g == f then (g, v) :: r else (g, w) :: putF r f v
def setAttr (o : Val) (f : Nat) (v : Val) (h : Hp) : R Unit := match o with
  | .ref a => match h[a]? with
    | some (.inst c fs) => match P.cls[c]? with
      | some C => guard (C.flds.contains f && decide (fs.length < 1000)) (.ok () (h.set a (.inst c (putF fs f v))))
      | none => .stuck
    | _ => .stuck
  | _ => .stuck
/-- the def that a method call reaches -/
def methOf (v : Val) (m : Nat) (h : Hp) : Option Nat := match v with
  | .ref a => match h[a]? with
    | some (.inst c fs) => match fs.lookup m with
      | some _ => none
      | none => match P.cls[c]? with
        | some C => C.meths.lookup m
        | none => none
    | _ => none
  | _ => none
def newCall (c : Nat) (as : List Val) (h : Hp) : R Val := match P.cls[c]? with
  | some C => match C.init with
    | some g => (F g (.ref h.length :: as) (h ++ [.inst c []])).bind fun v h2 => match v with
      | .non => .ok (.ref h.length) h2
      | _ => .stuck
    | none => .stuck
  | none => .stuck
mutual
def evE : E → St → Hp → R Val
  | .var i, st, h => match st[i]? with
    | some (some v) => .ok v h
    | _ => .stuck
  | .con v, _, h => .ok v h
  | .glob g, _, h => .some h P.consts[g]?
  | .bin op a b, st, h => (evE a st h).bind fun x h => (evE b st h).bind fun y h => binCall op x y h
  | .neg a, st, h => (evE a st h).bind fun x h => match x with
    | .int i => .ok (.int (-i)) h
    | _ => .stuck
  | .not a, st, h => (evE a st h).bind fun x h => match x with
    | .bl b => .ok (.bl (!b)) h
    | _ => .stuck
  | .and a b, st, h => (evE a st h).bind fun x h => match x with
    | .bl true => evE b st h
    | .bl false => .ok (.bl false) h
    | _ => .stuck
  | .or a b, st, h => (evE a st h).bind fun x h => match x with
    | .bl true => .ok (.bl true) h
    | .bl false => evE b st h
    | _ => .stuck
  | .cmp op a b, st, h => (evE a st h).bind fun x h => (evE b st h).bind fun y h => .some h ((cmpCall op x y h).map .bl)
  | .chain o1 o2 a b c, st, h => (evE a st h).bind fun x h => (evE b st h).bind fun y h => match cmpCall o1 x y h with
    | some true => (evE c st h).bind fun z h => .some h ((cmpCall o2 y z h).map .bl)
    | some false => .ok (.bl false) h
    | none => .stuck
  | .ife c a b, st, h => (evE c st h).bind fun x h => match x with
    | .bl true => evE a st h
    | .bl false => evE b st h
    | _ => .stuck
  | .tup es, st, h => (evEs es st h).bind fun vs h => guard (vs.length ≤ LIM) (.ok (.tup vs) h)
  | .lst es, st, h => (evEs es st h).bind fun vs h => guard (vs.length ≤ LIM) (alloc (.list false vs) h)
  | .dic ds, st, h => (evDs ds [] st h).bind fun kvs h => guard (kvs.length < LIM) (alloc (.dict false kvs) h)
  | .lc own p it ifs elt, st, h => (evIt it st h).bind fun w h => ((compGo (fun v acc h => match bindP p v (wipe st own) with
      | none => .stuck
      | some st1 => (evIfs ifs st1 h).bind fun b h => if b = true then (evE elt st1 h).bind fun x h => guard (acc.length < LIM) (.ok (acc ++ [x]) h) else .ok acc h)
      w.1 (w.1.len h + 1) 0 [] (lock w.2 h)).calm).bind fun vs h => alloc (.list false vs) (unlock w.2 h)
  | .lc2 own p it ifs own1 p1 it1 ifs1 elt, st, h => (evIt it st h).bind fun w h => ((compGo (fun v acc h => match bindP p v (wipe st own) with
      | none => .stuck
      | some st1 => (evIfs ifs st1 h).bind fun b h => if b = true then
          (evIt it1 st1 h).bind fun w1 h => (compGo (fun v acc h => match bindP p1 v (wipe st1 own1) with
            | none => .stuck
            | some st2 => (evIfs ifs1 st2 h).bind fun b h => if b = true then (evE elt st2 h).bind fun x h => guard (acc.length < LIM) (.ok (acc ++ [x]) h) else .ok acc h)
            w1.1 (w1.1.len h + 1) 0 acc (lock w1.2 h)).bind fun acc h => .ok acc (unlock w1.2 h)
        else .ok acc h)
      w.1 (w.1.len h + 1) 0 [] (lock w.2 h)).calm).bind fun vs h => alloc (.list false vs) (unlock w.2 h)
  | .dc own p it ifs k v, st, h => (evIt it st h).bind fun w h => ((compGo (fun x acc h => match bindP p x (wipe st own) with
      | none => .stuck
      | some st1 => (evIfs ifs st1 h).bind fun b h => if b = true then (evE k st1 h).bind fun kk h => (evE v st1 h).bind fun vv h => guard (isKey kk && decide (acc.length < LIM)) (.ok (put acc kk vv) h) else .ok acc h)
      w.1 (w.1.len h + 1) 0 [] (lock w.2 h)).calm).bind fun kvs h => alloc (.dict false kvs) (unlock w.2 h)
  | .sub o i, st, h => (evE o st h).bind fun x h => (evE i st h).bind fun y h => subCall x y h
  | .slc o lo hi, st, h => (evE o st h).bind fun x h => (evOe lo st h).bind fun l h => (evOe hi st h).bind fun u h => slcCall x l u h
  | .attr o f, st, h => (evE o st h).bind fun x h => attrCall P F x f h
  | .call f as, st, h => (evEs as st h).bind fun vs h => F f vs h
  | .new c as, st, h => (evEs as st h).bind fun vs h => newCall P F c vs h
  | .meth o m as, st, h => (evE o st h).bind fun x h => match methOf P x m h with
    | some g => (evEs as st h).bind fun vs h => F g (x :: vs) h
    | none => .stuck
  | .bi b as, st, h => (evEs as st h).bind fun vs h => biCall b vs h
  | .isi e ts, st, h => (evE e st h).bind fun x h => .some h ((tyCall ts x h).map .bl)
  | .bm m o as, st, h => (evE o st h).bind fun x h => guard (bmPre m x h) ((evEs as st h).bind fun vs h => bmCall m x vs h)
  | .fstr es, st, h => (evFs es [] st h).bind fun t h => .ok (.str t) h
  | .listIt it, st, h => (evIt it st h).bind fun w h => (compGo (fun v acc h => .ok (acc ++ [v]) h) w.1 (w.1.len h + 1) 0 [] (lock w.2 h)).bind fun vs h => guard (vs.length ≤ LIM) (alloc (.list false vs) (unlock w.2 h))
  | .dictIt it, st, h => (evIt it st h).bind fun w h => (compGo (fun v acc h => .ok (acc ++ [v]) h) w.1 (w.1.len h + 1) 0 [] (lock w.2 h)).bind fun vs h => match pairsOf vs with
      | some kvs => guard (vs.length < LIM) (alloc (.dict false (putAll [] kvs)) (unlock w.2 h))
      | none => .stuck
def evEs : Es → St → Hp → R (List Val)
  | .nil, _, h => .ok [] h
  | .cons star e es, st, h => (evE e st h).bind fun x h => if star = true then
      (match seqOf h x with
      | some vs => (evEs es st h).bind fun ws h => .ok (vs ++ ws) h
      | none => .stuck)
    else (evEs es st h).bind fun ws h => .ok (x :: ws) h
def evFs : Es → Tx → St → Hp → R Tx
  | .nil, acc, _, h => .ok acc h
  | .cons _ e es, acc, st, h => (evE e st h).bind fun x h => match partTx x with
    | some t => guard (acc.length + t.length ≤ LIM) (evFs es (acc ++ t) st h)
    | none => .stuck
def evDs : Ds → List (Val × Val) → St → Hp → R (List (Val × Val))
  | .nil, acc, _, h => .ok acc h
  | .kv k v ds, acc, st, h => (evE k st h).bind fun kk h => (evE v st h).bind fun vv h => guard (isKey kk && decide (acc.length < LIM)) (evDs ds (put acc kk vv) st h)
  | .star e ds, acc, st, h => (evE e st h).bind fun x h => match x with
    | .ref a => match h[a]? with
      | some (.dict _ kvs) => guard (acc.length + kvs.length ≤ LIM) (evDs ds (putAll acc kvs) st h)
      | _ => .stuck
    | _ => .stuck
def evOe : Oe → St → Hp → R (Option Int)
  | .none, _, h => .ok none h
  | .some e, st, h => (evE e st h).bind fun x h => match x with
    | .int i => .ok (some i) h
    | _ => .stuck
def evIfs : Es → St → Hp → R Bool
  | .nil, _, h => .ok true h
  | .cons _ e es, st, h => (evE e st h).bind fun x h => match x with
    | .bl true => evIfs es st h
    | .bl false => .ok false h
    | _ => .stuck
def evIt : It → St → Hp → R Walk
  | .ex e, st, h => (evE e st h).bind fun x h => walkOf x h
  | .range1 e, st, h => (evE e st h).bind fun x h => match x with
    | .int j => guard (decide (-(2 ^ 62) ≤ j) && decide (j < 2 ^ 62)) (.ok (.rng 0 j.toNat, none) h)
    | _ => .stuck
  | .range2 a b, st, h => (evE a st h).bind fun x h => (evE b st h).bind fun y h => match x, y with
    | .int i, .int j => guard (decide (-(2 ^ 62) ≤ i) && decide (i < 2 ^ 62) && decide (-(2 ^ 62) ≤ j) && decide (j < 2 ^ 62)) (.ok (.rng i (j - i).toNat, none) h)
    | _, _ => .stuck
  | .enum e, st, h => (evE e st h).bind fun x h => match x with
    | .ref a => match h[a]? with
      | some (.list _ _) => .ok (.enum (.lst a), none) h
      | _ => .stuck
    | _ => .stuck
  | .zip a b, st, h => (evE a st h).bind fun x h => (evE b st h).bind fun y h => match x, y with
    | .ref p, .ref q => match h[p]?, h[q]? with
      | some (.list _ _), some (.list _ _) => .ok (.zip (.lst p) (.lst q), none) h
      | _, _ => .stuck
    | .tup vs, .tup ws => .ok (.zip (.vals vs) (.vals ws), none) h
    | _, _ => .stuck
  | .items e, st, h => (evE e st h).bind fun x h => match x with
    | .ref a => match h[a]? with
      | some (.dict false kvs) => .ok (.vals (kvs.map fun p => .tup [p.1, p.2]), some (a, kvs)) h
      | _ => .stuck
    | _ => .stuck
end
def evTg : Tg → Val → St → Hp → R St
  | .pat p, v, st, h => .some h (bindP p v st)
  | .sub o i, v, st, h => (evE P F o st h).bind fun x h => (evE P F i st h).bind fun y h => (setCall x y v h).bind fun _ h => .ok st h
  | .attr o f, v, st, h => (evE P F o st h).bind fun x h => (setAttr P x f v h).bind fun _ h => .ok st h
variable (W : Nat)
mutual
def evS : S → St → Hp → R (Fl × St)
  | .expr e, st, h => (evE P F e st h).bind fun _ h => .ok (.next, st) h
  | .asg t e, st, h => (evE P F e st h).bind fun x h => (evTg P F t x st h).bind fun st h => .ok (.next, st) h
  | .aug i op e, st, h => match st[i]? with
    | some (some x) => (evE P F e st h).bind fun y h => (augCall op x y h).bind fun z h => .ok (.next, st.set i (some z)) h
    | _ => .stuck
  | .augAttr o f op e, st, h => (evE P F o st h).bind fun x h => match fldOf P x f h with
    | some v => (evE P F e st h).bind fun y h => (augCall op v y h).bind fun z h => (setAttr P x f z h).bind fun _ h => .ok (.next, st) h
    | none => .stuck
  | .ret e, st, h => (evE P F e st h).bind fun x h => .ok (.ret x, st) h
  | .retN, st, h => .ok (.ret .non, st) h
  | .pass, st, h => .ok (.next, st) h
  | .brk, st, h => .ok (.brk, st) h
  | .cnt, st, h => .ok (.cnt, st) h
  | .ite c a b, st, h => ((evE P F c st h).bind blOf).bind fun x h => if x = true then evSs a st h else evSs b st h
  | .whl c b, st, h => whileGo (fun st h => (evE P F c st h).bind blOf) (fun st h => evSs b st h) W st h
  | .for_ p it b, st, h => (evIt P F it st h).bind fun w h => (forGo (bindP p) (fun st h => evSs b st h) w.1 (w.1.len h + 1) 0 st (lock w.2 h)).bind fun r h => .ok r (unlock w.2 h)
  | .raise _ _, _, _ => .stuck
def evSs : Ss → St → Hp → R (Fl × St)
  | .nil, st, h => .ok (.next, st) h
  | .cons s ss, st, h => (evS s st h).bind fun r h => match r with
    | (.next, st) => evSs ss st h
    | r => .ok r h
end
end
/-- a def: how many parameters, how many slots, its body -/
structure Df where
  np : Nat
  ns : Nat
  body : Ss
def startSt (ns : Nat) (vs : List Val) : St := vs.map some ++ List.replicate (ns - vs.length) none
/-- the functions of a program, k calls deep -/
def calls (P : Pg) (D : Nat → Option Df) (W : Nat) : Nat → Fn
  | 0 => fun _ _ _ => .stuck
  | k + 1 => fun f vs h => match D f with
    | none => .stuck
    | some d => guard (vs.length == d.np) ((evSs P (calls P D W k) W d.body (startSt d.ns vs) h).bind fun r h => match r with
      | (.ret v, _) => .ok v h
      | (.next, _) => .ok .non h
      | _ => .stuck)
end Ev

set_option Elab.async false
set_option maxRecDepth 100000
set_option maxHeartbeats 4000000
/-! EvS1: the own heap against the layer's abstract heap -/
namespace Sd
open PySem PySem.Spec PyProof.Rows L2
/-- what the own syntax's numbers stand for -/
structure Ab where
  K : PySem.W.Frag
  cAd : Nat → Option Addr
  fnm : Nat → Str
  nf : Nat
  inj : ∀ i j, i < nf → j < nf → fnm i = fnm j → i = j
  cinj : ∀ i j C, cAd i = some C → cAd j = some C → i = j
def asTx (s : Ev.Tx) : Str := ⟨s.toArray⟩
mutual
inductive VR (Z : Ab) (m : List Addr) (H : L2.Hp) : Ev.Val → V → Prop
  | non : VR Z m H .non .non
  | bl (b : Bool) : VR Z m H (.bl b) (.bl b)
  | int (i : Int) : VR Z m H (.int i) (.int i)
  | str (s : Ev.Tx) : (∀ c ∈ s, c < 128) → VR Z m H (.str s) (.str (asTx s))
  | tup {a : Addr} {vs : List Ev.Val} {us : List V} : SqT Z.K H a us → VRs Z m H vs us → VR Z m H (.tup vs) (.ref a)
  | ref {i : Nat} {a : Addr} : m[i]? = some a → VR Z m H (.ref i) (.ref a)
  | cls {c : Nat} {C : Addr} : Z.cAd c = some C → VR Z m H (.cls c) (.ref C)
inductive VRs (Z : Ab) (m : List Addr) (H : L2.Hp) : List Ev.Val → List V → Prop
  | nil : VRs Z m H [] []
  | cons {v : Ev.Val} {u : V} {vs : List Ev.Val} {us : List V} : VR Z m H v u → VRs Z m H vs us → VRs Z m H (v :: vs) (u :: us)
end
/-- keys -/
inductive KR : Ev.Val → Key → Prop
  | int (i : Int) : KR (.int i) (.inl i)
  | str (s : Ev.Tx) : (∀ c ∈ s, c < 128) → KR (.str s) (.inr (asTx s))
inductive KVR (Z : Ab) (m : List Addr) (H : L2.Hp) : List (Ev.Val × Ev.Val) → List (Key × V) → Prop
  | nil : KVR Z m H [] []
  | cons {k v : Ev.Val} {k' : Key} {u : V} {kvs : List (Ev.Val × Ev.Val)} {us : List (Key × V)} : KR k k' → VR Z m H v u → KVR Z m H kvs us → KVR Z m H ((k, v) :: kvs) ((k', u) :: us)
inductive FR (Z : Ab) (m : List Addr) (H : L2.Hp) : List (Nat × Ev.Val) → List (Str × V) → Prop
  | nil : FR Z m H [] []
  | cons {f : Nat} {v : Ev.Val} {u : V} {fs : List (Nat × Ev.Val)} {us : List (Str × V)} : f < Z.nf → VR Z m H v u → FR Z m H fs us → FR Z m H ((f, v) :: fs) ((Z.fnm f, u) :: us)
def OR (Z : Ab) (m : List Addr) (H : L2.Hp) : Ev.Obj → Addr → Prop
  | .list false vs, a => ∃ us, VRs Z m H vs us ∧ H a = some (.lst us)
  | .list true vs, a => ∃ us o, VRs Z m H vs us ∧ H a = some (.frz o (.lst us))
  | .dict false kvs, a => ∃ us, KVR Z m H kvs us ∧ H a = some (.dK us)
  | .dict true kvs, a => ∃ us o, KVR Z m H kvs us ∧ H a = some (.frz o (.dK us))
  | .inst c fs, a => ∃ C dx us, Z.cAd c = some C ∧ FR Z m H fs us ∧ H a = some (.ins C dx us)
/-- a configuration -/
structure Cf where
  m : List Addr
  h : Ev.Hp
  H : L2.Hp
structure Sim (Z : Ab) (c : Cf) : Prop where
  len : c.m.length = c.h.length
  nd : c.m.Nodup
  ob : ∀ (i : Nat) (o : Ev.Obj) (a : Addr), c.h[i]? = some o → c.m[i]? = some a → OR Z c.m c.H o a
def isFr : Ev.Obj → Bool
  | .list b _ => b
  | .dict b _ => b
  | .inst _ _ => false
def kindO : Ev.Obj → Nat
  | .list _ _ => 0
  | .dict _ _ => 1
  | .inst c _ => c + 2
structure Ext (c c' : Cf) : Prop where
  pre : ∃ t, c'.m = c.m ++ t ∧ ∀ a ∈ t, c.H a = none ∧ a ∉ c.m
  keep : ∀ b o, c.H b = some o → b ∉ c.m → c'.H b = some o
  fz : ∀ (i : Nat) (o : Ev.Obj), c.h[i]? = some o → isFr o = true → c'.h[i]? = some o ∧ ∀ a, c.m[i]? = some a → c'.H a = c.H a
  kd : ∀ (i : Nat) (o : Ev.Obj), c.h[i]? = some o → ∃ o', c'.h[i]? = some o' ∧ kindO o' = kindO o
theorem Ext.refl (c : Cf) : Ext c c := ⟨⟨[], by simp⟩, fun _ _ h _ => h, fun _ _ h _ => ⟨h, fun _ _ => rfl⟩, fun _ o h => ⟨o, h, rfl⟩⟩
theorem Ext.get {c c' : Cf} (e : Ext c c') {i : Nat} {a : Addr} (h : c.m[i]? = some a) : c'.m[i]? = some a := by
  obtain ⟨t, q, _⟩ := e.pre
  rw [q, List.getElem?_append_left (List.getElem?_eq_some_iff.mp h).1]
  exact h
theorem Ext.notin {c c' : Cf} (e : Ext c c') {b : Addr} {o : HO} (h : c.H b = some o) (n : b ∉ c.m) : b ∉ c'.m := by
  obtain ⟨t, q, f⟩ := e.pre
  rw [q, List.mem_append]
  rintro (z | z)
  · exact n z
  · rw [(f b z).1] at h; cases h
theorem Ext.trans {c c1 c2 : Cf} (a : Ext c c1) (b : Ext c1 c2) : Ext c c2 := by
  refine ⟨?_, fun x o h n => b.keep x o (a.keep x o h n) (a.notin h n), fun i o h f => ?_, fun i o h => ?_⟩
  · obtain ⟨t, q, f⟩ := a.pre
    obtain ⟨t', q', f'⟩ := b.pre
    refine ⟨t ++ t', by rw [q', q, List.append_assoc], fun x hx => ?_⟩
    rcases List.mem_append.mp hx with z | z
    · exact f x z
    · have hm : x ∉ c.m := fun w => (f' x z).2 (by rw [q]; exact List.mem_append_left _ w)
      refine ⟨?_, hm⟩
      cases h : c.H x with
      | none => rfl
      | some o =>
        have := a.keep x o h hm
        rw [(f' x z).1] at this; cases this
  · obtain ⟨h1, k1⟩ := a.fz i o h f
    obtain ⟨h2, k2⟩ := b.fz i o h1 f
    exact ⟨h2, fun x hx => by rw [k2 x (a.get hx), k1 x hx]⟩
  · obtain ⟨o1, h1, e1⟩ := a.kd i o h
    obtain ⟨o2, h2, e2⟩ := b.kd i o1 h1
    exact ⟨o2, h2, e2.trans e1⟩

section
variable {Z : Ab} {c c' : Cf}
/-- what stands at an address of the own heap -/
theorem Sim.at (S : Sim Z c) {i : Nat} {a : Addr} (h : c.m[i]? = some a) : ∃ o, c.h[i]? = some o ∧ OR Z c.m c.H o a := by
  have hl := (List.getElem?_eq_some_iff.mp h).1
  rw [S.len] at hl
  exact ⟨_, List.getElem?_eq_getElem hl, S.ob i _ a (List.getElem?_eq_getElem hl) h⟩
theorem Sim.addr (S : Sim Z c) {i : Nat} {o : Ev.Obj} (h : c.h[i]? = some o) : ∃ a, c.m[i]? = some a ∧ OR Z c.m c.H o a := by
  have hl := (List.getElem?_eq_some_iff.mp h).1
  rw [← S.len] at hl
  exact ⟨_, List.getElem?_eq_getElem hl, S.ob i _ _ h (List.getElem?_eq_getElem hl)⟩
theorem OR.some {m : List Addr} {H : L2.Hp} {o : Ev.Obj} {a : Addr} (h : OR Z m H o a) : ∃ u, H a = some u ∧ (∀ xs, u ≠ .tup xs) ∧ (∀ ob xs, u ≠ .frz ob (.tup xs)) := by
  cases o with
  | list b vs =>
    cases b with
    | false => obtain ⟨us, _, e⟩ := h; exact ⟨_, e, (fun _ z => by cases z), (fun _ _ z => by cases z)⟩
    | true => obtain ⟨us, o, _, e⟩ := h; exact ⟨_, e, (fun _ z => by cases z), (fun _ _ z => by cases z)⟩
  | dict b vs =>
    cases b with
    | false => obtain ⟨us, _, e⟩ := h; exact ⟨_, e, (fun _ z => by cases z), (fun _ _ z => by cases z)⟩
    | true => obtain ⟨us, o, _, e⟩ := h; exact ⟨_, e, (fun _ z => by cases z), (fun _ _ z => by cases z)⟩
  | inst k fs => obtain ⟨C, dx, us, _, _, e⟩ := h; exact ⟨_, e, (fun _ z => by cases z), (fun _ _ z => by cases z)⟩
/-- a tuple is none of the own heap's objects -/
theorem Sim.noTup (S : Sim Z c) {a : Addr} {u : HO} (h : c.H a = some u) (q : (∃ xs, u = .tup xs) ∨ ∃ ob xs, u = .frz ob (.tup xs)) : a ∉ c.m := by
  intro z
  obtain ⟨i, hi⟩ := List.mem_iff_getElem?.mp z
  obtain ⟨o, _, r⟩ := S.at hi
  obtain ⟨u', e, n1, n2⟩ := r.some
  rw [h] at e; cases e
  rcases q with ⟨xs, e⟩ | ⟨ob, xs, e⟩
  · exact n1 xs e
  · exact n2 ob xs e
theorem Ext.sqT (S : Sim Z c) (e : Ext c c') {K : PySem.W.Frag} {a : Addr} {us : List V} (h : SqT K c.H a us) : SqT K c'.H a us := by
  rcases h with (h | ⟨o, h⟩) | h
  · exact .inl (.inl (e.keep _ _ h (S.noTup h (.inl ⟨_, rfl⟩))))
  · exact .inl (.inr ⟨o, e.keep _ _ h (S.noTup h (.inr ⟨_, _, rfl⟩))⟩)
  · exact .inr h
mutual
theorem VR.mono (S : Sim Z c) (e : Ext c c') : ∀ {v : Ev.Val} {u : V}, VR Z c.m c.H v u → VR Z c'.m c'.H v u
  | _, _, .non => .non
  | _, _, .bl b => .bl b
  | _, _, .int i => .int i
  | _, _, .str s h => .str s h
  | _, _, .tup h r => .tup (e.sqT S h) (VRs.mono S e r)
  | _, _, .ref h => .ref (e.get h)
  | _, _, .cls h => .cls h
theorem VRs.mono (S : Sim Z c) (e : Ext c c') : ∀ {vs : List Ev.Val} {us : List V}, VRs Z c.m c.H vs us → VRs Z c'.m c'.H vs us
  | _, _, .nil => .nil
  | _, _, .cons a b => .cons (VR.mono S e a) (VRs.mono S e b)
end
theorem KVR.mono (S : Sim Z c) (e : Ext c c') : ∀ {vs : List (Ev.Val × Ev.Val)} {us : List (Key × V)}, KVR Z c.m c.H vs us → KVR Z c'.m c'.H vs us
  | _, _, .nil => .nil
  | _, _, .cons k a b => .cons k (a.mono S e) (KVR.mono S e b)
theorem FR.mono (S : Sim Z c) (e : Ext c c') : ∀ {vs : List (Nat × Ev.Val)} {us : List (Str × V)}, FR Z c.m c.H vs us → FR Z c'.m c'.H vs us
  | _, _, .nil => .nil
  | _, _, .cons k a b => .cons k (a.mono S e) (FR.mono S e b)
/-- an object's relation goes over where its own address is kept -/
theorem OR.mono (S : Sim Z c) (e : Ext c c') {o : Ev.Obj} {a : Addr} (h : OR Z c.m c.H o a) (k : c'.H a = c.H a) : OR Z c'.m c'.H o a := by
  cases o with
  | list b vs =>
    cases b with
    | false => obtain ⟨us, r, q⟩ := h; exact ⟨us, r.mono S e, k.trans q⟩
    | true => obtain ⟨us, o, r, q⟩ := h; exact ⟨us, o, r.mono S e, k.trans q⟩
  | dict b vs =>
    cases b with
    | false => obtain ⟨us, r, q⟩ := h; exact ⟨us, r.mono S e, k.trans q⟩
    | true => obtain ⟨us, o, r, q⟩ := h; exact ⟨us, o, r.mono S e, k.trans q⟩
  | inst i fs => obtain ⟨C, dx, us, hc, r, q⟩ := h; exact ⟨C, dx, us, hc, r.mono S e, k.trans q⟩
/-- something that is none of the own heap's objects is laid at a new address (a tuple, a list that is being made) -/
theorem Sim.aside (S : Sim Z c) {p : Addr} {u : HO} (n : c.H p = none) : Sim Z ⟨c.m, c.h, upd c.H p u⟩ ∧ Ext c ⟨c.m, c.h, upd c.H p u⟩ := by
  have E : Ext c ⟨c.m, c.h, upd c.H p u⟩ := ⟨⟨[], by simp⟩, fun b o h _ => by show upd c.H p u b = _; rw [upd_ne (ne_of_none h n)]; exact h, fun i o h f => ⟨h, fun a ha => by
    obtain ⟨o', _, r⟩ := S.at ha
    obtain ⟨u', e, _⟩ := r.some
    show upd c.H p u a = _
    rw [upd_ne (ne_of_none e n)]⟩, fun i o h => ⟨o, h, rfl⟩⟩
  refine ⟨⟨S.len, S.nd, fun i o a h ha => ?_⟩, E⟩
  have r := S.ob i o a h ha
  obtain ⟨u', e, _⟩ := r.some
  refine r.mono S E ?_
  show upd c.H p u a = _
  rw [upd_ne (ne_of_none e n)]
/-- a new object of the own heap -/
theorem Sim.laid (S : Sim Z c) {p : Addr} {u : HO} {o : Ev.Obj} (n : c.H p = none) (r : OR Z (c.m ++ [p]) (upd c.H p u) o p) : Sim Z ⟨c.m ++ [p], c.h ++ [o], upd c.H p u⟩ ∧ Ext c ⟨c.m ++ [p], c.h ++ [o], upd c.H p u⟩ := by
  have hp : p ∉ c.m := fun z => by
    obtain ⟨i, hi⟩ := List.mem_iff_getElem?.mp z
    obtain ⟨o, _, r⟩ := S.at hi
    obtain ⟨u', e, _⟩ := r.some
    rw [n] at e; cases e
  have E : Ext c ⟨c.m ++ [p], c.h ++ [o], upd c.H p u⟩ := by
    refine ⟨⟨[p], rfl, fun a ha => ?_⟩, fun b q h _ => ?_, fun i q h f => ⟨?_, fun a ha => ?_⟩, fun i q h => ⟨q, by show (c.h ++ [o])[i]? = _; rw [List.getElem?_append_left (List.getElem?_eq_some_iff.mp h).1]; exact h, rfl⟩⟩
    · simp only [List.mem_singleton] at ha; subst ha; exact ⟨n, hp⟩
    · show upd c.H p u b = _; rw [upd_ne (ne_of_none h n)]; exact h
    · show (c.h ++ [o])[i]? = _
      rw [List.getElem?_append_left (List.getElem?_eq_some_iff.mp h).1]; exact h
    · obtain ⟨o', _, r⟩ := S.at ha
      obtain ⟨u', e, _⟩ := r.some
      show upd c.H p u a = _
      rw [upd_ne (ne_of_none e n)]
  refine ⟨⟨by simp [S.len], ?_, fun i q a h ha => ?_⟩, E⟩
  · show (c.m ++ [p]).Nodup
    rw [List.nodup_append]
    refine ⟨S.nd, by simp, fun x hx y hy => ?_⟩
    simp only [List.mem_singleton] at hy
    subst hy
    rintro rfl
    exact hp hx
  · by_cases hi : i < c.h.length
    · have h' : c.h[i]? = some q := by rw [← List.getElem?_append_left hi (l₂ := [o])]; exact h
      have ha' : c.m[i]? = some a := by rw [← List.getElem?_append_left (by rw [S.len]; exact hi) (l₂ := [p])]; exact ha
      have r' := S.ob i q a h' ha'
      obtain ⟨u', e, _⟩ := r'.some
      exact r'.mono S E (by show upd c.H p u a = _; rw [upd_ne (ne_of_none e n)])
    · have hl := (List.getElem?_eq_some_iff.mp h).1
      have hi2 : i = c.h.length := by simp at hl; omega
      subst hi2
      have h2 : (c.h ++ [o])[c.h.length]? = some o := by simp
      have h3 : (c.m ++ [p])[c.h.length]? = some p := by rw [← S.len]; simp
      have e1 : o = q := Option.some.inj (h2.symm.trans h)
      have e2 : p = a := Option.some.inj (h3.symm.trans ha)
      subst e1 e2
      exact r
/-- an object of the own heap is written -/
theorem Sim.write (S : Sim Z c) {i : Nat} {p : Addr} {u : HO} {o o' : Ev.Obj} (h : c.h[i]? = some o) (hp : c.m[i]? = some p) (nf : isFr o = false) (kd : kindO o' = kindO o) (r : ∀ c' : Cf, c'.m = c.m → c'.H = upd c.H p u → Ext c c' → OR Z c.m (upd c.H p u) o' p) :
    Sim Z ⟨c.m, c.h.set i o', upd c.H p u⟩ ∧ Ext c ⟨c.m, c.h.set i o', upd c.H p u⟩ := by
  have hpm : p ∈ c.m := List.mem_of_getElem? hp
  have E : Ext c ⟨c.m, c.h.set i o', upd c.H p u⟩ := by
    refine ⟨⟨[], by simp⟩, fun b q hb hm => ?_, fun j q hj f => ?_, fun j q hj => ?_⟩
    · show upd c.H p u b = _
      rw [upd_ne (show b ≠ p from fun e => hm (by rw [e]; exact hpm))]; exact hb
    · have ne : i ≠ j := by
        rintro rfl
        rw [h] at hj; cases hj
        rw [nf] at f; cases f
      refine ⟨by show (c.h.set i o')[j]? = _; rw [List.getElem?_set_ne ne]; exact hj, fun a ha => ?_⟩
      show upd c.H p u a = _
      rw [upd_ne]
      rintro rfl
      exact ne ((List.getElem?_inj (by exact (List.getElem?_eq_some_iff.mp hp).1) S.nd).mp (hp.trans ha.symm))
    · show ∃ o'', (c.h.set i o')[j]? = some o'' ∧ _
      by_cases ne : i = j
      · subst ne
        rw [h] at hj; cases hj
        exact ⟨o', List.getElem?_set_self (List.getElem?_eq_some_iff.mp h).1, kd⟩
      · exact ⟨q, by rw [List.getElem?_set_ne ne]; exact hj, rfl⟩
  refine ⟨⟨by simp [S.len], S.nd, fun j q a hj ha => ?_⟩, E⟩
  by_cases ne : i = j
  · subst ne
    have hl : i < c.h.length := (List.getElem?_eq_some_iff.mp h).1
    have e1 : q = o' := by
      have : (c.h.set i o')[i]? = some o' := by rw [List.getElem?_set_self hl]
      exact Option.some.inj (hj.symm.trans this)
    have e2 : a = p := Option.some.inj (ha.symm.trans hp)
    subst e1 e2
    exact r ⟨c.m, c.h.set i q, upd c.H a u⟩ rfl rfl E
  · have hj' : c.h[j]? = some q := by rw [← List.getElem?_set_ne ne (a := o')]; exact hj
    have r' := S.ob j q a hj' ha
    refine r'.mono S E ?_
    show upd c.H p u a = _
    rw [upd_ne]
    rintro rfl
    exact ne ((List.getElem?_inj (by exact (List.getElem?_eq_some_iff.mp hp).1) S.nd).mp (hp.trans ha.symm))
theorem VRs.length {m : List Addr} {H : L2.Hp} : ∀ {vs : List Ev.Val} {us : List V}, VRs Z m H vs us → vs.length = us.length
  | _, _, .nil => rfl
  | _, _, .cons _ b => by simp [VRs.length b]
theorem VRs.append {m : List Addr} {H : L2.Hp} : ∀ {vs ws : List Ev.Val} {us zs : List V}, VRs Z m H vs us → VRs Z m H ws zs → VRs Z m H (vs ++ ws) (us ++ zs)
  | _, _, _, _, .nil, r => r
  | _, _, _, _, .cons a b, r => .cons a (VRs.append b r)
theorem VRs.get {m : List Addr} {H : L2.Hp} : ∀ {vs : List Ev.Val} {us : List V} {i : Nat} {v : Ev.Val}, VRs Z m H vs us → vs[i]? = some v → ∃ u, us[i]? = some u ∧ VR Z m H v u
  | _, _, _, _, .nil, e => by simp at e
  | _, _, 0, _, .cons a _, e => by simp at e; subst e; exact ⟨_, rfl, a⟩
  | _, _, i + 1, _, .cons _ b, e => by simp at e; obtain ⟨u, q, r⟩ := VRs.get b e; exact ⟨u, by simpa using q, r⟩
theorem VRs.take {m : List Addr} {H : L2.Hp} : ∀ {vs : List Ev.Val} {us : List V} (n : Nat), VRs Z m H vs us → VRs Z m H (vs.take n) (us.take n)
  | _, _, 0, _ => by simp; exact .nil
  | _, _, _ + 1, .nil => by simp; exact .nil
  | _, _, n + 1, .cons a b => by simp; exact .cons a (VRs.take n b)
theorem VRs.drop {m : List Addr} {H : L2.Hp} : ∀ {vs : List Ev.Val} {us : List V} (n : Nat), VRs Z m H vs us → VRs Z m H (vs.drop n) (us.drop n)
  | _, _, 0, r => by simpa using r
  | _, _, _ + 1, .nil => by simp; exact .nil
  | _, _, n + 1, .cons a b => by simp; exact VRs.drop n b
theorem VRs.set {m : List Addr} {H : L2.Hp} {x : Ev.Val} {y : V} (r : VR Z m H x y) : ∀ {vs : List Ev.Val} {us : List V} (n : Nat), VRs Z m H vs us → VRs Z m H (vs.set n x) (us.set n y)
  | _, _, _, .nil => by simp; exact .nil
  | _, _, 0, .cons a b => by simp; exact .cons r b
  | _, _, n + 1, .cons a b => by simp; exact .cons a (VRs.set r n b)
end
end Sd

set_option Elab.async false
set_option maxRecDepth 100000
set_option maxHeartbeats 4000000
/-! EvS2: results against wishes; operators by values -/
namespace Sd
open PySem PySem.Spec PyProof.Rows L2
section
variable {Z : Ab} {c c' : Cf}
def Fit (Z : Ab) (c : Cf) {α : Type} (r : Ev.R α) (Q : α → Cf → Prop) : Prop := match r with
  | .ok a h' => ∀ m' H', Sim Z ⟨m', h', H'⟩ → Ext c ⟨m', h', H'⟩ → Q a ⟨m', h', H'⟩
  | .exc _ _ => False
  | .stuck => False
theorem Fit.bind {α β : Type} {r : Ev.R α} {f : α → Ev.Hp → Ev.R β} {Q : β → Cf → Prop} (h : Fit Z c (r.bind f) Q) : Fit Z c r (fun a c' => Fit Z c' (f a c'.h) Q) := by
  cases r with
  | ok a h' =>
    intro m' H' S E
    have h1 : Fit Z c (f a h') Q := h
    show Fit Z _ (f a h') Q
    cases q : f a h' with
    | ok b h2 =>
      rw [q] at h1
      exact fun m2 H2 S2 E2 => h1 m2 H2 S2 (E.trans E2)
    | exc _ _ => rw [q] at h1; exact h1
    | stuck => rw [q] at h1; exact h1
  | exc _ _ => exact h
  | stuck => exact h
theorem Fit.base {α : Type} {r : Ev.R α} {Q : α → Cf → Prop} (E : Ext c c') (h : Fit Z c r Q) : Fit Z c' r Q := by
  cases r with
  | ok a h' => exact fun m' H' S E' => h m' H' S (E.trans E')
  | exc _ _ => exact h
  | stuck => exact h
theorem Fit.imp {α : Type} {r : Ev.R α} {Q Q' : α → Cf → Prop} (h : Fit Z c r Q) (k : ∀ a c', Sim Z c' → Ext c c' → Q a c' → Q' a c') : Fit Z c r Q' := by
  cases r with
  | ok a h' => exact fun m' H' S E => k _ _ S E (h m' H' S E)
  | exc _ _ => exact h
  | stuck => exact h
theorem Fit.guard {α : Type} {b : Bool} {r : Ev.R α} {Q : α → Cf → Prop} (h : Fit Z c (Ev.guard b r) Q) : b = true ∧ Fit Z c r Q := by
  unfold Ev.guard at h
  split at h
  · exact ⟨by assumption, h⟩
  · exact h.elim
theorem Fit.opt {α : Type} {o : Option α} {Q : α → Cf → Prop} (h : Fit Z c (Ev.R.some c.h o) Q) : ∃ a, o = Option.some a ∧ Fit Z c (Ev.R.ok a c.h) Q := by
  cases o with
  | none => exact h.elim
  | some a => exact ⟨a, rfl, h⟩
/-- what is wished of a value -/
abbrev VQ (Z : Ab) (Q : VK) : Ev.Val → Cf → Prop := fun v c' => ∀ u, VR Z c'.m c'.H v u → Q u c'.H
theorem Fit.ok {α : Type} {a : α} {Q : α → Cf → Prop} (S : Sim Z c) (h : Fit Z c (Ev.R.ok a c.h) Q) : Q a c := h c.m c.H S (Ext.refl c)
theorem Fit.val {v : Ev.Val} {u : V} {Q : VK} (S : Sim Z c) (h : Fit Z c (Ev.R.ok v c.h) (VQ Z Q)) (r : VR Z c.m c.H v u) : Q u c.H := h.ok S u r
theorem ext_laid (S : Sim Z c) {p : Addr} {u : HO} (o : Ev.Obj) (n : c.H p = none) : Ext c ⟨c.m ++ [p], c.h ++ [o], upd c.H p u⟩ := by
  have hp : p ∉ c.m := fun z => by
    obtain ⟨i, hi⟩ := List.mem_iff_getElem?.mp z
    obtain ⟨o, _, r⟩ := S.at hi
    obtain ⟨u', e, _⟩ := r.some
    rw [n] at e; cases e
  refine ⟨⟨[p], rfl, fun a ha => ?_⟩, fun b q h _ => ?_, fun i q h f => ⟨?_, fun a ha => ?_⟩, fun i q h => ⟨q, by show (c.h ++ [o])[i]? = _; rw [List.getElem?_append_left (List.getElem?_eq_some_iff.mp h).1]; exact h, rfl⟩⟩
  · simp only [List.mem_singleton] at ha; subst ha; exact ⟨n, hp⟩
  · show upd c.H p u b = _; rw [upd_ne (ne_of_none h n)]; exact h
  · show (c.h ++ [o])[i]? = _
    rw [List.getElem?_append_left (List.getElem?_eq_some_iff.mp h).1]; exact h
  · obtain ⟨o', _, r⟩ := S.at ha
    obtain ⟨u', e, _⟩ := r.some
    show upd c.H p u a = _
    rw [upd_ne (ne_of_none e n)]
theorem Sim.lst (S : Sim Z c) {p : Addr} {vs : List Ev.Val} {us : List V} (r : VRs Z c.m c.H vs us) (n : c.H p = none) : Sim Z ⟨c.m ++ [p], c.h ++ [.list false vs], upd c.H p (.lst us)⟩ :=
  (S.laid (o := .list false vs) n ⟨us, r.mono S (ext_laid S (.list false vs) n), upd_same⟩).1
theorem Sim.dct (S : Sim Z c) {p : Addr} {vs : List (Ev.Val × Ev.Val)} {us : List (Key × V)} (r : KVR Z c.m c.H vs us) (n : c.H p = none) : Sim Z ⟨c.m ++ [p], c.h ++ [.dict false vs], upd c.H p (.dK us)⟩ :=
  (S.laid (o := .dict false vs) n ⟨us, r.mono S (ext_laid S (.dict false vs) n), upd_same⟩).1
theorem newRef (S : Sim Z c) (p : Addr) (H : L2.Hp) : VR Z (c.m ++ [p]) H (.ref c.h.length) (.ref p) := .ref (by rw [← S.len]; simp)
theorem Fit.newList {vs : List Ev.Val} {us : List V} {Q : VK} (S : Sim Z c) (h : Fit Z c (Ev.alloc (.list false vs) c.h) (VQ Z Q)) (r : VRs Z c.m c.H vs us) {p : Addr} (n : c.H p = none) : Q (.ref p) (upd c.H p (.lst us)) :=
  h _ _ (S.lst r n) (ext_laid S _ n) _ (newRef S p _)
theorem Fit.newDict {vs : List (Ev.Val × Ev.Val)} {us : List (Key × V)} {Q : VK} (S : Sim Z c) (h : Fit Z c (Ev.alloc (.dict false vs) c.h) (VQ Z Q)) (r : KVR Z c.m c.H vs us) {p : Addr} (n : c.H p = none) : Q (.ref p) (upd c.H p (.dK us)) :=
  h _ _ (S.dct r n) (ext_laid S _ n) _ (newRef S p _)
theorem Fit.newTup {vs : List Ev.Val} {us : List V} {Q : VK} (S : Sim Z c) (h : Fit Z c (Ev.R.ok (.tup vs) c.h) (VQ Z Q)) (r : VRs Z c.m c.H vs us) {p : Addr} (n : c.H p = none) : Q (.ref p) (upd c.H p (.tup us)) := by
  obtain ⟨S1, E1⟩ := S.aside (u := .tup us) n
  exact h c.m _ S1 E1 _ (.tup (SqT.of upd_same) (r.mono S E1))
/-- reading the own heap's lists, dicts -/
theorem Sim.listAt (S : Sim Z c) {i : Nat} {a : Addr} {b : Bool} {vs : List Ev.Val} (h : c.h[i]? = some (.list b vs)) (ha : c.m[i]? = some a) : ∃ us, VRs Z c.m c.H vs us ∧ SqL Z.K c.H a us := by
  have r := S.ob i _ a h ha
  cases b with
  | false => obtain ⟨us, r, e⟩ := r; exact ⟨us, r, .inl (.inl e)⟩
  | true => obtain ⟨us, o, r, e⟩ := r; exact ⟨us, r, .inl (.inr ⟨o, e⟩)⟩
theorem Sim.listW (S : Sim Z c) {i : Nat} {a : Addr} {vs : List Ev.Val} (h : c.h[i]? = some (.list false vs)) (ha : c.m[i]? = some a) : ∃ us, VRs Z c.m c.H vs us ∧ c.H a = some (.lst us) := S.ob i _ a h ha
theorem Sim.dictW (S : Sim Z c) {i : Nat} {a : Addr} {vs : List (Ev.Val × Ev.Val)} (h : c.h[i]? = some (.dict false vs)) (ha : c.m[i]? = some a) : ∃ us, KVR Z c.m c.H vs us ∧ c.H a = some (.dK us) := S.ob i _ a h ha
theorem Sim.dictAt (S : Sim Z c) {i : Nat} {a : Addr} {b : Bool} {vs : List (Ev.Val × Ev.Val)} (h : c.h[i]? = some (.dict b vs)) (ha : c.m[i]? = some a) : ∃ us, KVR Z c.m c.H vs us ∧ Rd c.H a (.dK us) := by
  have r := S.ob i _ a h ha
  cases b with
  | false => obtain ⟨us, r, e⟩ := r; exact ⟨us, r, .inl e⟩
  | true => obtain ⟨us, o, r, e⟩ := r; exact ⟨us, r, .inr ⟨o, e⟩⟩
theorem Fit.setList {i : Nat} {a : Addr} {vs ws : List Ev.Val} {us zs : List V} {α : Type} {x : α} {Q : α → Cf → Prop} (S : Sim Z c) (hi : c.h[i]? = some (.list false vs)) (ha : c.m[i]? = some a) (h : Fit Z c (Ev.R.ok x (c.h.set i (.list false ws))) Q) (r : VRs Z c.m c.H ws zs) :
    Q x ⟨c.m, c.h.set i (.list false ws), upd c.H a (.lst zs)⟩ := by
  obtain ⟨S1, E1⟩ := S.write (o' := .list false ws) (u := .lst zs) hi ha rfl rfl fun c' e1 e2 E => by
    have := r.mono S E
    rw [e1, e2] at this
    exact ⟨zs, this, upd_same⟩
  exact h _ _ S1 E1
theorem Fit.setDict {i : Nat} {a : Addr} {vs ws : List (Ev.Val × Ev.Val)} {zs : List (Key × V)} {α : Type} {x : α} {Q : α → Cf → Prop} (S : Sim Z c) (hi : c.h[i]? = some (.dict false vs)) (ha : c.m[i]? = some a) (h : Fit Z c (Ev.R.ok x (c.h.set i (.dict false ws))) Q) (r : KVR Z c.m c.H ws zs) :
    Q x ⟨c.m, c.h.set i (.dict false ws), upd c.H a (.dK zs)⟩ := by
  obtain ⟨S1, E1⟩ := S.write (o' := .dict false ws) (u := .dK zs) hi ha rfl rfl fun c' e1 e2 E => by
    have := r.mono S E
    rw [e1, e2] at this
    exact ⟨zs, this, upd_same⟩
  exact h _ _ S1 E1
end

/-! ### weakest readings -/
section
variable {X : Cx}
def rdE (X : Cx) (e : Expr) : TE := fun σ H Q => ∀ pins s, Inv X pins σ H s → wpAny (model X.prog X.w) X.A (eval e X.env) (EP X pins σ Q) X.xe s
theorem pe_rd {e : Expr} : PE X e (rdE X e) := ⟨fun pins s _ _ _ I h => h pins s I⟩
theorem rdE.of {e : Expr} {t : TE} (p : PE X e t) {σ : L2.St} {H : L2.Hp} {Q : VK} (h : t σ H Q) : rdE X e σ H Q := fun pins s I => p.run pins s σ H Q I h
theorem rdE.imp {e : Expr} {σ : L2.St} {H : L2.Hp} {Q Q' : VK} (h : rdE X e σ H Q) (k : ∀ v H', Q v H' → Q' v H') : rdE X e σ H Q' := fun pins s I =>
  thn (h pins s I) fun _ _ ⟨v, H', I', r, q⟩ => ⟨v, H', I', r, k v H' q⟩
def rdT (X : Cx) (e : Expr) : TT := fun σ H Q => ∀ pins s, Inv X pins σ H s → wpAny (model X.prog X.w) X.A (isTrue e X.env (eval e X.env)) (TP X pins σ Q) X.xe s
theorem pt_rd {e : Expr} : PT X e (rdT X e) := ⟨fun pins s _ _ _ I h => h pins s I⟩
theorem rdT.of {e : Expr} {t : TT} (p : PT X e t) {σ : L2.St} {H : L2.Hp} {Q : Bool → L2.Hp → Prop} (h : t σ H Q) : rdT X e σ H Q := fun pins s I => p.run pins s σ H Q I h
def rdW (X : Cx) (e : Expr) : TT := fun σ H Q => ∀ whole pins s, Inv X pins σ H s → wpAny (model X.prog X.w) X.A (isTrue e X.env whole) (TP X pins σ Q) X.xe s
theorem pw_rd {e : Expr} : PW X e (rdW X e) := ⟨fun w pins s _ _ _ I h => h w pins s I⟩
theorem rdW.of {e : Expr} {t : TT} (p : PW X e t) {σ : L2.St} {H : L2.Hp} {Q : Bool → L2.Hp → Prop} (h : t σ H Q) : rdW X e σ H Q := fun w pins s I => p.run w pins s σ H Q I h
def rdA (X : Cx) (es : List Expr) : TA := fun σ H Q => ∀ pos pins s, Inv X pins σ H s → wpAny (model X.prog X.w) X.A (spliced (backTo pos (starEach es X.env))) (AP X pins σ Q) X.xe s
theorem pa_rd {es : List Expr} : PA X es (rdA X es) := ⟨fun pos pins s _ _ _ I h => h pos pins s I⟩
theorem rdA.of {es : List Expr} {t : TA} (p : PA X es t) {σ : L2.St} {H : L2.Hp} {Q : List V → L2.Hp → Prop} (h : t σ H Q) : rdA X es σ H Q := fun pos pins s I => p.run pos pins s σ H Q I h
def rdS (X : Cx) (st : Stmt) : TS := fun D σ H => ∀ pins s, Inv X pins σ H s → wpAny (model X.prog X.w) X.A (exec st X.env) (SP X pins D) X.xe s
theorem ps_rd {st : Stmt} : PS X st (rdS X st) := ⟨fun pins s _ _ _ I h => h pins s I⟩
theorem rdS.of {st : Stmt} {t : TS} (p : PS X st t) {σ : L2.St} {H : L2.Hp} {D : Ends} (h : t D σ H) : rdS X st D σ H := fun pins s I => p.run pins s σ H D I h
def rdSs (X : Cx) (st : List Stmt) : TS := fun D σ H => ∀ pins s, Inv X pins σ H s → wpAny (model X.prog X.w) X.A (execs st X.env) (SP X pins D) X.xe s
theorem pss_rd {st : List Stmt} : PSs X st (rdSs X st) := ⟨fun pins s _ _ _ I h => h pins s I⟩
theorem rdSs.of {st : List Stmt} {t : TS} (p : PSs X st t) {σ : L2.St} {H : L2.Hp} {D : Ends} (h : t D σ H) : rdSs X st D σ H := fun pins s I => p.run pins s σ H D I h
def rdG (X : Cx) (tg : Expr) : TG := fun v σ H Q => ∀ pins s u, Inv X pins σ H s → RelV v u → wpAny (model X.prog X.w) X.A (assign tg X.env u) (fun _ s' => ∃ σ' H', Inv X pins σ' H' s' ∧ Q σ' H') X.xe s
theorem pg_rd {tg : Expr} : PG X tg (rdG X tg) := ⟨fun pins s _ _ _ u _ I r h => h pins s u I r⟩
theorem rdG.of {tg : Expr} {t : TG} (p : PG X tg t) {v : V} {σ : L2.St} {H : L2.Hp} {Q : L2.St → L2.Hp → Prop} (h : t v σ H Q) : rdG X tg v σ H Q := fun pins s u I r => p.run pins s σ H v u Q I r h
def rdOp (X : Cx) (f : Value → Value → Sem Value) : R2 := fun x y H Q => ∀ pins s σ v u, Inv X pins σ H s → RelV x v → RelV y u → wpAny (model X.prog X.w) X.A (f v u) (EP X pins σ Q) X.xe s
theorem opr_rd {f : Value → Value → Sem Value} : OpR X f (rdOp X f) := fun pins s σ _ _ _ v u _ I rx ry h => h pins s σ v u I rx ry
theorem rdOp.of {f : Value → Value → Sem Value} {r : R2} (p : OpR X f r) {x y : V} {H : L2.Hp} {Q : VK} (h : r x y H Q) : rdOp X f x y H Q := fun pins s σ v u I rx ry => p pins s σ H x y v u Q I rx ry h
def rdUn (X : Cx) (f : Value → Sem Value) : V → L2.Hp → VK → Prop := fun x H Q => ∀ pins s σ v, Inv X pins σ H s → RelV x v → wpAny (model X.prog X.w) X.A (f v) (EP X pins σ Q) X.xe s
theorem rdUn.of {f : Value → Sem Value} {r : V → L2.Hp → VK → Prop} (p : UnR X f r) {x : V} {H : L2.Hp} {Q : VK} (h : r x H Q) : rdUn X f x H Q := fun pins s σ v I rx => p pins s σ H x v Q I rx h
def rdC (X : Cx) (f : Value) : List V → L2.Hp → VK → Prop := fun xs H Q => ∀ pins s σ us, Inv X pins σ H s → Vals xs us → wpAny (model X.prog X.w) X.A (call f us) (EP X pins σ Q) X.xe s
theorem callr_rd {f : Value} : CallR X f (rdC X f) := fun pins s σ _ _ us _ I r h => h pins s σ us I r
theorem rdC.of {f : Value} {r : List V → L2.Hp → VK → Prop} (p : CallR X f r) {xs : List V} {H : L2.Hp} {Q : VK} (h : r xs H Q) : rdC X f xs H Q := fun pins s σ us I rx => p pins s σ H xs us Q I rx h
def rdM (X : Cx) (id : String) : V → List V → L2.Hp → VK → Prop := fun x xs H Q => ∀ pins s σ v us, Inv X pins σ H s → RelV x v → Vals xs us → wpAny (model X.prog X.w) X.A (call (.builtin id) (v :: us)) (EP X pins σ Q) X.xe s
theorem mtr_rd {id : String} : MtR X id (rdM X id) := fun pins s σ _ _ _ v us _ I r r' h => h pins s σ v us I r r'
theorem rdM.of {id : String} {r : V → List V → L2.Hp → VK → Prop} (p : MtR X id r) {x : V} {xs : List V} {H : L2.Hp} {Q : VK} (h : r x xs H Q) : rdM X id x xs H Q := fun pins s σ v us I rx rxs => p pins s σ H x xs v us Q I rx rxs h
def rdIx (X : Cx) : R2 := fun x y H Q => ∀ value slice pins s σ v u, Inv X pins σ H s → RelV x v → RelV y u → subscripted slice false v u = operate [v, u] (getItem v u) → wpAny (model X.prog X.w) X.A (subscriptTail value slice v u) (EP X pins σ Q) X.xe s
theorem ixr_rd : IxR X (rdIx X) := fun value slice pins s σ _ _ _ v u _ I r r' h e => h value slice pins s σ v u I r r' e
theorem rdIx.of {r : R2} (p : IxR X r) {x y : V} {H : L2.Hp} {Q : VK} (h : r x y H Q) : rdIx X x y H Q := fun value slice pins s σ v u I rx ry e => p value slice pins s σ H x y v u Q I rx ry h e
end

/-! ### texts -/
theorem asTx_len (s : Ev.Tx) : (asTx s).length = s.length := by show s.toArray.size = _; simp
theorem asTx_app (s t : Ev.Tx) : asTx s ++ asTx t = asTx (s ++ t) := by
  show (⟨s.toArray ++ t.toArray⟩ : Str) = _
  unfold asTx; simp
theorem asTx_inj {s t : Ev.Tx} (h : asTx s = asTx t) : s = t := by
  have := congrArg (fun z : Str => z.cps.toList) h
  simpa [asTx] using this
theorem asTx_eq (s t : Ev.Tx) : (asTx s == asTx t) = (s == t) := by
  by_cases h : s = t
  · subst h; simp
  · have h' : asTx s ≠ asTx t := fun e => h (asTx_inj e)
    rw [beq_eq_false_iff_ne.mpr h, beq_eq_false_iff_ne.mpr h']
theorem asTx_list (s : Ev.Tx) : (asTx s).cps.toList = s := by simp [asTx]

/-! ### operators -/
def opOf : Ev.Bop → Operator
  | .add => .Add | .sub => .Sub | .mul => .Mult | .fdiv => .FloorDiv | .mod => .Mod | .pow => .Pow
section
variable {Z : Ab} {c : Cf} {X : Cx}
theorem lim : (Ev.LIM : Nat) = sizeLine := rfl
theorem mulOk_ok {i j : Int} (h : Ev.mulOk i j = true) : CMul i j := by
  unfold Ev.mulOk at h
  simp only [Bool.or_eq_true, Bool.and_eq_true, decide_eq_true_eq] at h
  exact h
theorem ascii_app {s t : Ev.Tx} (a : ∀ c ∈ s, c < 128) (b : ∀ c ∈ t, c < 128) : ∀ c ∈ s ++ t, c < 128 := fun x hx => (List.mem_append.mp hx).elim (a x) (b x)
theorem VRs.flat {m : List Addr} {H : L2.Hp} {vs : List Ev.Val} {us : List V} (r : VRs Z m H vs us) : ∀ n : Nat, VRs Z m H (List.replicate n vs).flatten (List.replicate n us).flatten
  | 0 => by simp; exact .nil
  | n + 1 => by simp only [List.replicate_succ, List.flatten_cons]; exact r.append (r.flat n)
theorem sBin {op : Ev.Bop} {x y : Ev.Val} {u w : V} {Q : VK} (S : Sim Z c) (rx : VR Z c.m c.H x u) (ry : VR Z c.m c.H y w) (h : Fit Z c (Ev.binCall op x y c.h) (VQ Z Q)) : rdOp X (binaryOp (opOf op)) u w c.H Q := by
  unfold Ev.binCall at h
  split at h
  · cases rx; cases ry
    exact rdOp.of op_add ⟨_, _, rfl, rfl, h.val S (.int _)⟩
  · cases rx with | str _ hs => cases ry with | str _ ht =>
    obtain ⟨g, h⟩ := h.guard
    simp only [decide_eq_true_eq] at g
    refine rdOp.of op_add_str ⟨_, _, rfl, rfl, by rw [asTx_len, asTx_len]; exact g, ?_⟩
    rw [asTx_app]
    exact h.val S (.str _ (ascii_app hs ht))
  · cases rx with | ref ha => cases ry with | ref hb =>
    split at h
    · rename_i q1 q2
      obtain ⟨g, h⟩ := h.guard
      simp only [decide_eq_true_eq] at g
      obtain ⟨us, r1, e1⟩ := S.listW q1 ha
      obtain ⟨zs, r2, e2⟩ := S.listW q2 hb
      exact rdOp.of op_cat ⟨_, _, us, zs, rfl, rfl, e1, e2, by rw [← r1.length, ← r2.length]; exact g, fun p n => h.newList S (r1.append r2) n⟩
    · exact h.elim
  · cases rx; cases ry
    exact rdOp.of op_sub ⟨_, _, rfl, rfl, h.val S (.int _)⟩
  · cases rx; cases ry
    obtain ⟨g, h⟩ := h.guard
    exact rdOp.of op_mul ⟨_, _, rfl, rfl, mulOk_ok g, h.val S (.int _)⟩
  · cases rx with | ref ha => cases ry with | int k =>
    split at h
    · rename_i q1
      obtain ⟨g, h⟩ := h.guard
      simp only [Bool.and_eq_true, decide_eq_true_eq] at g
      obtain ⟨us, r1, e1⟩ := S.listW q1 ha
      exact rdOp.of op_rep ⟨_, _, us, rfl, rfl, e1, g.1.1, g.1.2, by rw [← r1.length]; exact g.2, fun p n => h.newList S (r1.flat _) n⟩
    · exact h.elim
  · cases rx; cases ry
    obtain ⟨g, h⟩ := h.guard
    simp only [Bool.and_eq_true, decide_eq_true_eq] at g
    exact rdOp.of op_fdiv ⟨_, _, rfl, rfl, g, h.val S (.int _)⟩
  · cases rx; cases ry
    obtain ⟨g, h⟩ := h.guard
    simp only [decide_eq_true_eq] at g
    exact rdOp.of op_mod ⟨_, _, rfl, rfl, g, h.val S (.int _)⟩
  · cases rx; cases ry
    obtain ⟨g, h⟩ := h.guard
    simp only [Bool.and_eq_true, decide_eq_true_eq] at g
    exact rdOp.of op_pow ⟨_, _, rfl, rfl, ⟨g.1.1, g.1.2, g.2⟩, h.val S (.int _)⟩
  · exact h.elim
end
end Sd

set_option Elab.async false
set_option maxRecDepth 100000
set_option maxHeartbeats 4000000
/-! EvS3: comparisons, subscripts, built-ins by values -/
namespace Sd
open PySem PySem.Spec PyProof.Rows L2
section
variable {Z : Ab} {c : Cf} {X : Cx}
/-! ### membership -/
theorem scal_flat {m : List Addr} {H : L2.Hp} {v : Ev.Val} {u : V} (r : VR Z m H v u) (h : Ev.isScal v = true) : flatV u = true := by
  cases r <;> first | rfl | (simp [Ev.isScal] at h)
theorem scal_eq {m : List Addr} {H : L2.Hp} {v w : Ev.Val} {u z : V} (r : VR Z m H v u) (r' : VR Z m H w z) (h : Ev.isScal v = true) (h' : Ev.isScal w = true) : eqV u z = Ev.eqS v w := by
  cases r <;> cases r' <;> first | rfl | (simp [Ev.isScal] at h; done) | (simp [Ev.isScal] at h'; done) | (simp only [eqV, Ev.eqS]; exact asTx_eq _ _) | (simp only [eqV, Ev.eqS]; rename_i b _; cases b <;> rfl) | (simp only [eqV, Ev.eqS]; rename_i b; cases b <;> rfl)
theorem mem_any {m : List Addr} {H : L2.Hp} {x : Ev.Val} {u : V} (rx : VR Z m H x u) (hx : Ev.isScal x = true) : ∀ {vs : List Ev.Val} {us : List V}, VRs Z m H vs us → vs.all Ev.isScal = true → us.all flatV = true ∧ inV u us = vs.any fun y => Ev.eqS y x
  | _, _, .nil, _ => ⟨rfl, rfl⟩
  | _, _, .cons a b, h => by
    simp only [List.all_cons, Bool.and_eq_true] at h
    obtain ⟨h1, h2⟩ := mem_any rx hx b h.2
    refine ⟨by simp [scal_flat a h.1, h1], ?_⟩
    show (eqV _ _ || inV _ _) = _
    rw [scal_eq a rx h.1 hx, h2]; rfl
theorem KR.toKey {m : List Addr} {H : L2.Hp} {v : Ev.Val} {u : V} (r : VR Z m H v u) (h : Ev.isKey v = true) : ∃ k, KR v k ∧ u = kV k := by
  cases r with
  | int i => exact ⟨_, .int i, rfl⟩
  | str s hs => exact ⟨_, .str s hs, rfl⟩
  | _ => cases h
theorem KR.eq {x y : Ev.Val} {k l : Key} (a : KR x k) (b : KR y l) : Ev.keyEq x y = decide (k = l) := by
  cases a <;> cases b
  · exact (key_ll _ _).symm
  · exact (key_lr _ _).symm
  · exact (key_rl _ _).symm
  · rename_i s hs t ht
    rw [key_rr]
    show (s == t) = _
    rw [← asTx_eq, Bool.beq_eq_decide_eq]
theorem KVR.look {m : List Addr} {H : L2.Hp} {x : Ev.Val} {k : Key} (rk : KR x k) : ∀ {kvs : List (Ev.Val × Ev.Val)} {us : List (Key × V)}, KVR Z m H kvs us →
    (Ev.look kvs x = none ∧ valV us k = none) ∨ ∃ v u, Ev.look kvs x = some v ∧ valV us k = some u ∧ VR Z m H v u
  | _, _, .nil => .inl ⟨rfl, rfl⟩
  | _, _, .cons (k := y) (k' := l) a b r => by
    have e := KR.eq a rk
    by_cases h : l = k
    · subst h
      rw [decide_eq_true rfl] at e
      refine .inr ⟨_, _, by unfold Ev.look; rw [if_pos e], ?_, b⟩
      unfold valV; simp
    · rw [decide_eq_false h] at e
      rcases KVR.look rk r with ⟨h1, h2⟩ | ⟨v, u, h1, h2, h3⟩
      · refine .inl ⟨by unfold Ev.look; rw [if_neg (by rw [e]; decide)]; exact h1, ?_⟩
        unfold valV at h2 ⊢; simp [h]; simpa using h2
      · refine .inr ⟨v, u, by unfold Ev.look; rw [if_neg (by rw [e]; decide)]; exact h1, ?_, h3⟩
        unfold valV at h2 ⊢; simp [h]; simpa using h2
theorem KVR.any {m : List Addr} {H : L2.Hp} {x : Ev.Val} {k : Key} (rk : KR x k) : ∀ {kvs : List (Ev.Val × Ev.Val)} {us : List (Key × V)}, KVR Z m H kvs us → (kvs.any fun p => Ev.keyEq p.1 x) = us.any fun kv => decide (kv.1 = k)
  | _, _, .nil => rfl
  | _, _, .cons a b r => by simp only [List.any_cons]; rw [KVR.any rk r, KR.eq a rk]
theorem KVR.mapPut {m : List Addr} {H : L2.Hp} {x y : Ev.Val} {k : Key} {u : V} (rk : KR x k) (ry : VR Z m H y u) : ∀ {kvs : List (Ev.Val × Ev.Val)} {us : List (Key × V)}, KVR Z m H kvs us →
    KVR Z m H (kvs.map fun p => if Ev.keyEq p.1 x = true then (p.1, y) else p) (us.map fun kv => if kv.1 = k then (kv.1, u) else kv)
  | _, _, .nil => .nil
  | _, _, .cons (k' := l) a b r => by
    simp only [List.map_cons]
    rw [KR.eq a rk]
    by_cases h : l = k
    · rw [if_pos (decide_eq_true h), if_pos h]; exact .cons a ry (KVR.mapPut rk ry r)
    · rw [if_neg (by simp [h]), if_neg h]; exact .cons a b (KVR.mapPut rk ry r)
theorem KVR.append {m : List Addr} {H : L2.Hp} : ∀ {kvs ws : List (Ev.Val × Ev.Val)} {us zs : List (Key × V)}, KVR Z m H kvs us → KVR Z m H ws zs → KVR Z m H (kvs ++ ws) (us ++ zs)
  | _, _, _, _, .nil, r => r
  | _, _, _, _, .cons a b t, r => .cons a b (KVR.append t r)
theorem KVR.put {m : List Addr} {H : L2.Hp} {x y : Ev.Val} {k : Key} {u : V} (rk : KR x k) (ry : VR Z m H y u) {kvs : List (Ev.Val × Ev.Val)} {us : List (Key × V)} (r : KVR Z m H kvs us) : KVR Z m H (Ev.put kvs x y) (putK us k u) := by
  unfold Ev.put putK
  rw [r.any rk]
  split
  · exact r.mapPut rk ry
  · exact r.append (.cons rk ry .nil)
theorem KVR.drop {m : List Addr} {H : L2.Hp} {x : Ev.Val} {k : Key} (rk : KR x k) : ∀ {kvs : List (Ev.Val × Ev.Val)} {us : List (Key × V)}, KVR Z m H kvs us → KVR Z m H (Ev.drop kvs x) (dropK us k)
  | _, _, .nil => .nil
  | _, _, .cons (k' := l) a b r => by
    have ih := KVR.drop rk r
    unfold Ev.drop dropK at ih ⊢
    simp only [List.filter_cons]
    rw [KR.eq a rk]
    by_cases h : l = k
    · simp only [h, decide_true, Bool.not_true, ne_eq, not_true, decide_false]; exact ih
    · simp only [h, decide_false, Bool.not_false, ne_eq, not_false_eq_true, decide_true]; exact .cons a b ih
theorem KVR.merge {m : List Addr} {H : L2.Hp} : ∀ {ws : List (Ev.Val × Ev.Val)} {zs : List (Key × V)} {kvs : List (Ev.Val × Ev.Val)} {us : List (Key × V)}, KVR Z m H ws zs → KVR Z m H kvs us → KVR Z m H (Ev.putAll kvs ws) (mergeK us zs)
  | _, _, _, _, .nil, r => r
  | _, _, _, _, .cons (k := k) (v := v) (k' := k') (u := u) a b t, r => by
    show KVR Z m H (Ev.putAll (Ev.put _ k v) _) (mergeK (putK _ k' u) _)
    exact KVR.merge t (KVR.put a b r)
theorem KVR.length {m : List Addr} {H : L2.Hp} : ∀ {kvs : List (Ev.Val × Ev.Val)} {us : List (Key × V)}, KVR Z m H kvs us → kvs.length = us.length
  | _, _, .nil => rfl
  | _, _, .cons _ _ r => by simp [KVR.length r]
theorem KR.val {m : List Addr} {H : L2.Hp} {x : Ev.Val} {k : Key} (r : KR x k) : VR Z m H x (kV k) := by
  cases r with
  | int i => exact .int i
  | str s h => exact .str s h
theorem KVR.keys {m : List Addr} {H : L2.Hp} : ∀ {kvs : List (Ev.Val × Ev.Val)} {us : List (Key × V)}, KVR Z m H kvs us → VRs Z m H (kvs.map (·.1)) (us.map fun kv => kV kv.1)
  | _, _, .nil => .nil
  | _, _, .cons a _ r => .cons a.val (KVR.keys r)

/-! ### equality -/
mutual
inductive DR : Ev.D → PyData → Prop
  | non : DR .non .none
  | bl (b : Bool) : DR (.bl b) (.bool b)
  | int (i : Int) : DR (.int i) (.int i)
  | str (s : Ev.Tx) : (∀ c ∈ s, c < 128) → DR (.str s) (.str (asTx s))
  | list {ds : List Ev.D} {es : List PyData} : DRs ds es → DR (.list ds) (.list es)
  | tup {ds : List Ev.D} {es : List PyData} : DRs ds es → DR (.tup ds) (.tuple es)
inductive DRs : List Ev.D → List PyData → Prop
  | nil : DRs [] []
  | cons {d : Ev.D} {e : PyData} {ds : List Ev.D} {es : List PyData} : DR d e → DRs ds es → DRs (d :: ds) (e :: es)
end
mutual
theorem DR.eqv : ∀ {d d' : Ev.D} {e e' : PyData}, DR d e → DR d' e' → PyData.eqv e e' = Ev.D.eqv d d'
  | .non, _, _, _, a, b => by cases a; cases b <;> simp [PyData.eqv, Ev.D.eqv]
  | .bl x, _, _, _, a, b => by cases a; cases b <;> simp [PyData.eqv, Ev.D.eqv, Ev.b2i] <;> cases x <;> rfl
  | .int x, _, _, _, a, b => by cases a; cases b <;> simp [PyData.eqv, Ev.D.eqv, Ev.b2i] <;> (rename_i z; cases z <;> rfl)
  | .str x, _, _, _, a, b => by
    cases a; cases b <;> simp [PyData.eqv, Ev.D.eqv]
    exact asTx_eq _ _
  | .list xs, _, _, _, a, b => by
    cases a with | list p => cases b with
    | list q => simp only [PyData.eqv, Ev.D.eqv]; exact DRs.eqv p q
    | _ => simp [PyData.eqv, Ev.D.eqv]
  | .tup xs, _, _, _, a, b => by
    cases a with | tup p => cases b with
    | tup q => simp only [PyData.eqv, Ev.D.eqv]; exact DRs.eqv p q
    | _ => simp [PyData.eqv, Ev.D.eqv]
theorem DRs.eqv : ∀ {d d' : List Ev.D} {e e' : List PyData}, DRs d e → DRs d' e' → PyData.eqvAll e e' = Ev.D.eqvs d d'
  | [], _, _, _, a, b => by cases a; cases b <;> simp [PyData.eqvAll, Ev.D.eqvs]
  | x :: xs, _, _, _, a, b => by
    cases a with | cons p q => cases b with
    | nil => simp [PyData.eqvAll, Ev.D.eqvs]
    | cons p' q' => simp only [PyData.eqvAll, Ev.D.eqvs]; rw [DR.eqv p p', DRs.eqv q q']
end
mutual
theorem DR.lay : ∀ {d : Ev.D} {e : PyData}, DR d e → e.canLay0 = true
  | _, _, .non => rfl
  | _, _, .bl _ => rfl
  | _, _, .int _ => rfl
  | _, _, .str s h => by
    simp only [PyData.canLay0]
    show (asTx s).cps.all (· < 0x110000) = true
    simp only [asTx, List.all_toArray, List.all_eq_true, decide_eq_true_eq]
    exact fun x hx => Nat.lt_trans (h x hx) (by decide)
  | _, _, .list r => by simp only [PyData.canLay0]; exact DRs.lay r
  | _, _, .tup r => by simp only [PyData.canLay0]; exact DRs.lay r
theorem DRs.lay : ∀ {d : List Ev.D} {e : List PyData}, DRs d e → PyData.canLayAll0 e = true
  | _, _, .nil => rfl
  | _, _, .cons a b => by simp only [PyData.canLayAll0]; rw [DR.lay a, DRs.lay b]; rfl
end
/-- from a value to the library's datum -/
theorem datL_ok {f : Ev.Val → Option Ev.D} {m : List Addr} {H : L2.Hp} {N : Nat} (hf : ∀ v u d, VR Z m H v u → f v = some d → ∃ e, DR d e ∧ Dp Z.K H u e ∧ e.depth ≤ N) : ∀ {vs : List Ev.Val} {us : List V} {ds : List Ev.D}, VRs Z m H vs us → Ev.datL f vs = some ds →
    ∃ es, DRs ds es ∧ DpAll Z.K H us es ∧ ∀ e ∈ es, e.depth ≤ N
  | _, _, _, .nil, h => by cases h; exact ⟨[], .nil, .nil, fun _ z => by cases z⟩
  | _, _, _, .cons (v := v) (vs := vs) a b, h => by
    unfold Ev.datL at h
    split at h
    · rename_i d ds q1 q2
      cases h
      obtain ⟨e, h1, h2, h3⟩ := hf _ _ _ a q1
      obtain ⟨es, h4, h5, h6⟩ := datL_ok hf b q2
      refine ⟨e :: es, .cons h1 h4, .cons h2 h5, fun x hx => ?_⟩
      rcases List.mem_cons.mp hx with rfl | hx
      · exact h3
      · exact h6 x hx
    · cases h
theorem depthAll_le {N : Nat} : ∀ {es : List PyData}, (∀ e ∈ es, e.depth ≤ N) → PyData.depthAll es ≤ N
  | [], _ => by simp [PyData.depthAll]
  | e :: es, h => by
    simp only [PyData.depthAll]
    have h1 := h e (List.mem_cons_self ..)
    have h2 := depthAll_le (es := es) fun x hx => h x (List.mem_cons_of_mem _ hx)
    omega
theorem dat_ok (S : Sim Z c) : ∀ (n : Nat) (v : Ev.Val) (u : V) (d : Ev.D), VR Z c.m c.H v u → Ev.dat n c.h v = some d → ∃ e, DR d e ∧ Dp Z.K c.H u e ∧ e.depth ≤ n
  | 0, _, _, _, _, h => by cases h
  | n + 1, v, u, d, r, h => by
    cases r with
    | non => cases h; exact ⟨_, .non, .non, by simp [PyData.depth]⟩
    | bl b => cases h; exact ⟨_, .bl b, .bl b, by simp [PyData.depth]⟩
    | int i => cases h; exact ⟨_, .int i, .int i, by simp [PyData.depth]⟩
    | str s hs => cases h; exact ⟨_, .str s hs, .str _, by simp [PyData.depth]⟩
    | @tup a vs us hq rs =>
      have h' : (Ev.datL (Ev.dat n c.h) vs).map Ev.D.tup = some d := h
      cases q : Ev.datL (Ev.dat n c.h) vs with
      | none => rw [q] at h'; cases h'
      | some ds =>
        rw [q] at h'; cases h'
        obtain ⟨es, h1, h2, h3⟩ := datL_ok (N := n) (fun v u d => dat_ok S n v u d) rs q
        exact ⟨_, .tup h1, .tup hq h2, by simp only [PyData.depth]; exact Nat.succ_le_succ (depthAll_le h3)⟩
    | @ref i a hi =>
      obtain ⟨o, ho, _⟩ := S.at hi
      have h' : (match c.h[i]? with
        | some (.list _ vs) => (Ev.datL (Ev.dat n c.h) vs).map Ev.D.list
        | _ => none) = some d := h
      rw [ho] at h'
      cases o with
      | list b vs =>
        obtain ⟨us, rs, hq⟩ := S.listAt ho hi
        have h2 : (Ev.datL (Ev.dat n c.h) vs).map Ev.D.list = some d := h'
        cases q : Ev.datL (Ev.dat n c.h) vs with
        | none => rw [q] at h2; cases h2
        | some ds =>
          rw [q] at h2; cases h2
          obtain ⟨es, h1, h2, h3⟩ := datL_ok (N := n) (fun v u d => dat_ok S n v u d) rs q
          exact ⟨_, .list h1, .lst hq h2, by simp only [PyData.depth]; exact Nat.succ_le_succ (depthAll_le h3)⟩
      | dict b kvs => cases h'
      | inst k fs => cases h'
    | cls hc => cases h
theorem shape_ok {d : Ev.D} {e : PyData} (r : DR d e) (h : e.depth ≤ 64) : SeqAt.shaped e = true := by
  unfold SeqAt.shaped
  rw [r.lay]
  simpa using h
/-- == of data -/
theorem sEq {x y : Ev.Val} {u w : V} {b : Bool} {Q : VK} (hK : X.K = Z.K) (hu : X.A.units + 64 < cLine) (S : Sim Z c) (rx : VR Z c.m c.H x u) (ry : VR Z c.m c.H y w) (h : Ev.eqv c.h x y = some b) :
    (Q (.bl b) c.H → rdOp X (compareOp .Eq) u w c.H Q) ∧ (Q (.bl (!b)) c.H → rdOp X (compareOp .NotEq) u w c.H Q) := by
  unfold Ev.eqv at h
  split at h
  · rename_i d e q1 q2
    cases h
    obtain ⟨d', a1, a2, a3⟩ := dat_ok S 64 x u d rx q1
    obtain ⟨e', b1, b2, b3⟩ := dat_ok S 64 y w e ry q2
    rw [← hK] at a2 b2
    rw [← a1.eqv b1]
    exact ⟨fun q => rdOp.of (op_eqD hu) ⟨d', e', a2, b2, shape_ok a1 a3, shape_ok b1 b3, q⟩, fun q => rdOp.of (op_neD hu) ⟨d', e', a2, b2, shape_ok a1 a3, shape_ok b1 b3, q⟩⟩
  · cases h
theorem beq_scal {m : List Addr} {H : L2.Hp} {v w : Ev.Val} {u z : V} (r : VR Z m H v u) (r' : VR Z m H w z) (h : Ev.isScal v = true) (e : Ev.Val.beq v w = true) : u = z ∧ flatB u = true := by
  cases r <;> cases r' <;> first | (simp [Ev.isScal] at h; done) | (simp [Ev.Val.beq] at e; done) | exact ⟨rfl, rfl⟩ | (simp [Ev.Val.beq] at e; subst e; exact ⟨rfl, rfl⟩)
theorem eqDict_ok {m : List Addr} {H : L2.Hp} {ws : List (Ev.Val × Ev.Val)} {zs : List (Key × V)} (rw' : KVR Z m H ws zs) : ∀ {kvs : List (Ev.Val × Ev.Val)} {us : List (Key × V)}, KVR Z m H kvs us → Ev.eqDict ws kvs = true → ∀ p ∈ us, valV zs p.1 = some p.2 ∧ flatB p.2 = true
  | _, _, .nil, _ => fun p hp => by cases hp
  | _, _, .cons a b r, h => by
    unfold Ev.eqDict at h
    split at h
    · cases h
    · rename_i w q
      simp only [Bool.and_eq_true] at h
      rcases rw'.look a with ⟨h1, _⟩ | ⟨v, u, h1, h2, h3⟩
      · rw [q] at h1; cases h1
      · rw [q] at h1; cases h1
        obtain ⟨e1, e2⟩ := beq_scal b h3 h.1.1 h.1.2
        intro p hp
        rcases List.mem_cons.mp hp with rfl | hp
        · exact ⟨by rw [h2, ← e1], e2⟩
        · exact eqDict_ok rw' r h.2 p hp
theorem sEqTop {x y : Ev.Val} {u w : V} {b : Bool} {Q : VK} (hK : X.K = Z.K) (hu : X.A.units + 64 < cLine) (S : Sim Z c) (rx : VR Z c.m c.H x u) (ry : VR Z c.m c.H y w) (h : Ev.eqTop c.h x y = some b) :
    (Q (.bl b) c.H → rdOp X (compareOp .Eq) u w c.H Q) ∧ (Q (.bl (!b)) c.H → rdOp X (compareOp .NotEq) u w c.H Q) := by
  unfold Ev.eqTop at h
  split at h
  · cases rx with | ref ha => cases ry with | ref hb =>
    split at h
    · rename_i q1 q2
      split at h
      · rename_i g
        cases h
        simp only [Bool.and_eq_true, beq_iff_eq] at g
        obtain ⟨us, r1, e1⟩ := S.dictW q1 ha
        obtain ⟨zs, r2, e2⟩ := S.dictW q2 hb
        have hl : us.length = zs.length := by rw [← r1.length, ← r2.length]; exact g.1
        have ha := eqDict_ok r2 r1 g.2
        exact ⟨fun q => rdOp.of (op_eq_dictA (by omega)) ⟨_, _, us, zs, rfl, rfl, e1, e2, hl, ha, q⟩, fun q => rdOp.of (op_ne_dictA (by omega)) ⟨_, _, us, zs, rfl, rfl, e1, e2, hl, ha, q⟩⟩
      · cases h
    · exact sEq hK hu S (.ref ha) (.ref hb) h
  · exact sEq hK hu S rx ry h
/-- membership -/
theorem sIn {x y : Ev.Val} {u w : V} {b : Bool} {Q : VK} (hK : X.K = Z.K) (hu : X.A.units + 64 < cLine) (S : Sim Z c) (rx : VR Z c.m c.H x u) (ry : VR Z c.m c.H y w) (h : Ev.inCall x y c.h = some b) :
    (Q (.bl b) c.H → rdOp X (compareOp .In) u w c.H Q) ∧ (Q (.bl (!b)) c.H → rdOp X (compareOp .NotIn) u w c.H Q) := by
  unfold Ev.inCall at h
  have mem : ∀ {vs : List Ev.Val} {us : List V} {p : Addr}, VRs Z c.m c.H vs us → (SqL X.K c.H p us ∨ SqT X.K c.H p us) → Ev.memS x vs = some b →
      (Q (.bl b) c.H → rdOp X (compareOp .In) u (.ref p) c.H Q) ∧ (Q (.bl (!b)) c.H → rdOp X (compareOp .NotIn) u (.ref p) c.H Q) := by
    intro vs us p rs hq hm
    unfold Ev.memS at hm
    split at hm
    · rename_i g
      simp only [Bool.and_eq_true] at g
      cases hm
      obtain ⟨f1, f2⟩ := mem_any rx g.1 rs g.2
      refine ⟨fun q => rdOp.of op_in_seq ⟨p, us, rfl, hq, scal_flat rx g.1, f1, ?_⟩, fun q => rdOp.of op_notIn_seq ⟨p, us, rfl, hq, scal_flat rx g.1, f1, ?_⟩⟩
      · rw [f2]; exact q
      · rw [f2]; exact q
    · cases hm
  split at h
  · rename_i k t
    cases rx with | str _ hs => cases ry with | str _ ht =>
    cases h
    have e : (t.contains k) = decide (k ∈ (asTx t).cps.toList) := by
      rw [asTx_list]
      by_cases hk : k ∈ t
      · rw [decide_eq_true hk]; simpa using hk
      · rw [decide_eq_false hk]; simpa using hk
    rw [e]
    exact ⟨fun q => rdOp.of op_in_sign ⟨_, _, rfl, rfl, q⟩, fun q => rdOp.of op_notIn_sign ⟨_, _, rfl, rfl, q⟩⟩
  · cases ry with | tup hq rs => exact mem rs (.inr (by rw [hK]; exact hq)) h
  · cases ry with | ref ha =>
    split at h
    · rename_i q1
      obtain ⟨us, r1, e1⟩ := S.listAt q1 ha
      exact mem r1 (.inl (by rw [hK]; exact e1)) h
    · rename_i kvs q1
      obtain ⟨us, r1, e1⟩ := S.dictAt q1 ha
      split at h
      · rename_i g
        cases h
        obtain ⟨k, rk, rfl⟩ := KR.toKey rx g
        have hg : ∀ o, o = valV us k → DGet c.H _ (kV k) o := fun o e => .inl ⟨us, k, e1, rfl, e⟩
        have eb : (Ev.look kvs x).isSome = (valV us k).isSome := by
          rcases r1.look rk with ⟨h1, h2⟩ | ⟨v, u, h1, h2, _⟩ <;> rw [h1, h2] <;> rfl
        rw [eb]
        refine ⟨fun q pins s σ v u' I rv ru => ?_, fun q pins s σ v u' I rv ru => ?_⟩
        · obtain rfl : u' = Value.ref _ := ru
          exact d_in (by omega) I (hg _ rfl) rv fun s3 I3 => ⟨.bl _, _, I3, rfl, q⟩
        · obtain rfl : u' = Value.ref _ := ru
          exact d_notIn (by omega) I (hg _ rfl) rv fun s3 I3 => ⟨.bl _, _, I3, rfl, q⟩
      · cases h
    · cases h
  · cases h
def copOf : Ev.Cop → CmpOp
  | .lt => .Lt | .le => .LtE | .gt => .Gt | .ge => .GtE | .eq => .Eq | .ne => .NotEq | .is => .Is | .isnot => .IsNot | .in_ => .In | .notin => .NotIn
theorem isNon_dec {m : List Addr} {H : L2.Hp} {v : Ev.Val} {u : V} (r : VR Z m H v u) : decide (u = .non) = Ev.isNon v := by
  cases r <;> first | rfl | (exact decide_eq_false (fun z => nomatch z))
theorem sCmp {op : Ev.Cop} {x y : Ev.Val} {u w : V} {b : Bool} {Q : VK} (hK : X.K = Z.K) (hu : X.A.units + 64 < cLine) (S : Sim Z c) (rx : VR Z c.m c.H x u) (ry : VR Z c.m c.H y w) (h : Ev.cmpCall op x y c.h = some b) (q : Q (.bl b) c.H) :
    rdOp X (compareOp (copOf op)) u w c.H Q := by
  unfold Ev.cmpCall at h
  cases op with
  | lt =>
    simp only at h
    split at h
    · cases rx; cases ry; cases h; exact rdOp.of op_lt ⟨_, _, rfl, rfl, q⟩
    · cases h
  | le =>
    simp only at h
    split at h
    · cases rx; cases ry; cases h; exact rdOp.of op_le ⟨_, _, rfl, rfl, q⟩
    · cases h
  | gt =>
    simp only at h
    split at h
    · cases rx; cases ry; cases h; exact rdOp.of op_gt ⟨_, _, rfl, rfl, q⟩
    · cases h
  | ge =>
    simp only at h
    split at h
    · cases rx; cases ry; cases h; exact rdOp.of op_ge ⟨_, _, rfl, rfl, q⟩
    · cases h
  | eq => exact (sEqTop hK hu S rx ry h).1 q
  | ne =>
    simp only [Option.map_eq_some_iff] at h
    obtain ⟨b', h1, h2⟩ := h
    subst h2
    exact (sEqTop hK hu S rx ry h1).2 q
  | is =>
    simp only at h
    split at h
    · rename_i g
      cases h
      cases ry <;> first | (simp [Ev.isNon] at g; done) | exact rdOp.of op_isN ⟨rfl, by rw [isNon_dec rx]; exact q⟩
    · cases h
  | isnot =>
    simp only at h
    split at h
    · rename_i g
      cases h
      cases ry <;> first | (simp [Ev.isNon] at g; done) | exact rdOp.of op_notN ⟨rfl, by rw [isNon_dec rx]; exact q⟩
    · cases h
  | in_ => exact (sIn hK hu S rx ry h).1 q
  | notin =>
    simp only [Option.map_eq_some_iff] at h
    obtain ⟨b', h1, h2⟩ := h
    subst h2
    exact (sIn hK hu S rx ry h1).2 q
end
end Sd

set_option Elab.async false
set_option maxRecDepth 100000
set_option maxHeartbeats 4000000
/-! EvS4: subscripts, slices, stores, built-in functions by values -/
namespace Sd
open PySem PySem.Spec PyProof.Rows L2
section
variable {Z : Ab} {c : Cf} {X : Cx}
theorem ixOf_eq (n : Nat) (i : Int) : Ev.ixOf n i = ixN n i := by
  unfold Ev.ixOf ixN
  by_cases h : 0 ≤ i
  · simp [h]
  · simp only [h, if_false]
    by_cases h2 : 0 ≤ i + n
    · rw [if_pos h2, if_pos (by omega)]
    · rw [if_neg h2, if_neg (by omega)]
theorem VRs.atI {m : List Addr} {H : L2.Hp} {vs : List Ev.Val} {us : List V} (r : VRs Z m H vs us) {i : Int} {k : Nat} {v : Ev.Val} (h : Ev.ixOf vs.length i = some k) (g : vs[k]? = some v) : ∃ u, L2.atI us i = some u ∧ VR Z m H v u := by
  obtain ⟨u, h1, h2⟩ := r.get g
  refine ⟨u, ?_, h2⟩
  unfold L2.atI
  rw [← r.length, ← ixOf_eq, h]
  exact h1
theorem ix_dict (hu : X.A.units + 1 < cLine) : IxR X (fun x y H Q => ∃ a v, x = .ref a ∧ DGet H a y (some v) ∧ Q v H) := by
  intro value slice pins s σ H x y v u Q I rx ry h e
  obtain ⟨a, w, rfl, g, q⟩ := h
  obtain rfl : v = Value.ref a := rx
  exact tail_any (dict_typeIs I g) PySem.F.slot_dict_getitem.lookup (d_getItem hu I g ry fun w' s3 I3 rw' => ⟨w, H, I3, rw', q⟩) e
theorem sSub {x y : Ev.Val} {u w : V} {Q : VK} (hK : X.K = Z.K) (hu : X.A.units + 64 < cLine) (S : Sim Z c) (rx : VR Z c.m c.H x u) (ry : VR Z c.m c.H y w) (h : Fit Z c (Ev.subCall x y c.h) (VQ Z Q)) : rdIx X u w c.H Q := by
  unfold Ev.subCall at h
  split at h
  · cases rx with | tup hq rs => cases ry with | int i =>
    split at h
    · rename_i k e
      obtain ⟨v, e2, h⟩ := h.opt
      obtain ⟨z, e3, rv⟩ := rs.atI e e2
      exact rdIx.of ix_tup ⟨_, _, _, z, rfl, rfl, by rw [hK]; exact hq, e3, h.val S rv⟩
    · exact h.elim
  · cases rx with | str s hs => cases ry with | int i =>
    split at h
    · rename_i k e
      obtain ⟨g, h⟩ := h.guard
      obtain ⟨v, e2, h⟩ := h.opt
      simp only [Option.map_eq_some_iff] at e2
      obtain ⟨ch, e3, rfl⟩ := e2
      simp only [decide_eq_true_eq] at g
      refine rdIx.of ix_str ⟨_, _, ch, rfl, rfl, by rw [asTx_len]; exact g, ?_, h.val S (.str [ch] ?_)⟩
      · unfold L2.atI; rw [asTx_list, ← ixOf_eq, e]; exact e3
      · intro z hz; simp only [List.mem_singleton] at hz; subst hz; exact hs _ (List.mem_of_getElem? e3)
    · exact h.elim
  · cases rx with | ref ha =>
    split at h
    · rename_i q1
      obtain ⟨us, r1, e1⟩ := S.listAt q1 ha
      split at h
      · cases ry with | int i =>
        split at h
        · rename_i k e
          obtain ⟨v, e2, h⟩ := h.opt
          obtain ⟨z, e3, rv⟩ := r1.atI e e2
          exact rdIx.of ix_list ⟨_, _, _, z, rfl, rfl, by rw [hK]; exact e1, e3, h.val S rv⟩
        · exact h.elim
      · exact h.elim
    · rename_i kvs q1
      obtain ⟨us, r1, e1⟩ := S.dictAt q1 ha
      obtain ⟨g, h⟩ := h.guard
      obtain ⟨v, e2, h⟩ := h.opt
      obtain ⟨k, rk, rfl⟩ := KR.toKey ry g
      rcases r1.look rk with ⟨h1, _⟩ | ⟨v', u', h1, h2, h3⟩
      · rw [e2] at h1; cases h1
      · rw [e2] at h1; cases h1
        exact rdIx.of (ix_dict (by omega)) ⟨_, u', rfl, .inl ⟨us, k, e1, rfl, h2.symm⟩, h.val S h3⟩
    · exact h.elim
  · exact h.elim
/-! ### slices -/
def rdSl (X : Cx) : V → Option Int → Option Int → L2.Hp → VK → Prop := fun x lo hi H Q => ∀ pins s σ v vl vu sl, Inv X pins σ H s → RelV x v → s.heap.IsSliceOf sl vl vu .none → IsPart vl lo → IsPart vu hi →
    ∃ T id, typeLookup (.type T) "__getitem__" = pure (some (.builtin id)) ∧ s.TypeIs v T ∧ wpAny (model X.prog X.w) X.A (getItem v (.ref sl)) (EP X pins σ Q) X.xe s
theorem slr_rd : SlR X (rdSl X) := fun pins s σ _ _ v vl vu _ _ sl _ I r a b d h => h pins s σ v vl vu sl I r a b d
theorem rdSl.of {r : V → Option Int → Option Int → L2.Hp → VK → Prop} (p : SlR X r) {x : V} {lo hi : Option Int} {H : L2.Hp} {Q : VK} (h : r x lo hi H Q) : rdSl X x lo hi H Q := fun pins s σ v vl vu sl I a b d e => p pins s σ H x v vl vu lo hi sl Q I a b d e h
theorem bd_eq (n d : Nat) (o : Option Int) : (match o with | some i => Ev.bdOf n i | none => d) = HT.sIx n d o := by cases o <;> rfl
theorem cut_eq (vs : List V) (lo hi : Option Int) : cutV vs lo hi = Ev.cut vs lo hi := by
  unfold cutV Ev.cut
  cases lo <;> cases hi <;> rfl
theorem VRs.cut {m : List Addr} {H : L2.Hp} {vs : List Ev.Val} {us : List V} (r : VRs Z m H vs us) (lo hi : Option Int) : VRs Z m H (Ev.cut vs lo hi) (cutV us lo hi) := by
  rw [cut_eq]
  unfold Ev.cut
  rw [r.length]
  exact (r.drop _).take _
theorem cutS_eq (s : Ev.Tx) (lo hi : Option Int) : cutS (asTx s) lo hi = asTx (Ev.cut s lo hi) := by
  unfold cutS Ev.cut
  rw [asTx_list, asTx_len]
  cases lo <;> cases hi <;> rfl
theorem cut_all {s : Ev.Tx} (hs : ∀ c ∈ s, c < 128) (lo hi : Option Int) : ∀ c ∈ Ev.cut s lo hi, c < 128 := fun x hx => hs x (List.mem_of_mem_drop (List.mem_of_mem_take hx))
theorem cut_sIx (vs : List Ev.Val) (lo hi : Option Int) : Ev.cut vs lo hi = (vs.drop (HT.sIx vs.length 0 lo)).take (HT.sIx vs.length vs.length hi - HT.sIx vs.length 0 lo) := by
  unfold Ev.cut
  cases lo <;> cases hi <;> rfl
theorem cut_whole (vs : List Ev.Val) (lo hi : Option Int) (h : HT.sIx vs.length 0 lo = 0 ∧ HT.sIx vs.length vs.length hi = vs.length) : Ev.cut vs lo hi = vs := by
  rw [cut_sIx, h.1, h.2]
  simp
theorem sSlc {x : Ev.Val} {lo hi : Option Int} {u : V} {Q : VK} (hK : X.K = Z.K) (S : Sim Z c) (rx : VR Z c.m c.H x u) (h : Fit Z c (Ev.slcCall x lo hi c.h) (VQ Z Q)) : rdSl X u lo hi c.H Q := by
  unfold Ev.slcCall at h
  split at h
  · rename_i vs
    cases rx with | @tup a _ us hq rs =>
    refine rdSl.of sl_tupA ⟨a, us, rfl, by rw [hK]; exact hq, fun w => ?_, fun _ p n => h.newTup S (rs.cut lo hi) n⟩
    rw [← rs.length] at w
    rw [cut_whole vs lo hi w] at h
    exact h.val S (.tup hq rs)
  · cases rx with | str s hs =>
    obtain ⟨g, h⟩ := h.guard
    simp only [decide_eq_true_eq] at g
    refine rdSl.of sl_str ⟨_, rfl, by rw [asTx_len]; exact g, ?_⟩
    rw [cutS_eq]
    exact h.val S (.str _ (cut_all hs lo hi))
  · cases rx with | ref ha =>
    split at h
    · rename_i q1
      obtain ⟨us, r1, e1⟩ := S.listAt q1 ha
      exact rdSl.of sl_list ⟨_, us, rfl, by rw [hK]; exact e1, fun p n => h.newList S (r1.cut lo hi) n⟩
    · exact h.elim
  · exact h.elim
/-! ### o[i] = v -/
def rdSet (X : Cx) : TSet := fun o i v H Q => ∀ pins s σ ov iv u, Inv X pins σ H s → RelV o ov → RelV i iv → RelV v u → wpAny (model X.prog X.w) X.A (setItem ov iv u) (fun _ s' => ∃ H', Inv X pins σ H' s' ∧ Q H') X.xe s
theorem pset_rd : PSet X (rdSet X) := fun pins s σ _ _ _ _ ov iv u _ I a b d h => h pins s σ ov iv u I a b d
theorem rdSet.of {r : TSet} (p : PSet X r) {o i v : V} {H : L2.Hp} {Q : L2.Hp → Prop} (h : r o i v H Q) : rdSet X o i v H Q := fun pins s σ ov iv u I a b d => p pins s σ H o i v ov iv u Q I a b d h
theorem sSet {x y v : Ev.Val} {u w z : V} {Q : L2.Hp → Prop} (hu : X.A.units + 64 < cLine) (S : Sim Z c) (rx : VR Z c.m c.H x u) (ry : VR Z c.m c.H y w) (rv : VR Z c.m c.H v z) (h : Fit Z c (Ev.setCall x y v c.h) (fun _ c' => Q c'.H)) : rdSet X u w z c.H Q := by
  unfold Ev.setCall at h
  split at h
  · cases rx with | ref ha =>
    split at h
    · rename_i q1
      obtain ⟨us, r1, e1⟩ := S.listW q1 ha
      split at h
      · cases ry with | int i =>
        split at h
        · rename_i k e
          exact rdSet.of set_list ⟨_, us, _, k, rfl, rfl, e1, by rw [← r1.length, ← ixOf_eq]; exact e, h.setList (us := us) S q1 ha (r1.set rv k)⟩
        · exact h.elim
      · exact h.elim
    · rename_i kvs q1
      obtain ⟨us, r1, e1⟩ := S.dictW q1 ha
      obtain ⟨g, h⟩ := h.guard
      simp only [Bool.and_eq_true, decide_eq_true_eq] at g
      obtain ⟨k, rk, rfl⟩ := KR.toKey ry g.1
      intro pins s σ ov iv u' I ro ri rz
      obtain rfl : ov = Value.ref _ := ro
      exact d_setItem (by omega) I (.inl ⟨us, k, e1, rfl, by rw [← r1.length]; exact g.2, rfl⟩) ri rz fun s' I' => ⟨_, I', h.setDict S q1 ha (r1.put rk rv)⟩
    · exact h.elim
  · exact h.elim
/-! ### the order of texts -/
theorem ltTx_cps : ∀ a b : Ev.Tx, Ev.ltTx a b = ltCps a b
  | [], [] => rfl
  | [], _ :: _ => rfl
  | _ :: _, [] => rfl
  | a :: x, b :: y => by simp only [Ev.ltTx, ltCps]; rw [ltTx_cps x y]
theorem ltTx_irr : ∀ a : Ev.Tx, Ev.ltTx a a = false
  | [] => rfl
  | a :: x => by simp [Ev.ltTx, ltTx_irr x]
theorem ltTx_tri : ∀ a b : Ev.Tx, Ev.ltTx a b = false → Ev.ltTx b a = false → a = b
  | [], [], _, _ => rfl
  | [], _ :: _, h, _ => by cases h
  | _ :: _, [], _, h => by cases h
  | a :: x, b :: y, h, h' => by
    simp only [Ev.ltTx, Bool.or_eq_false_iff, decide_eq_false_iff_not, Bool.and_eq_false_iff, beq_eq_false_iff_ne] at h h'
    have e : a = b := by omega
    subst e
    rw [ltTx_tri x y (h.2.resolve_left (fun z => z rfl)) (h'.2.resolve_left (fun z => z rfl))]
theorem ltTx_tr : ∀ a b d : Ev.Tx, Ev.ltTx a b = true → Ev.ltTx b d = true → Ev.ltTx a d = true
  | [], [], _, h, _ => by cases h
  | [], _ :: _, [], _, h => by cases h
  | [], _ :: _, _ :: _, _, _ => rfl
  | _ :: _, [], _, h, _ => by cases h
  | _ :: _, _ :: _, [], _, h => by cases h
  | a :: x, b :: y, d :: z, h, h' => by
    simp only [Ev.ltTx, Bool.or_eq_true, decide_eq_true_eq, Bool.and_eq_true, beq_iff_eq] at h h' ⊢
    rcases h with h | ⟨h, g⟩ <;> rcases h' with h' | ⟨h', g'⟩
    · left; omega
    · left; omega
    · left; omega
    · right; exact ⟨by omega, ltTx_tr x y z g g'⟩
theorem ltTx_le_tr {a b d : Ev.Tx} (h : Ev.ltTx b a = false) (h' : Ev.ltTx d b = false) : Ev.ltTx d a = false := by
  cases q : Ev.ltTx d a with
  | false => rfl
  | true =>
    exfalso
    cases q2 : Ev.ltTx a b with
    | true => rw [ltTx_tr _ _ _ q q2] at h'; cases h'
    | false =>
      have := ltTx_tri _ _ q2 h
      subst this
      rw [q] at h'; cases h'
abbrev leTx (a b : Ev.Tx) : Prop := Ev.ltTx b a = false
theorem insTx_perm (x : Ev.Tx) : ∀ l, (Ev.insTx x l).Perm (x :: l)
  | [] => .refl _
  | y :: r => by
    unfold Ev.insTx
    split
    · exact .refl _
    · exact ((insTx_perm x r).cons y).trans (.swap x y r)
theorem sortTx_perm : ∀ l, (Ev.sortTx l).Perm l
  | [] => .refl _
  | x :: r => (insTx_perm x _).trans ((sortTx_perm r).cons x)
theorem insTx_pw (x : Ev.Tx) : ∀ l : List Ev.Tx, l.Pairwise leTx → (Ev.insTx x l).Pairwise leTx
  | [], _ => by simp [Ev.insTx]
  | y :: r, h => by
    have h' := List.pairwise_cons.mp h
    unfold Ev.insTx
    split
    · rename_i g
      refine List.pairwise_cons.mpr ⟨fun z hz => ?_, h⟩
      have hxy : leTx x y := by
        show Ev.ltTx y x = false
        cases q : Ev.ltTx y x with
        | false => rfl
        | true => have := ltTx_tr _ _ _ g q; rw [ltTx_irr] at this; cases this
      rcases List.mem_cons.mp hz with rfl | hz
      · exact hxy
      · exact ltTx_le_tr hxy (h'.1 z hz)
    · rename_i g
      refine List.pairwise_cons.mpr ⟨fun z hz => ?_, insTx_pw x r h'.2⟩
      rcases List.mem_cons.mp ((insTx_perm x r).mem_iff.mp hz) with rfl | hz
      · show Ev.ltTx z y = false
        exact Bool.eq_false_iff.mpr g
      · exact h'.1 z hz
theorem sortTx_pw : ∀ l : List Ev.Tx, (Ev.sortTx l).Pairwise leTx
  | [] => .nil
  | x :: r => insTx_pw x _ (sortTx_pw r)
theorem pw_unique : ∀ {l l' : List Ev.Tx}, l.Perm l' → l.Pairwise leTx → l'.Pairwise leTx → l = l'
  | [], l', p, _, _ => (List.nil_perm.mp p).symm
  | x :: r, [], p, _, _ => by simp at p
  | x :: r, y :: r', p, h, h' => by
    have h1 := List.pairwise_cons.mp h
    have h2 := List.pairwise_cons.mp h'
    have e : x = y := by
      have hx : x ∈ y :: r' := p.mem_iff.mp (List.mem_cons_self ..)
      have hy : y ∈ x :: r := p.mem_iff.mpr (List.mem_cons_self ..)
      rcases List.mem_cons.mp hx with e | hx
      · exact e
      · rcases List.mem_cons.mp hy with e | hy
        · exact e.symm
        · exact ltTx_tri _ _ (h2.1 x hx) (h1.1 y hy)
    subst e
    rw [pw_unique ((List.perm_cons x).mp p) h1.2 h2.2]
theorem risingS_pw : ∀ (l : List Ev.Tx) (p : Ev.Tx), risingS (asTx p) (l.map asTx) = true → (p :: l).Pairwise leTx
  | [], p, _ => by simp
  | x :: r, p, h => by
    simp only [List.map_cons, risingS, Bool.and_eq_true, Bool.not_eq_true', asTx_list] at h
    have ih := risingS_pw r x h.2
    have hpx : leTx p x := by show Ev.ltTx x p = false; rw [ltTx_cps]; exact h.1
    refine List.pairwise_cons.mpr ⟨fun z hz => ?_, ih⟩
    rcases List.mem_cons.mp hz with rfl | hz
    · exact hpx
    · exact ltTx_le_tr hpx ((List.pairwise_cons.mp ih).1 z hz)
theorem sortedS_pw (l : List Ev.Tx) (h : sortedS (l.map asTx) = true) : l.Pairwise leTx := by
  cases l with
  | nil => exact .nil
  | cons x r => exact risingS_pw r x h
theorem asTx_of (x : Str) : asTx x.cps.toList = x := by cases x; rfl
theorem sorted_eq {ss : List Ev.Tx} {ys : List Str} (p : ys.Perm (ss.map asTx)) (h : sortedS ys = true) : ys = (Ev.sortTx ss).map asTx := by
  have e : ys = (ys.map fun y => y.cps.toList).map asTx := by
    rw [List.map_map]
    conv => lhs; rw [← List.map_id ys]
    exact List.map_congr_left fun y _ => (asTx_of y).symm
  rw [e] at h ⊢
  have h2 := sortedS_pw _ h
  have p2 : (ys.map fun y => y.cps.toList).Perm ss := by
    have := p.map fun y => y.cps.toList
    rw [List.map_map] at this
    have e2 : ss.map ((fun y : Str => y.cps.toList) ∘ asTx) = ss := by
      conv => rhs; rw [← List.map_id ss]
      exact List.map_congr_left fun y _ => asTx_list y
    rw [e2] at this
    exact this
  rw [pw_unique (p2.trans (sortTx_perm ss).symm) h2 (sortTx_pw ss)]
/-! ### lists of one kind -/
theorem allStr_ok {m : List Addr} {H : L2.Hp} : ∀ {vs : List Ev.Val} {us : List V} {ss : List Ev.Tx}, VRs Z m H vs us → Ev.allStr vs = some ss → us = ss.map (fun s => V.str (asTx s)) ∧ ∀ s ∈ ss, ∀ k ∈ s, k < 128
  | _, _, _, .nil, h => by cases h; exact ⟨rfl, fun _ z => by cases z⟩
  | _, _, _, .cons a b, h => by
    cases a with
    | str s hs =>
      simp only [Ev.allStr, Option.map_eq_some_iff] at h
      obtain ⟨ss, h1, rfl⟩ := h
      obtain ⟨e1, e2⟩ := allStr_ok b h1
      refine ⟨by rw [e1]; rfl, fun x hx => ?_⟩
      rcases List.mem_cons.mp hx with rfl | hx
      · exact hs
      · exact e2 x hx
    | _ => cases h
theorem strs_ok {m : List Addr} {H : L2.Hp} : ∀ {ss : List Ev.Tx}, (∀ s ∈ ss, ∀ k ∈ s, k < 128) → VRs Z m H (Ev.strVs ss) (ss.map fun s => V.str (asTx s))
  | [], _ => .nil
  | s :: ss, h => .cons (.str s (h s (List.mem_cons_self ..))) (strs_ok fun x hx => h x (List.mem_cons_of_mem _ hx))
theorem allInt_ok {m : List Addr} {H : L2.Hp} : ∀ {vs : List Ev.Val} {us : List V} {ns : List Int}, VRs Z m H vs us → Ev.allInt vs = some ns → us = ns.map V.int
  | _, _, _, .nil, h => by cases h; rfl
  | _, _, _, .cons a b, h => by
    cases a with
    | int i =>
      simp only [Ev.allInt, Option.map_eq_some_iff] at h
      obtain ⟨ss, h1, rfl⟩ := h
      rw [allInt_ok b h1]; rfl
    | _ => cases h
theorem allBl_ok {m : List Addr} {H : L2.Hp} : ∀ {vs : List Ev.Val} {us : List V} {ns : List Bool}, VRs Z m H vs us → Ev.allBl vs = some ns → us = ns.map V.bl
  | _, _, _, .nil, h => by cases h; rfl
  | _, _, _, .cons a b, h => by
    cases a with
    | bl i =>
      simp only [Ev.allBl, Option.map_eq_some_iff] at h
      obtain ⟨ss, h1, rfl⟩ := h
      rw [allBl_ok b h1]; rfl
    | _ => cases h
theorem maxI_spec : ∀ (r : List Int) (m : Int), Ev.maxI m r ∈ m :: r ∧ ∀ y ∈ m :: r, y ≤ Ev.maxI m r
  | [], m => ⟨by simp [Ev.maxI], fun y hy => by simp at hy; subst hy; simp [Ev.maxI]⟩
  | x :: r, m => by
    obtain ⟨h1, h2⟩ := maxI_spec r (if x > m then x else m)
    unfold Ev.maxI
    refine ⟨?_, fun y hy => ?_⟩
    · rcases List.mem_cons.mp h1 with e | e
      · rw [e]; split <;> simp
      · exact List.mem_cons_of_mem _ (List.mem_cons_of_mem _ e)
    · have h3 := h2 _ (List.mem_cons_self ..)
      by_cases g : x > m
      · rw [if_pos g] at h3 h2 ⊢
        rcases List.mem_cons.mp hy with rfl | hy
        · omega
        · rcases List.mem_cons.mp hy with rfl | hy
          · exact h3
          · exact h2 y (List.mem_cons_of_mem _ hy)
      · rw [if_neg g] at h3 h2 ⊢
        rcases List.mem_cons.mp hy with rfl | hy
        · exact h3
        · rcases List.mem_cons.mp hy with rfl | hy
          · omega
          · exact h2 y (List.mem_cons_of_mem _ hy)
theorem minI_spec : ∀ (r : List Int) (m : Int), Ev.minI m r ∈ m :: r ∧ ∀ y ∈ m :: r, Ev.minI m r ≤ y
  | [], m => ⟨by simp [Ev.minI], fun y hy => by simp at hy; subst hy; simp [Ev.minI]⟩
  | x :: r, m => by
    obtain ⟨h1, h2⟩ := minI_spec r (if x < m then x else m)
    unfold Ev.minI
    refine ⟨?_, fun y hy => ?_⟩
    · rcases List.mem_cons.mp h1 with e | e
      · rw [e]; split <;> simp
      · exact List.mem_cons_of_mem _ (List.mem_cons_of_mem _ e)
    · have h3 := h2 _ (List.mem_cons_self ..)
      by_cases g : x < m
      · rw [if_pos g] at h3 h2 ⊢
        rcases List.mem_cons.mp hy with rfl | hy
        · omega
        · rcases List.mem_cons.mp hy with rfl | hy
          · exact h3
          · exact h2 y (List.mem_cons_of_mem _ hy)
      · rw [if_neg g] at h3 h2 ⊢
        rcases List.mem_cons.mp hy with rfl | hy
        · exact h3
        · rcases List.mem_cons.mp hy with rfl | hy
          · omega
          · exact h2 y (List.mem_cons_of_mem _ hy)
end
end Sd

set_option Elab.async false
set_option maxRecDepth 100000
set_option maxHeartbeats 4000000
/-! EvS5: built-in functions and methods by values -/
namespace Sd
open PySem PySem.Spec PyProof.Rows L2
section
variable {Z : Ab} {c : Cf} {X : Cx}
def biVal : Ev.Bi → Value
  | .len => .builtin "len" | .abs => .builtin "abs" | .int => .type "int" | .str => .type "str" | .max => .builtin "max" | .min => .builtin "min" | .sum => .builtin "sum"
  | .any => .builtin "any" | .all => .builtin "all" | .sorted => .builtin "sorted" | .list => .type "list" | .tuple => .type "tuple" | .dict => .type "dict" | .repr => .builtin "repr"
  | _ => .none
/-- those that are called as they stand -/
def biPlain : Ev.Bi → Bool
  | .lenSet | .sortedSet | .sortedLists | .repr => false
  | _ => true
theorem digit_ascii {k : Char} (h : k.isDigit = true) : k.toNat < 128 := by
  simp only [Char.isDigit, Bool.and_eq_true, decide_eq_true_eq] at h
  have : k.val.toNat ≤ 57 := h.2
  show k.val.toNat < 128
  omega
theorem repr_ascii (n : Nat) : ∀ k ∈ n.repr.toList.map Char.toNat, k < 128 := by
  intro k hk
  obtain ⟨ch, h1, rfl⟩ := List.mem_map.mp hk
  refine digit_ascii (Nat.isDigit_of_mem_toDigits (b := 10) (n := n) (by decide) (by decide) ?_)
  simpa [Nat.repr] using h1
theorem decTx_ascii : ∀ i : Int, ∀ k ∈ Ev.decTx i, k < 128 := by
  intro i k hk
  unfold Ev.decTx at hk
  rw [Int.toString_eq_repr] at hk
  cases i with
  | ofNat n => exact repr_ascii n k hk
  | negSucc n =>
    have e : (Int.negSucc n).repr.toList.map Char.toNat = 45 :: (n + 1).repr.toList.map Char.toNat := by
      show ("-" ++ (n + 1).repr).toList.map Char.toNat = _
      rw [String.toList_append]; rfl
    rw [e] at hk
    rcases List.mem_cons.mp hk with rfl | hk
    · decide
    · exact repr_ascii _ k hk
theorem decTx_eq (i : Int) : (Str.ofString (toString i)) = asTx (Ev.decTx i) := by
  rw [Str.ofString_eq_toList]
  rfl
theorem digVal_eq : ∀ (s : Ev.Tx) (n : Nat), Ev.digVal s n = s.foldl (fun acc c => acc * 10 + (c - 48)) n
  | [], _ => rfl
  | c :: r, n => by simp only [Ev.digVal, List.foldl_cons]; exact digVal_eq r _
theorem intOf_ok {s : Ev.Tx} {n : Int} (h : Ev.intOf s = some n) : PySem.intText? (asTx s) = some n ∧ s.length ≤ 600 := by
  unfold Ev.intOf at h
  split at h
  · rename_i g
    simp only [Bool.and_eq_true, decide_eq_true_eq, Bool.not_eq_true', List.all_eq_true] at g
    cases h
    refine ⟨?_, g.1.1⟩
    have e := PySem.intText_digits (x := asTx s) (by
      rw [asTx_list]
      intro k hk
      have := g.2 k hk
      unfold Ev.isDig at this
      simpa using this) (by
      rw [asTx_list]
      intro z
      rw [z] at g
      simp at g) (by rw [asTx_len]; omega)
    rw [e, asTx_list, digVal_eq]
    rfl
  · cases h
theorem pairs_ok {m : List Addr} {H : L2.Hp} : ∀ {vs : List Ev.Val} {us : List V} {kvs : List (Ev.Val × Ev.Val)}, VRs Z m H vs us → Ev.pairsOf vs = some kvs →
    ∃ (ps : List Addr) (ws : List (Key × V)), us = ps.map V.ref ∧ KVR Z m H kvs ws ∧ Paired (fun p kv => SqT Z.K H p [kV kv.1, kv.2]) ps ws
  | _, _, _, .nil, h => by cases h; exact ⟨[], [], rfl, .nil, .nil⟩
  | _, _, _, .cons a b, h => by
    unfold Ev.pairsOf at h
    split at h
    · rename_i e; cases e
    · rename_i k v r e
      cases e
      split at h
      · rename_i g
        simp only [Option.map_eq_some_iff] at h
        obtain ⟨kvs, h1, rfl⟩ := h
        obtain ⟨ps, ws, e1, r1, p1⟩ := pairs_ok b h1
        cases a with
        | tup hq rs =>
          cases rs with
          | cons rk rs => cases rs with
            | cons rv rs => cases rs with
              | nil =>
                obtain ⟨k', kr, rfl⟩ := KR.toKey rk g
                exact ⟨_ :: ps, (k', _) :: ws, by rw [e1]; rfl, .cons kr rv r1, .cons hq p1⟩
      · cases h
    · cases h
theorem sBi {b : Ev.Bi} {as : List Ev.Val} {us : List V} {Q : VK} (hp : biPlain b = true) (hK : X.K = Z.K) (hc : X.calm = true) (S : Sim Z c) (rs : VRs Z c.m c.H as us) (h : Fit Z c (Ev.biCall b as c.h) (VQ Z Q)) : rdC X (biVal b) us c.H Q := by
  unfold Ev.biCall at h
  split at h
  · cases rs with | cons r1 rs => cases rs; cases r1 with | str s hs =>
    obtain ⟨g, h⟩ := h.guard
    simp only [decide_eq_true_eq] at g
    refine rdC.of call_len_str ⟨_, rfl, by rw [asTx_len]; exact g, ?_⟩
    rw [asTx_len]
    exact h.val S (.int _)
  · cases rs with | cons r1 rs => cases rs; cases r1 with | tup hq rs =>
    refine rdC.of call_len_seq ⟨_, _, rfl, .inr (by rw [hK]; exact hq), ?_⟩
    rw [← rs.length]
    exact h.val S (.int _)
  · cases rs with | cons r1 rs => cases rs; cases r1 with | ref ha =>
    split at h
    · rename_i q1
      obtain ⟨zs, r1, e1⟩ := S.listAt q1 ha
      refine rdC.of call_len_seq ⟨_, _, rfl, .inl (by rw [hK]; exact e1), ?_⟩
      rw [← r1.length]
      exact h.val S (.int _)
    · rename_i q1
      obtain ⟨zs, r1, e1⟩ := S.dictW q1 ha
      refine rdC.of call_lenD ⟨_, _, rfl, e1, ?_⟩
      rw [← r1.length]
      exact h.val S (.int _)
    · exact h.elim
  · cases rs with | cons r1 rs => cases rs; cases r1 with | int i => exact rdC.of call_abs ⟨_, rfl, h.val S (.int _)⟩
  · cases rs with | cons r1 rs => cases rs; cases r1 with | int i => exact rdC.of call_int1 (.inl ⟨_, rfl, h.val S (.int _)⟩)
  · cases rs with | cons r1 rs => cases rs; cases r1 with | bl i => exact rdC.of call_int1 (.inr ⟨_, rfl, h.val S (.int _)⟩)
  · cases rs with | cons r1 rs => cases rs; cases r1 with | str s hs =>
    obtain ⟨v, e, h⟩ := h.opt
    simp only [Option.map_eq_some_iff] at e
    obtain ⟨n, e, rfl⟩ := e
    obtain ⟨e1, e2⟩ := intOf_ok e
    exact rdC.of call_int_str ⟨_, n, rfl, e1, by rw [asTx_len]; omega, h.val S (.int _)⟩
  · cases rs with | cons r1 rs => cases rs; cases r1 with | int i =>
    obtain ⟨g, h⟩ := h.guard
    simp only [decide_eq_true_eq] at g
    refine rdC.of call_str_int ⟨_, rfl, g, ?_⟩
    rw [decTx_eq]
    exact h.val S (.str _ (decTx_ascii _))
  · cases rs with | cons r1 rs => cases rs; cases r1 with | str s hs => exact rdC.of SkE.call_str_str ⟨_, rfl, h.val S (.str _ hs)⟩
  · cases rs with | cons r1 rs => cases rs with | cons r2 rs => cases rs; cases r1; cases r2; exact rdC.of (call_max2 hc) ⟨_, _, rfl, h.val S (.int _)⟩
  · rename_i i j k
    cases rs with | cons r1 rs => cases rs with | cons r2 rs => cases rs with | cons r3 rs =>
    cases rs; cases r1; cases r2; cases r3
    refine rdC.of (call_max3Nu hc) ⟨_, _, _, .int (Ev.maxI i [j, k]), rfl, ?_, h.val S (.int _)⟩
    simp only [nuMax3, nuMax2, nuLt, nuCB, Ev.maxI]
    by_cases g : i < j
    · have g' : j > i := g
      simp only [g, g', if_true, decide_true, Option.map_some, Option.bind_some]
      by_cases g2 : j < k <;> simp [g2]
    · have g' : ¬ j > i := g
      simp only [g, g', if_false, decide_false, Option.map_some, Option.bind_some]
      by_cases g2 : i < k <;> simp [g2]
  · cases rs with | cons r1 rs => cases rs; cases r1 with | ref ha =>
    split at h
    · rename_i q1
      obtain ⟨zs, r1, e1⟩ := S.listAt q1 ha
      split at h
      · rename_i m r q2
        have e := allInt_ok r1 q2
        subst e
        refine rdC.of (cr_max hc) ⟨_, m :: r, rfl, by rw [hK]; exact e1, by simp, fun y hy hm => ?_⟩
        obtain ⟨s1, s2⟩ := maxI_spec r m
        have : y = Ev.maxI m r := Int.le_antisymm (s2 y hy) (hm _ s1)
        rw [this]
        exact h.val S (.int _)
      · exact h.elim
    · exact h.elim
  · cases rs with | cons r1 rs => cases rs with | cons r2 rs => cases rs; cases r1; cases r2; exact rdC.of (call_min2 hc) ⟨_, _, rfl, h.val S (.int _)⟩
  · cases rs with | cons r1 rs => cases rs; cases r1 with | ref ha =>
    split at h
    · rename_i q1
      obtain ⟨zs, r1, e1⟩ := S.listAt q1 ha
      split at h
      · rename_i m r q2
        have e := allInt_ok r1 q2
        subst e
        refine rdC.of (cr_min hc) ⟨_, m :: r, rfl, by rw [hK]; exact e1, by simp, fun y hy hm => ?_⟩
        obtain ⟨s1, s2⟩ := minI_spec r m
        have : y = Ev.minI m r := Int.le_antisymm (hm _ s1) (s2 y hy)
        rw [this]
        exact h.val S (.int _)
      · exact h.elim
    · exact h.elim
  · cases rs with | cons r1 rs => cases rs; cases r1 with | ref ha =>
    split at h
    · rename_i q1
      obtain ⟨zs, r1, e1⟩ := S.listAt q1 ha
      split at h
      · rename_i ns q2
        have e := allInt_ok r1 q2
        subst e
        exact rdC.of (cr_sum hc) ⟨_, ns, rfl, by rw [hK]; exact e1, h.val S (.int _)⟩
      · exact h.elim
    · exact h.elim
  · cases rs with | cons r1 rs => cases rs; cases r1 with | ref ha =>
    split at h
    · rename_i q1
      obtain ⟨zs, r1, e1⟩ := S.listAt q1 ha
      split at h
      · rename_i ns q2
        have e := allBl_ok r1 q2
        subst e
        exact rdC.of (cr_any hc) ⟨_, ns, rfl, by rw [hK]; exact e1, h.val S (.bl _)⟩
      · exact h.elim
    · exact h.elim
  · cases rs with | cons r1 rs => cases rs; cases r1 with | ref ha =>
    split at h
    · rename_i q1
      obtain ⟨zs, r1, e1⟩ := S.listAt q1 ha
      split at h
      · rename_i ns q2
        have e := allBl_ok r1 q2
        subst e
        exact rdC.of (cr_all hc) ⟨_, ns, rfl, by rw [hK]; exact e1, h.val S (.bl _)⟩
      · exact h.elim
    · exact h.elim
  · cases rs with | cons r1 rs => cases rs; cases r1 with | ref ha =>
    split at h
    · rename_i q1
      obtain ⟨zs, r1, e1⟩ := S.listAt q1 ha
      split at h
      · rename_i ss q2
        obtain ⟨e, hs⟩ := allStr_ok r1 q2
        subst e
        obtain ⟨g, h⟩ := h.guard
        simp only [decide_eq_true_eq] at g
        refine rdC.of cr_sortedS ⟨_, ss.map asTx, rfl, by rw [hK, List.map_map]; exact e1, by simpa using g, fun ys p hp hsd n => ?_⟩
        rw [sorted_eq hp hsd, List.map_map]
        exact h.newList S (strs_ok fun s hs' => hs s ((sortTx_perm ss).mem_iff.mp hs')) n
      · exact h.elim
    · exact h.elim
  · cases rs with | cons r1 rs => cases rs; cases r1 with | tup hq rs => exact rdC.of call_list_of ⟨_, _, rfl, .inr (by rw [hK]; exact hq), fun p n => h.newList S rs n⟩
  · cases rs with | cons r1 rs => cases rs; cases r1 with | ref ha =>
    split at h
    · rename_i q1
      obtain ⟨zs, r1, e1⟩ := S.listAt q1 ha
      exact rdC.of call_list_of ⟨_, _, rfl, .inl (by rw [hK]; exact e1), fun p n => h.newList S r1 n⟩
    · rename_i q1
      obtain ⟨zs, r1, e1⟩ := S.dictAt q1 ha
      exact rdC.of (call_listD hc) ⟨_, _, rfl, e1, fun p n => h.newList S r1.keys n⟩
    · exact h.elim
  · cases rs with | cons r1 rs => cases rs; cases r1 with | tup hq rs => exact rdC.of call_tuple_of ⟨_, _, rfl, .inr ⟨by rw [hK]; exact hq, h.val S (.tup hq rs)⟩⟩
  · cases rs with | cons r1 rs => cases rs; cases r1 with | ref ha =>
    split at h
    · rename_i q1
      obtain ⟨zs, r1, e1⟩ := S.listAt q1 ha
      exact rdC.of call_tuple_of ⟨_, _, rfl, .inl ⟨by rw [hK]; exact e1, fun p n => h.newTup S r1 n⟩⟩
    · exact h.elim
  · cases rs with | cons r1 rs => cases rs; cases r1 with | ref ha =>
    split at h
    · rename_i q1
      obtain ⟨zs, r1, e1⟩ := S.listAt q1 ha
      split at h
      · rename_i kvs q2
        obtain ⟨ps, ws, e2, r2, p2⟩ := pairs_ok r1 q2
        subst e2
        rw [← hK] at e1 p2
        exact rdC.of (call_dictP hc) ⟨_, ps, ws, rfl, e1, p2, fun p n => h.newDict S (KVR.merge r2 .nil) n⟩
      · exact h.elim
    · rename_i q1
      obtain ⟨zs, r1, e1⟩ := S.dictAt q1 ha
      exact rdC.of call_dictD ⟨_, _, rfl, e1, fun p n => h.newDict S r1 n⟩
    · exact h.elim
  all_goals first | cases hp | exact h.elim
/-! ### methods of built-in types -/
inductive Slt : Ev.Bm → String → String → Prop
  | append : Slt .append "list" "list.append"
  | extend : Slt .extend "list" "list.extend"
  | pop : Slt .pop "list" "list.pop"
  | popD : Slt .pop "dict" "dict.pop"
  | get : Slt .get "dict" "dict.get"
  | join : Slt .join "str" "str.join"
  | split : Slt .split "str" "str.split"
  | partition : Slt .partition "str" "str.partition"
  | strip : Slt .strip "str" "str.strip"
def bmName : Ev.Bm → Str
  | .append => "append" | .extend => "extend" | .pop => "pop" | .get => "get" | .join => "join" | .split => "split" | .partition => "partition" | .strip => "strip" | .update => "update"
  | .index => "index" | .remove => "remove" | .find => "find" | .rfind => "rfind" | .endswith => "endswith" | .replace => "replace"
theorem Slt.ok {m : Ev.Bm} {T id : String} (h : Slt m T id) : PlainAttrs T ∧ Slot T (bmName m) id ∧ typeOf (.builtin id) = pure (.type "method_descriptor") := by
  cases h with
  | append => exact ⟨PySem.F.plainAttrs_list, PySem.F.slot_list_append, PySem.F.type_list_append⟩
  | extend => exact ⟨PySem.F.plainAttrs_list, PySem.F.slot_list_extend, PySem.F.type_list_extend⟩
  | pop => exact ⟨PySem.F.plainAttrs_list, PySem.F.slot_list_pop, PySem.F.type_list_pop⟩
  | popD => exact ⟨PySem.F.plainAttrs_dict, PySem.F.slot_dict_pop, PySem.F.type_dict_pop⟩
  | get => exact ⟨PySem.F.plainAttrs_dict, PySem.F.slot_dict_get, PySem.F.type_dict_get⟩
  | join => exact ⟨PySem.F.plainAttrs_str, PySem.F.slot_str_join, PySem.F.type_str_join⟩
  | split => exact ⟨PySem.F.plainAttrs_str, PySem.F.slot_str_split, PySem.F.type_str_split⟩
  | partition => exact ⟨PySem.F.plainAttrs_str, PySem.F.slot_str_partition, PySem.F.type_str_partition⟩
  | strip => exact ⟨PySem.F.plainAttrs_str, PySem.F.slot_str_strip, PySem.F.type_str_strip⟩
/-- of which type the receiver must be -/
def bmTy (x : Ev.Val) (h : Ev.Hp) : String := match x with
  | .str _ => "str"
  | .ref a => match h[a]? with
    | some (.list _ _) => "list"
    | some (.dict _ _) => "dict"
    | _ => ""
  | _ => ""
theorem joinL_eq (s : Ev.Tx) : ∀ ss : List Ev.Tx, TL.joinL s ss = Ev.joinTx s ss
  | [] => rfl
  | [_] => rfl
  | x :: y :: r => by simp only [TL.joinL, Ev.joinTx]; rw [joinL_eq s (y :: r), List.append_assoc]
theorem join_eq (s : Ev.Tx) (ss : List Ev.Tx) : Txt.join (asTx s) (ss.map asTx) = asTx (Ev.joinTx s ss) := by
  rw [← joinL_eq]
  exact SX.join_S s ss
theorem pre_eq : ∀ p s : Ev.Tx, TL.pre p s = Ev.pre p s
  | [], _ => rfl
  | _ :: _, [] => rfl
  | a :: p, b :: s => by
    have ih := pre_eq p s
    unfold TL.pre at ih ⊢
    simp only [Ev.pre, ← ih, List.length_cons, List.take_succ_cons]
    show ((b :: s.take p.length) == (a :: p)) = _
    rw [List.cons_beq_cons, Bool.beq_comm]
theorem par_eq (p : Ev.Tx) : ∀ (s acc : Ev.Tx), TL.par p acc s = (Ev.cutAt p s).map fun q => (acc ++ q.1, q.2)
  | [], acc => rfl
  | b :: s, acc => by
    simp only [TL.par, Ev.cutAt]
    rw [pre_eq]
    split
    · simp
    · rw [par_eq p s]
      cases Ev.cutAt p s with
      | none => rfl
      | some q => simp
theorem cutAt_mem {p : Ev.Tx} : ∀ {s l r : Ev.Tx}, Ev.cutAt p s = some (l, r) → (∀ k ∈ l, k ∈ s) ∧ ∀ k ∈ r, k ∈ s
  | [], _, _, h => by cases h
  | b :: s, l, r, h => by
    unfold Ev.cutAt at h
    split at h
    · cases h; exact ⟨(fun k hk => by cases hk), (fun k hk => List.mem_of_mem_drop hk)⟩
    · cases q : Ev.cutAt p s with
      | none => rw [q] at h; cases h
      | some x =>
        rw [q] at h; cases h
        obtain ⟨h1, h2⟩ := cutAt_mem (l := x.1) (r := x.2) (by rw [q])
        refine ⟨fun k hk => ?_, fun k hk => List.mem_cons_of_mem _ (h2 k hk)⟩
        rcases List.mem_cons.mp hk with rfl | hk
        · exact List.mem_cons_self ..
        · exact List.mem_cons_of_mem _ (h1 k hk)
theorem splitOn_ne (k : Nat) : ∀ s : Ev.Tx, Ev.splitOn k s ≠ []
  | [] => by simp [Ev.splitOn]
  | b :: s => by
    unfold Ev.splitOn
    split
    · simp
    · cases Ev.splitOn k s <;> simp
theorem splitOn_mem (k : Nat) : ∀ (s : Ev.Tx), ∀ l ∈ Ev.splitOn k s, ∀ x ∈ l, x ∈ s
  | [], l, hl, x, hx => by simp [Ev.splitOn] at hl; subst hl; cases hx
  | b :: s, l, hl, x, hx => by
    unfold Ev.splitOn at hl
    split at hl
    · rcases List.mem_cons.mp hl with rfl | hl
      · cases hx
      · exact List.mem_cons_of_mem _ (splitOn_mem k s l hl x hx)
    · have ih := splitOn_mem k s
      cases q : Ev.splitOn k s with
      | nil => rw [q] at hl; simp at hl; subst hl; simp at hx; subst hx; simp
      | cons y ys =>
        rw [q] at hl ih
        rcases List.mem_cons.mp hl with rfl | hl
        · rcases List.mem_cons.mp hx with rfl | hx
          · simp
          · exact List.mem_cons_of_mem _ (ih y (List.mem_cons_self ..) x hx)
        · exact List.mem_cons_of_mem _ (ih l (List.mem_cons_of_mem _ hl) x hx)
theorem spl_eq (k : Nat) : ∀ (s acc : Ev.Tx), TL.spl [k] 0 acc s = match Ev.splitOn k s with
    | [] => [acc]
    | l :: ls => (acc ++ l) :: ls
  | [], acc => by simp [TL.spl, Ev.splitOn]
  | b :: s, acc => by
    have hp : TL.pre [k] (b :: s) = (k == b) := by rw [pre_eq]; simp [Ev.pre]
    by_cases e : b = k
    · subst e
      rw [TL.spl_hit (by rw [hp]; simp)]
      have : TL.spl [b] ([b].length - 1) [] s = TL.spl [b] 0 [] s := rfl
      rw [this, spl_eq b s []]
      simp only [Ev.splitOn, beq_self_eq_true, if_true, List.append_nil]
      cases q : Ev.splitOn b s with
      | nil => exact absurd q (splitOn_ne b s)
      | cons l ls => simp
    · rw [TL.spl_miss (by rw [hp]; simpa using fun z => e z.symm)]
      rw [spl_eq k s]
      simp only [Ev.splitOn, beq_eq_false_iff_ne.mpr e, if_false]
      cases Ev.splitOn k s <;> simp
theorem join_ascii {s : Ev.Tx} (h : ∀ k ∈ s, k < 128) : ∀ {ss : List Ev.Tx}, (∀ x ∈ ss, ∀ k ∈ x, k < 128) → ∀ k ∈ Ev.joinTx s ss, k < 128
  | [], _ => fun k hk => by simp [Ev.joinTx] at hk
  | [x], h' => by simp only [Ev.joinTx]; exact h' x (List.mem_cons_self ..)
  | x :: y :: r, h' => by
    simp only [Ev.joinTx]
    exact ascii_app (ascii_app (h' x (List.mem_cons_self ..)) h) (join_ascii h fun z hz => h' z (List.mem_cons_of_mem _ hz))
theorem pop_ix {n k : Nat} {i : Int} (h : Ev.ixOf n i = some k) (hn : n ≤ Ev.LIM) : -(2 ^ 63) ≤ i ∧ i < 2 ^ 63 ∧ seqIndex? i n = some k := by
  unfold Ev.ixOf at h
  unfold seqIndex?
  have hl : Ev.LIM < 2 ^ 62 := by decide
  split at h
  · rename_i g
    split at h
    · rename_i g2
      cases h
      refine ⟨by omega, by omega, ?_⟩
      simp only [show ¬ i < 0 by omega, if_false]
      simp [g, g2]
    · cases h
  · rename_i g
    split at h
    · rename_i g2
      cases h
      refine ⟨by omega, by omega, ?_⟩
      simp only [show i < 0 by omega, if_true]
      simp [g2]; omega
    · cases h
theorem VRs.eraseIdx {m : List Addr} {H : L2.Hp} : ∀ {vs : List Ev.Val} {us : List V} (n : Nat), VRs Z m H vs us → VRs Z m H (vs.eraseIdx n) (us.eraseIdx n)
  | _, _, _, .nil => by simp; exact .nil
  | _, _, 0, .cons a b => by simp; exact b
  | _, _, n + 1, .cons a b => by simp; exact .cons a (VRs.eraseIdx n b)
theorem seqOf_ok (S : Sim Z c) {v : Ev.Val} {u : V} {vs : List Ev.Val} (r : VR Z c.m c.H v u) (h : Ev.seqOf c.h v = some vs) : ∃ p us, u = .ref p ∧ VRs Z c.m c.H vs us ∧ (SqL Z.K c.H p us ∨ SqT Z.K c.H p us) := by
  cases r with
  | tup hq rs => cases h; exact ⟨_, _, rfl, rs, .inr hq⟩
  | ref ha =>
    simp only [Ev.seqOf] at h
    split at h
    · rename_i q1
      cases h
      obtain ⟨us, r1, e1⟩ := S.listAt q1 ha
      exact ⟨_, us, rfl, r1, .inl e1⟩
    · cases h
  | _ => cases h
theorem sBm {m : Ev.Bm} {x : Ev.Val} {as : List Ev.Val} {u : V} {us : List V} {Q : VK} (hK : X.K = Z.K) (hu : X.A.units + 64 < cLine) (S : Sim Z c) (rx : VR Z c.m c.H x u) (rs : VRs Z c.m c.H as us) (h : Fit Z c (Ev.bmCall m x as c.h) (VQ Z Q)) :
    ∃ id, Slt m (bmTy x c.h) id ∧ rdM X id u us c.H Q := by
  unfold Ev.bmCall at h
  split at h
  · cases rx with | ref ha => cases rs with | cons r1 rs => cases rs with | nil =>
    split at h
    · rename_i q1
      obtain ⟨g, h⟩ := h.guard
      simp only [decide_eq_true_eq] at g
      obtain ⟨zs, r2, e2⟩ := S.listW q1 ha
      refine ⟨_, by simp only [bmTy, q1]; exact .append, rdM.of (show MtR X _ _ from mt_append) ⟨_, zs, _, rfl, rfl, e2, by rw [← r2.length]; exact g, ?_⟩⟩
      exact h.setList (us := zs) S q1 ha (r2.append (.cons r1 .nil)) _ .non
    · exact h.elim
  · cases rx with | ref ha => cases rs with | cons r1 rs => cases rs with | nil => cases r1 with | ref hb =>
    split at h
    · rename_i q1 q2
      obtain ⟨g, h⟩ := h.guard
      simp only [decide_eq_true_eq] at g
      obtain ⟨zs, r2, e2⟩ := S.listW q1 ha
      obtain ⟨ws, r3, e3⟩ := S.listW q2 hb
      refine ⟨_, by simp only [bmTy, q1]; exact .extend, rdM.of (show MtR X _ _ from mt_extend) ⟨_, _, zs, ws, rfl, rfl, e2, e3, by rw [← r2.length, ← r3.length]; exact g, ?_⟩⟩
      exact h.setList (us := zs) S q1 ha (r2.append r3) _ .non
    · exact h.elim
  · cases rx with | ref ha => cases rs with | nil =>
    split at h
    · rename_i vs q1
      split at h
      · rename_i v q2
        obtain ⟨zs, r2, e2⟩ := S.listW q1 ha
        have q3 : vs[vs.length - 1]? = some v := by rw [← List.getLast?_eq_getElem?]; exact q2
        obtain ⟨z, e3, r3⟩ := r2.get q3
        rw [r2.length] at e3
        refine ⟨_, by simp only [bmTy, q1]; exact .pop, rdM.of (show MtR X _ _ from mt_pop) ⟨_, zs, z, rfl, rfl, e2, e3, ?_⟩⟩
        have r4 : VRs Z c.m c.H vs.dropLast zs.dropLast := by
          rw [List.dropLast_eq_take, List.dropLast_eq_take, r2.length]
          exact r2.take _
        obtain ⟨S1, E1⟩ := S.write (o' := .list false vs.dropLast) (u := .lst zs.dropLast) q1 ha rfl rfl fun c' e1 e2 E => by
          have := r4.mono S E
          rw [e1, e2] at this
          exact ⟨_, this, upd_same⟩
        exact h _ _ S1 E1 _ (r3.mono S E1)
      · exact h.elim
    · exact h.elim
  · rename_i i
    cases rx with | ref ha => cases rs with | cons r1 rs => cases rs with | nil => cases r1 with | int _ =>
    split at h
    · rename_i vs q1
      split at h
      · rename_i k q2
        split at h
        · rename_i v q3
          obtain ⟨zs, r2, e2⟩ := S.listW q1 ha
          obtain ⟨z, e3, r3⟩ := r2.get q3
          have hk : k < vs.length := (List.getElem?_eq_some_iff.mp q3).1
          obtain ⟨g, h⟩ := h.guard
          obtain ⟨g1, g2, g3⟩ := pop_ix q2 (by simpa using g)
          refine ⟨_, by simp only [bmTy, q1]; exact .pop, rdM.of (show MtR X _ _ from mt_popAt) ⟨_, zs, i, k, z, rfl, rfl, e2, g1, g2, by rw [← r2.length]; exact g3, e3, ?_⟩⟩
          obtain ⟨S1, E1⟩ := S.write (o' := .list false (vs.eraseIdx k)) (u := .lst (zs.eraseIdx k)) q1 ha rfl rfl fun c' e1 e2 E => by
            have := (r2.eraseIdx k).mono S E
            rw [e1, e2] at this
            exact ⟨_, this, upd_same⟩
          exact h _ _ S1 E1 _ (r3.mono S E1)
        · exact h.elim
      · exact h.elim
    · exact h.elim
  · rename_i k
    cases rx with | ref ha => cases rs with | cons r1 rs => cases rs with | nil => cases r1 with | str _ hk =>
    split at h
    · rename_i kvs q1
      split at h
      · rename_i v q2
        obtain ⟨zs, r2, e2⟩ := S.dictW q1 ha
        rcases r2.look (KR.str k hk) with ⟨h1, _⟩ | ⟨v', u', h1, h2, h3⟩
        · rw [q2] at h1; cases h1
        · rw [q2] at h1; cases h1
          refine ⟨_, by simp only [bmTy, q1]; exact .popD, fun pins s σ w' us' I rv rus => ?_⟩
          obtain rfl : w' = Value.ref _ := rv
          obtain ⟨z, rfl, rz⟩ := Vals.one rus
          obtain ⟨S1, E1⟩ := S.write (o' := .dict false (Ev.drop kvs (.str k))) (u := .dK (dropK zs (.inr (asTx k)))) q1 ha rfl rfl fun c' e1 e2 E => by
            have := (r2.drop (KR.str k hk)).mono S E
            rw [e1, e2] at this
            exact ⟨_, this, upd_same⟩
          exact d_pop (k := .inr (asTx k)) I e2 rz h2 (.inl rfl) fun w'' s3 I3 rw' => ⟨u', _, I3, rw', h _ _ S1 E1 _ (h3.mono S E1)⟩
      · exact h.elim
    · exact h.elim
  · cases rx with | ref ha => cases rs with | cons r1 rs => cases rs with | nil =>
    split at h
    · rename_i kvs q1
      obtain ⟨g, h⟩ := h.guard
      obtain ⟨zs, r2, e2⟩ := S.dictW q1 ha
      obtain ⟨k', rk, rfl⟩ := KR.toKey r1 g
      refine ⟨_, by simp only [bmTy, q1]; exact .get, fun pins s σ w' us' I rv rus => ?_⟩
      obtain rfl : w' = Value.ref _ := rv
      obtain ⟨z, rfl, rz⟩ := Vals.one rus
      refine d_get1 (by omega) I (.inl ⟨zs, k', .inl e2, rfl, rfl⟩) rz fun w'' s3 I3 rw' => ⟨_, _, I3, rw', ?_⟩
      rcases r2.look rk with ⟨h1, h2⟩ | ⟨v', u', h1, h2, h3⟩
      · rw [h1] at h; rw [h2]; exact h.val S .non
      · rw [h1] at h; rw [h2]; exact h.val S h3
    · exact h.elim
  · cases rx with | ref ha => cases rs with | cons r1 rs => cases rs with | cons r1' rs => cases rs with | nil =>
    split at h
    · rename_i kvs q1
      obtain ⟨g, h⟩ := h.guard
      obtain ⟨zs, r2, e2⟩ := S.dictW q1 ha
      obtain ⟨k', rk, rfl⟩ := KR.toKey r1 g
      refine ⟨_, by simp only [bmTy, q1]; exact .get, fun pins s σ w' us' I rv rus => ?_⟩
      obtain rfl : w' = Value.ref _ := rv
      obtain ⟨z, z', rfl, rz, rz'⟩ := Vals.two rus
      refine d_get2 (by omega) I (.inl ⟨zs, k', .inl e2, rfl, rfl⟩) rz rz' fun w'' s3 I3 rw' => ⟨_, _, I3, rw', ?_⟩
      rcases r2.look rk with ⟨h1, h2⟩ | ⟨v', u', h1, h2, h3⟩
      · rw [h1] at h; rw [h2]; exact h.val S r1'
      · rw [h1] at h; rw [h2]; exact h.val S h3
    · exact h.elim
  · cases rx with | str s hs => cases rs with | cons r1 rs => cases rs with | nil =>
    split at h
    · rename_i vs q1
      split at h
      · rename_i ss q2
        obtain ⟨g, h⟩ := h.guard
        simp only [decide_eq_true_eq] at g
        obtain ⟨p, zs, rfl, r2, hq⟩ := seqOf_ok S r1 q1
        obtain ⟨e, ha⟩ := allStr_ok r2 q2
        subst e
        refine ⟨_, .join, rdM.of mt_join ⟨_, p, ss.map asTx, rfl, rfl, by rw [hK, List.map_map]; exact hq, ?_, ?_⟩⟩
        · rw [List.map_map, List.length_map, asTx_len]
          have : ss.map ((fun x : Str => x.length) ∘ asTx) = ss.map List.length := List.map_congr_left fun x _ => asTx_len x
          rw [this, Nat.mul_comm]
          exact g
        · rw [join_eq]
          exact h.val S (.str _ (join_ascii hs ha))
      · exact h.elim
    · exact h.elim
  · rename_i s k0
    cases rx with | str _ hs => cases rs with | cons r1 rs => cases rs with | nil => cases r1 with | str _ hk =>
    obtain ⟨g, h⟩ := h.guard
    simp only [decide_eq_true_eq] at g
    refine ⟨_, .split, rdM.of mt_split ⟨_, _, rfl, rfl, rfl, by rw [asTx_len]; exact g, fun p n => ?_⟩⟩
    have e : Txt.split (asTx s) (asTx [k0]) = (Ev.splitOn k0 s).map asTx := by
      have e1 := SX.split_S (a := s) (b := [k0]) (by simp) (by simp; have := hk k0 (by simp); omega)
      rw [spl_eq] at e1
      cases q : Ev.splitOn k0 s with
      | nil => exact absurd q (splitOn_ne k0 s)
      | cons l ls => rw [q] at e1; simp only [List.nil_append] at e1; exact e1
    rw [e, List.map_map]
    exact h.newList S (strs_ok fun l hl x hx => hs x (splitOn_mem k0 s l hl x hx)) n
  · rename_i s k0 p0
    cases rx with | str _ hs => cases rs with | cons r1 rs => cases rs with | nil => cases r1 with | str _ hk =>
    obtain ⟨g, h⟩ := h.guard
    simp only [decide_eq_true_eq] at g
    refine ⟨_, .partition, rdM.of mt_partition ⟨_, _, rfl, rfl, rfl, by rw [asTx_len]; exact g, fun p n => ?_⟩⟩
    have ep := par_eq (k0 :: p0) s []
    cases q : Ev.cutAt (k0 :: p0) s with
    | none =>
      rw [q] at ep
      have e1 : Txt.partition (asTx s) (asTx (k0 :: p0)) = (asTx s, asTx [], asTx []) := SX.partition_none (by simp) ep
      rw [e1]
      simp only [q] at h
      exact h.newTup S (.cons (.str _ hs) (.cons (.str [] (by simp)) (.cons (.str [] (by simp)) .nil))) n
    | some lr =>
      obtain ⟨l, r⟩ := lr
      rw [q] at ep
      have e1 : Txt.partition (asTx s) (asTx (k0 :: p0)) = (asTx l, asTx (k0 :: p0), asTx r) := SX.partition_some (by simp) (by simpa using ep)
      rw [e1]
      simp only [q] at h
      obtain ⟨m1, m2⟩ := cutAt_mem q
      exact h.newTup S (.cons (.str _ fun x hx => hs x (m1 x hx)) (.cons (.str _ hk) (.cons (.str _ fun x hx => hs x (m2 x hx)) .nil))) n
  · rename_i s
    cases rx with | str _ hs => cases rs with | cons r1 rs => cases rs with | nil => cases r1 with | str _ hk =>
    obtain ⟨v, e, h⟩ := h.opt
    simp only [Option.map_eq_some_iff] at e
    obtain ⟨t, e, rfl⟩ := e
    have key : s.length ≤ 4 ∧ Txt.stripChars (asTx s) (asTx [32]) = asTx t ∧ ∀ x ∈ t, x < 128 := by
      unfold Ev.stripTab at e
      split at e
      · rename_i g; rw [eq_of_beq g]; cases e; exact ⟨by decide, by decide +kernel, by decide⟩
      · split at e
        · rename_i g; rw [eq_of_beq g]; cases e; exact ⟨by decide, by decide +kernel, by decide⟩
        · split at e
          · rename_i g; rw [eq_of_beq g]; cases e; exact ⟨by decide, by decide +kernel, by decide⟩
          · cases e
    refine ⟨_, .strip, rdM.of mt_stripChars ⟨_, _, rfl, rfl, by rw [asTx_len]; exact Nat.le_trans key.1 (by decide), ?_⟩⟩
    rw [key.2.1]
    exact h.val S (.str _ key.2.2)
  · exact h.elim
end
end Sd

set_option Elab.async false
set_option maxRecDepth 100000
set_option maxHeartbeats 4000000
/-! EvM1: displays of dicts with stars, at the model -/
namespace PySem
open Sem (wp)
section
variable {prog : Program} {w : World} {K : Type} [DecidableEq K] {knd : KeyKind prog w K} {A : Around} {E : Value → Shared → Prop} {s : Shared}
theorem wpAny_dictPut_pairs {d : Addr} {kvs : List (K × Value)} {k : K} {key v : Value} {Q : Unit → Shared → Prop} (hkey : knd.is k key = true) (hm : s.heap.DictOf knd d kvs)
    (hQ : ∀ h', h'.DictOf knd d (stored kvs k v) → Heap.SameBut d s.heap h' → Q () { s with heap := h' })
    (hsz : kvs.length ≤ sizeLine) :
    wpAny (model prog w) A (dictPut d (knd.hash k) key v) Q E s := by
  obtain ⟨o, es, ep, ho, hc, hd, hk, hp, hn⟩ := hm
  have hes : es.size ≤ sizeLine := by have e1 := hp.length; have e2 : es.toList.length = es.size := by simp
                                      omega
  unfold dictPut
  refine wpAny_bind (wpAny_dictFind_of hkey ho hd hk ?_)
  have hidx : (es.findIdx? fun e => knd.is k e.key) = kvs.findIdx? fun kv => decide (kv.1 = k) := by
    rw [← hp.findIdx k]; obtain ⟨l⟩ := es; simp
  cases hi : es.findIdx? fun e => knd.is k e.key with
  | some i =>
    refine wpAny_updateDict ho hd (hQ _ ⟨_, _, ep, Heap.get?_update_self _ ho (Obj.isFreed_of_dict (Obj.data_mapDict hd _)),
      hc.mapDict _, Obj.data_mapDict hd _, hk.modify _ _, ?_, ?_⟩ (Heap.SameBut.update ..))
    · rw [stored, if_pos (any_of_findIdx_some (hidx ▸ hi))]
      have hl : (es.toList.findIdx? fun e => knd.is k e.key) = some i := by rw [← hi]; obtain ⟨l⟩ := es; simp
      have := hp.modify hn hl v
      obtain ⟨l⟩ := es
      simpa using this
    · rw [stored, if_pos (any_of_findIdx_some (hidx ▸ hi)), keys_map_store]; exact hn
  | none =>
    have hnot : k ∉ kvs.map (·.1) := not_mem_of_findIdx_none (hidx ▸ hi)
    have hany : ¬ (kvs.any fun kv => decide (kv.1 = k)) = true := by
      rw [List.any_eq_true]; rintro ⟨kv, hkv, he⟩
      exact hnot (List.mem_map.mpr ⟨kv, hkv, of_decide_eq_true he⟩)
    refine wpAny_updateDictKeys (hz := hes) ho hd (hQ _ ⟨_, _, ep + 1, Heap.get?_update_self _ ho (Obj.isFreed_of_dict (Obj.data_mapDictKeys hd _)),
      hc.mapDictKeys _, Obj.data_mapDictKeys hd _, hk.push hkey _, ?_, ?_⟩ (Heap.SameBut.update ..))
    · rw [stored, if_neg hany]
      have := hp.append hkey (knd.hash k) v
      obtain ⟨l⟩ := es
      simpa using this
    · rw [stored, if_neg hany, List.map_append, List.nodup_append]
      refine ⟨hn, by simp, ?_⟩
      intro a ha b hb
      simp only [List.map_cons, List.map_nil, List.mem_singleton] at hb
      subst hb
      exact fun e => hnot (e ▸ ha)
theorem wpAny_mergeMapping {d o : Addr} {kvs more : List (K × Value)} {Q : Unit → Shared → Prop} (hdo : d ≠ o) (hoS : (o == sysModules) = false)
    (hflat : ∀ k r, knd.is k (.ref r) = false)
    (hd : s.heap.DictOf knd d kvs) (ho : s.heap.DictOf knd o more)
    (hQ : ∀ h', h'.DictOf knd d (merged kvs more) → h'.DictOf knd o more → Heap.SameBut d s.heap h' → Q () { s with heap := h' })
    (hsz : kvs.length + more.length ≤ sizeLine) :
    wpAny (model prog w) A (mergeMapping d (.ref o) false) Q E s := by
  obtain ⟨od, esd, epd, hod, hcd, hdd, hkd, hpd, hnd⟩ := id hd
  obtain ⟨oo, eso, epo, hoo, hco, hdo', hko, hpo, hno⟩ := id ho
  have hlen : more.length = eso.size := by rw [← hpo.length]; simp
  unfold mergeMapping
  refine wpAny_bind (wpAny_isInstance ho.typeIs isSubtype_dict_dict ?_)
  simp only [if_true]
  refine wpAny_bind (wpAny_specialOf ho.typeIs F.slot_dict_iter.lookup ?_)
  refine wpAny_bind (wpAny_pure ?_)
  simp only [beq_self_eq_true]
  simp only [hoS, Bool.false_eq_true, if_false]
  refine wpAny_bind (wpAny_dictEntries hod hdd ?_)
  have loop : wpAny (model prog w) A (do
      let l ← dictEntries o
      let epoch ← dictEpoch o
      forIn (List.range l.size) PUnit.unit fun i (_ : PUnit) => (do
          let l' ← dictEntries o
          match l'[i]? with
            | some e => do
              holding [e.key, e.val] (dictPut d e.hash e.key e.val)
              let ep' ← dictEpoch o
              if (ep' != epoch) = true then do
                  (unsupported "dict.changed-during-merge" : Sem PUnit)
                  pure (ForInStep.yield PUnit.unit)
                else pure (ForInStep.yield PUnit.unit)
            | _ => do
              (unsupported "dict.changed-during-merge" : Sem PUnit)
              pure (ForInStep.yield PUnit.unit) : Sem (ForInStep PUnit))
      pure ()) Q E s := by
    refine wpAny_bind (wpAny_dictEntries hoo hdo' ?_)
    refine wpAny_bind (wpAny_dictEpoch hoo hdo' ?_)
    refine wpAny_bind ?_
    rw [List.range_eq_range']
    refine wpAny_forIn_list _
      (fun rest _ s' => ∃ h' i, s' = { s with heap := h' } ∧ rest = List.range' i (eso.size - i) ∧ i ≤ eso.size ∧ h'.DictOf knd d (merged kvs (more.take i)) ∧ h'.get? o = some oo ∧ Heap.SameBut d s.heap h')
      _ ?_ ?_ _ _ ⟨s.heap, 0, rfl, by simp, Nat.zero_le _, by simpa [merged] using hd, hoo, Heap.SameBut.refl _ _⟩
    · rintro x rest b s' ⟨h', i, rfl, hr, hi, hd', hoo', hs'⟩
      have hlt : i < eso.size := by
        rcases Nat.lt_or_ge i eso.size with h | h
        · exact h
        · rw [Nat.sub_eq_zero_of_le h] at hr; simp at hr
      obtain ⟨rfl, hrest⟩ : x = i ∧ rest = List.range' (i + 1) (eso.size - (i + 1)) := by
        have e : eso.size - i = (eso.size - (i + 1)) + 1 := by omega
        rw [e, List.range'_succ] at hr
        injection hr with h1 h2
        exact ⟨h1, h2⟩
      refine wpAny_bind (wpAny_dictEntries hoo' hdo' ?_)
      rw [Array.getElem?_eq_getElem hlt]
      obtain ⟨kv, hkv⟩ : ∃ kv, more[x]? = some kv := ⟨more[x]'(by rw [hlen]; exact hlt), List.getElem?_eq_getElem _⟩
      obtain ⟨k, v⟩ := kv
      obtain ⟨hkey, hval⟩ := hpo.get? (e := eso[x]) (by simp [hlt]) hkv
      obtain ⟨k', hkey', hhash⟩ := hko eso[x] (Array.getElem_mem hlt)
      obtain rfl : k' = k := knd.inj _ _ _ hkey' hkey
      show wpAny _ _ (holding [eso[x].key, eso[x].val] (dictPut d eso[x].hash eso[x].key eso[x].val) >>= _) _ _ _
      rw [hhash, hval]
      have hmx : (merged kvs (more.take x)).length ≤ sizeLine := by
        have e1 := merged_length_le kvs (more.take x)
        have e2 : (more.take x).length ≤ more.length := by rw [List.length_take]; omega
        omega
      refine wpAny_bind (wpAny_holding (wpAny_dictPut_pairs (hsz := hmx) hkey hd' fun h'' hd'' hs'' => ?_))
      have hoo'' : h''.get? o = some oo := (hs''.2 o (Ne.symm hdo)).trans hoo'
      refine wpAny_bind (wpAny_dictEpoch hoo'' hdo' ?_)
      rw [if_neg (by simp)]
      exact wpAny_pure ⟨h'', x + 1, rfl, hrest, hlt, by rw [merged_take_succ kvs more x (k', v) hkv]; exact hd'', hoo'', hs'.trans hs''⟩
    · rintro b s' ⟨h', i, rfl, hr, hi, hd', hoo', hs'⟩
      have hin : i = eso.size := by
        rcases Nat.lt_or_ge i eso.size with h | h
        · have e : eso.size - i = (eso.size - (i + 1)) + 1 := by omega
          rw [e, List.range'_succ] at hr; exact nomatch hr
        · exact Nat.le_antisymm hi h
      refine wpAny_pure (hQ h' ?_ ⟨oo, eso, epo, hoo', hco, hdo', hko, hpo, hno⟩ hs')
      rw [hin, ← hlen, List.take_length] at hd'; exact hd'
  try dsimp only
  split
  · refine wpAny_bind (wpAny_dictEntries hoo hdo' ?_)
    refine wpAny_bind ?_
    rw [Array.forIn_toList.symm]
    refine wpAny_forIn_list _ (fun rest _ s' => s' = s ∧ ∀ e ∈ rest, e ∈ eso) _ ?_ ?_ _ _ ⟨rfl, fun e he => by simpa using he⟩
    · rintro x rest b s' ⟨rfl, hr⟩
      obtain ⟨k, hk, _⟩ := hko x (hr x List.mem_cons_self)
      cases q : x.key with
      | ref r => rw [q, hflat] at hk; cases hk
      | _ => exact wpAny_pure ⟨rfl, fun e he => hr e (List.mem_cons_of_mem _ he)⟩
    · rintro b s' ⟨rfl, _⟩
      exact loop
  · exact loop

abbrev Nox : Value → Shared → Prop := fun _ _ => False
theorem star_merge {M : Model} {m : Sem Unit} {l : List Value} {k1 k3 : Value → Sem Unit} {k2 : Value → Sem Unit} {Q : Unit → Shared → Prop} (h : wpAny M A m Q Nox s) :
    wpAny M A ((((holding l m).onRaise k1).tryCatch k2).onRaise k3) Q E s :=
  wpAny_onRaise (wpAny_tryCatch (wpAny_onRaise (wpAny_holding (wpAny_mono h (fun _ _ q => q) fun _ _ q => q.elim))))
theorem run_merge {M : Model} {m : Sem Unit} {l : List Value} {k1 : Value → Sem Unit} {Q : Unit → Shared → Prop} (h : wpAny M A m Q Nox s) :
    wpAny M A ((holding l m).onRaise k1) Q E s :=
  wpAny_onRaise (wpAny_holding (wpAny_mono h (fun _ _ q => q) fun _ _ q => q.elim))
theorem wpAny_disp_ss {a b : Sem Value} {Q : Value → Shared → Prop}
    (h : wpAny (model prog w) A a (fun u s1 => wpAny (model prog w) A (mergeMapping s.heap.objs.size u false) (fun _ s2 => wpAny (model prog w) A b (fun v s3 => wpAny (model prog w) A (mergeMapping s.heap.objs.size v false) (fun _ s4 => Q (.ref s.heap.objs.size) s4) Nox s3) E s2) Nox s1) E { s with heap := s.heap.push { cls := .type "dict", data := .dict #[] } }) :
    wpAny (model prog w) A (dictDisplay [(none, a), (none, b)]) Q E s := by
  unfold dictDisplay
  dsimp only
  rw [List.forIn_cons]
  dsimp only
  simp only [List.isEmpty_nil, if_true, pure_bind, bind_assoc]
  refine wpAny_bind (wpAny_alloc ?_)
  refine wpAny_bind (wpAny_holding (wpAny_mono h (fun u s1 h1 => ?_) fun _ _ e => e))
  refine wpAny_bind (star_merge (wpAny_mono h1 (fun _ s2 h2 => ?_) fun _ _ e => e))
  rw [List.forIn_cons]
  dsimp only
  simp only [List.isEmpty_nil, if_true, pure_bind, bind_assoc]
  refine wpAny_bind (wpAny_holding (wpAny_mono h2 (fun v s3 h3 => ?_) fun _ _ e => e))
  refine wpAny_bind (star_merge (wpAny_mono h3 (fun _ s4 h4 => ?_) fun _ _ e => e))
  rw [List.forIn_nil]
  simp only [List.isEmpty_nil, if_true, pure_bind, bind_assoc]
  exact wpAny_pure h4
theorem wpAny_disp_sk {a k v : Sem Value} {Q : Value → Shared → Prop}
    (h : wpAny (model prog w) A a (fun u s1 => wpAny (model prog w) A (mergeMapping s.heap.objs.size u false) (fun _ s2 => wpAny (model prog w) A (subDict [(k, v)]) (fun sub s3 => wpAny (model prog w) A (mergeMapping s.heap.objs.size (.ref sub) false) (fun _ s4 => Q (.ref s.heap.objs.size) s4) Nox s3) E s2) Nox s1) E { s with heap := s.heap.push { cls := .type "dict", data := .dict #[] } }) :
    wpAny (model prog w) A (dictDisplay [(none, a), (some k, v)]) Q E s := by
  unfold dictDisplay
  dsimp only
  rw [List.forIn_cons]
  dsimp only
  simp only [List.isEmpty_nil, if_true, pure_bind, bind_assoc]
  refine wpAny_bind (wpAny_alloc ?_)
  refine wpAny_bind (wpAny_holding (wpAny_mono h (fun u s1 h1 => ?_) fun _ _ e => e))
  refine wpAny_bind (star_merge (wpAny_mono h1 (fun _ s2 h2 => ?_) fun _ _ e => e))
  rw [List.forIn_cons]
  dsimp only
  have e17 : ((([] : List (Sem Value × Sem Value)) ++ [(k, v)]).length == 17) = false := rfl
  simp only [e17, Bool.false_eq_true, if_false, pure_bind]
  rw [List.forIn_nil]
  have e0 : (([] : List (Sem Value × Sem Value)) ++ [(k, v)]).isEmpty = false := rfl
  simp only [e0, Bool.false_eq_true, if_false, pure_bind, bind_assoc]
  refine wpAny_bind (wpAny_holding (wpAny_mono h2 (fun sub s3 h3 => ?_) fun _ _ e => e))
  refine wpAny_bind (run_merge (wpAny_mono h3 (fun _ s4 h4 => ?_) fun _ _ e => e))
  exact wpAny_pure h4
end
end PySem

set_option Elab.async false
set_option maxRecDepth 100000
set_option maxHeartbeats 4000000
/-! EvM2: displays of dicts with stars, as readings -/
namespace L2
open PySem PySem.Spec PyProof.Rows
theorem mix_flat {P : Program} {w : World} (k : Key) (r : Addr) : (mixKind P w).is k (.ref r) = false := by cases k <;> rfl
theorem d_merge {X : Cx} {pins : List (Addr × Obj)} {σ : St} {H : Hp} {s : Shared} {A : Around} {E : Value → Shared → Prop} {p o : Addr} {kvs more : List (Key × V)} {Q : Unit → Shared → Prop} (I : Inv X pins σ H s) (ep : H p = some (.dK kvs)) (eo : Rd H o (.dK more)) (ne : p ≠ o) (hz : kvs.length + more.length ≤ sizeLine)
    (h : ∀ s', Inv X pins σ (upd H p (.dK (mergeK kvs more))) s' → Q () s') : wpAny (model X.prog X.w) A (mergeMapping p (.ref o) false) Q E s := by
  obtain ⟨z, hd, vs, rel, dd⟩ := dk_of I.hok ep
  obtain ⟨z', hd', vs', rel', dd'⟩ := dk_rd I.hok eo
  refine wpAny_mergeMapping (knd := mixKind X.prog X.w) ne hd' mix_flat dd dd' (fun h' q1 q2 hs => ?_) (by rw [← rel.length, ← rel'.length]; exact hz)
  have he : ∃ q, h'.get? p = some q := let ⟨q, _, _, hq, _⟩ := q1; ⟨q, hq⟩
  exact h _ (d_write I (by rw [ep]; exact True.intro) hs he (dk_new (by have := length_mergeK more kvs; omega) hd (rel'.merge rel) q1))
/-- {**a, **b} -/
def tSS (ta tb : TE) : TE := fun σ H Q => ∀ p, H p = none → ta σ (upd H p (.dK [])) fun x H1 => H1 p = some (.dK []) ∧ ∃ a ka, x = .ref a ∧ p ≠ a ∧ Rd H1 a (.dK ka) ∧ ka.length ≤ sizeLine ∧
  tb σ (upd H1 p (.dK (mergeK [] ka))) fun y H2 => H2 p = some (.dK (mergeK [] ka)) ∧ ∃ b kb, y = .ref b ∧ p ≠ b ∧ Rd H2 b (.dK kb) ∧ (mergeK [] ka).length + kb.length ≤ sizeLine ∧ Q (.ref p) (upd H2 p (.dK (mergeK (mergeK [] ka) kb)))
theorem pe_ss {X : Cx} {pos : Pos} {a b : Expr} {ta tb : TE} (ha : PE X a ta) (hb : PE X b tb) : PE X (.Dict [none, none] [a, b] pos) (tSS ta tb) := by
  refine ⟨fun pins s σ H Q I q => ?_⟩
  have hn := I.hok.fresh (Nat.le_refl s.heap.objs.size)
  have I1 := I.laid (a := s.heap.objs.size) (o := .dK []) (h' := s.heap.push { cls := .type "dict", data := .dict #[] }) (t' := s.toks) (fun _ _ q => Heap.get?_push_of_some _ q) (Nat.le_refl _) (dk_empty s.heap I.big)
  rw [arm_eval_Dict]
  refine wpAny_bind (wpAny_standAt ?_)
  refine wpAny_disp_ss (wpAny_bind (thn (ha.run pins _ σ _ _ I1 (q _ hn)) fun u s1 ⟨x, H1, I1, rx, e1, aa, ka, ex, na, ea, za, q1⟩ => wpAny_bind (wpAny_standAt (wpAny_pure ?_))))
  subst ex
  obtain rfl : u = Value.ref aa := rx
  refine d_merge I1 e1 ea na (by simpa using za) fun s2 I2 => ?_
  refine wpAny_bind (thn (hb.run pins _ σ _ _ I2 q1) fun v s3 ⟨y, H3, I3, ry, e3, bb, kb, ey, nb, eb, zb, q3⟩ => wpAny_bind (wpAny_standAt (wpAny_pure ?_)))
  subst ey
  obtain rfl : v = Value.ref bb := ry
  exact d_merge I3 e3 eb nb zb fun s4 I4 => ⟨.ref s.heap.objs.size, _, I4, rfl, q3⟩
/-- {**a, k: v} -/
def tSK (ta tk tv : TE) : TE := fun σ H Q => ∀ p, H p = none → ta σ (upd H p (.dK [])) fun x H1 => H1 p = some (.dK []) ∧ ∃ a ka, x = .ref a ∧ p ≠ a ∧ Rd H1 a (.dK ka) ∧ ka.length ≤ sizeLine ∧
  ∀ r, upd H1 p (.dK (mergeK [] ka)) r = none → tk σ (upd (upd H1 p (.dK (mergeK [] ka))) r (.dK [])) fun y H2 => tv σ H2 fun z H3 => H3 r = some (.dK []) ∧ H3 p = some (.dK (mergeK [] ka)) ∧ p ≠ r ∧ (mergeK [] ka).length + 1 ≤ sizeLine ∧ ∃ k, y = kV k ∧
    Q (.ref p) (upd (upd H3 r (.dK [(k, z)])) p (.dK (mergeK (mergeK [] ka) [(k, z)])))
theorem pe_sk {X : Cx} {pos : Pos} {a k v : Expr} {ta tk tv : TE} (ha : PE X a ta) (hk : PE X k tk) (hv : PE X v tv) : PE X (.Dict [none, some k] [a, v] pos) (tSK ta tk tv) := by
  refine ⟨fun pins s σ H Q I q => ?_⟩
  have hn := I.hok.fresh (Nat.le_refl s.heap.objs.size)
  have I1 := I.laid (a := s.heap.objs.size) (o := .dK []) (h' := s.heap.push { cls := .type "dict", data := .dict #[] }) (t' := s.toks) (fun _ _ q => Heap.get?_push_of_some _ q) (Nat.le_refl _) (dk_empty s.heap I.big)
  rw [arm_eval_Dict]
  refine wpAny_bind (wpAny_standAt ?_)
  refine wpAny_disp_sk (wpAny_bind (thn (ha.run pins _ σ _ _ I1 (q _ hn)) fun u s1 ⟨x, H1, I1, rx, e1, aa, ka, ex, na, ea, za, q1⟩ => wpAny_bind (wpAny_standAt (wpAny_pure ?_))))
  subst ex
  obtain rfl : u = Value.ref aa := rx
  refine d_merge I1 e1 ea na (by simp only [List.length_nil]; omega) fun s2 I2 => ?_
  have hn2 := I2.hok.fresh (Nat.le_refl s2.heap.objs.size)
  have I3 := I2.laid (a := s2.heap.objs.size) (o := .dK []) (h' := s2.heap.push { cls := .type "dict", data := .dict #[] }) (t' := s2.toks) (fun _ _ q => Heap.get?_push_of_some _ q) (Nat.le_refl _) (dk_empty s2.heap I2.big)
  refine wpAny_subDict (knd := mixKind X.prog X.w) (Nat.le_of_ble_eq_true rfl) (evalPairs_cons (thn (hk.run pins _ σ _ _ I3 (q1 _ hn2)) fun y s3 ⟨y', H3, I3, ry, q3⟩ => wpAny_bind (thn (hv.run pins _ σ _ _ I3 q3) fun z s4 ⟨z', H4, I4, rz, er, ep, npr, zm, kk, ek, q4⟩ => wpAny_bind (wpAny_standAt (wpAny_pure (evalPairs_nil ?_))))))
  subst ek
  obtain ⟨z1, hd1, vs1, rel1, dd1⟩ := dk_of I4.hok er
  cases rel1
  refine ⟨[(kk, z)], ⟨kV_is ry, rfl, True.intro⟩, dd1, fun h' dd' hs => ?_⟩
  have he : ∃ q, h'.get? s2.heap.objs.size = some q := let ⟨q, _, _, hq, _⟩ := dd'; ⟨q, hq⟩
  have I5 := d_write (t' := s4.toks + 1) I4 (by rw [er]; exact True.intro) hs he (dk_new (kvs := [(kk, z')]) (by rw [sizeLine_eq]; simp) hd1 (.cons ⟨rfl, rz⟩ .nil) dd')
  have ep' : upd H4 s2.heap.objs.size (.dK [(kk, z')]) s.heap.objs.size = some (.dK (mergeK [] ka)) := by rw [upd_ne npr]; exact ep
  refine d_merge I5 ep' (.inl (upd_same)) npr (by simpa using zm) fun s6 I6 => ⟨.ref s.heap.objs.size, _, I6, rfl, q4⟩
end L2

set_option Elab.async false
set_option maxRecDepth 100000
set_option maxHeartbeats 4000000
/-! EvS6: the checker: own syntax against the text's own -/
namespace Sd
open PySem PySem.Spec PyProof.Rows L2
/-- what the numbers of the own syntax stand for in the text -/
structure Gm where
  gf : Nat → Option Str
  gc : Nat → Option Str
  gk : Nat → Option Str
  fnm : Nat → Str
  nf : Nat
/-- where a piece of syntax stands: the running scope; the names whose cells are the frame's own; a def's names by slot -/
structure SC where
  sc : Scope
  fn : Str → Bool
  N : List Str
def visB (sc : Scope) (x : Str) : Bool := match sc.names.lookup x with
  | some .local | some .cell | some .free => true
  | _ => false
def glB (sc : Scope) (x : Str) : Bool := match sc.names.lookup x with
  | some .globalImplicit => true
  | _ => false
def locB (s : SC) (x : Str) : Bool := match s.sc.names.lookup x with
  | some .local => true
  | some .cell => s.fn x
  | _ => false
def dbg (x : Str) : Bool := (x == ("__debug__" : Str)) || (x == ("__classdict__" : Str)) || (x == ("__name__" : Str))
def notSet : Expr → Bool
  | .Set .. => false
  | _ => true
def notSlice : Expr → Bool
  | .Slice .. => false
  | _ => true
def notCall0 : Expr → Bool
  | .Call (.Name _ _) [] [] _ => false
  | _ => true
def biNm : Ev.Bi → Str
  | .len => "len" | .abs => "abs" | .int => "int" | .str => "str" | .max => "max" | .min => "min" | .sum => "sum" | .any => "any" | .all => "all" | .sorted => "sorted" | .list => "list"
  | .tuple => "tuple" | .dict => "dict" | .repr => "repr" | _ => ""
def tyNm : Ev.Ty → Str
  | .int => "int" | .bool => "bool" | .str => "str" | .list => "list" | .tuple => "tuple" | .dict => "dict" | .own _ => ""
/-- built-in classes by their names -/
def chkTys (s : SC) : List Ev.Ty → List Expr → Bool
  | [], [] => true
  | t :: ts, .Name x _ :: xs => decide (x = tyNm t) && !(tyNm t == "") && glB s.sc x && chkTys s ts xs
  | _, _ => false
def chkTy (s : SC) : List Ev.Ty → Expr → Bool
  | [t], .Name x p => chkTys s [t] [.Name x p]
  | ts, .Tuple xs _ _ => decide (ts.length ≤ 9) && chkTys s ts xs
  | _, _ => false
def isTxt : Ev.E → Bool
  | .con (.str _) => true
  | _ => false
def chkCon : Ev.Val → Const → Bool
  | .non, .none => true
  | .bl a, .bool b => a == b
  | .int i, .int j => decide (i = j)
  | .str s, .str t => decide (asTx s = t) && s.all (· < 128)
  | _, _ => false
mutual
def chkP (s : SC) : Ev.Pat → Expr → Bool
  | .v i, .Name x _ => decide (s.N[i]? = some x) && locB s x
  | .t ps, .Tuple es _ _ => chkPs s ps es
  | _, _ => false
def chkPs (s : SC) : List Ev.Pat → List Expr → Bool
  | [], [] => true
  | p :: ps, e :: es => chkP s p e && chkPs s ps es
  | _, _ => false
end
mutual
def pvars : Ev.Pat → List Nat
  | .v i => [i]
  | .t ps => pvarss ps
def pvarss : List Ev.Pat → List Nat
  | [] => []
  | p :: ps => pvars p ++ pvarss ps
end
def isTup : Expr → Bool
  | .Tuple .. => true
  | _ => false
def okIfs : Ev.Es → Bool
  | .nil => true
  | .cons false _ .nil => true
  | _ => false
/-- the displays of dicts that are carried -/
def kvOnly : Ev.Ds → Option Nat
  | .nil => some 0
  | .kv _ _ ds => (kvOnly ds).map (· + 1)
  | .star _ _ => none
def okDs : Ev.Ds → Bool
  | .star _ (.star _ .nil) => true
  | .star _ (.kv _ _ .nil) => true
  | ds => match kvOnly ds with
    | some n => decide (n ≤ 15)
    | none => false
/-- a block's own names with their slots -/
def ownOf (N : List Str) (own : List Nat) : List (Str × Nat) := own.map fun i => (N.getD i "", i)
def blkSC (s : SC) (scope : Scope) : SC := ⟨relS scope s.sc, fun x => scope.names.lookup x == some .cell, s.N⟩
section
variable (M : Gm)
mutual
def chkE (s : SC) : Ev.E → Expr → Bool
  | .var i, .Name x _ => decide (s.N[i]? = some x) && visB s.sc x && !dbg x
  | .con v, .Constant k _ _ => chkCon v k
  | .glob g, .Name x _ => decide (M.gk g = some x) && glB s.sc x && !dbg x
  | .bin op a b, .BinOp l o r _ => decide (o = opOf op) && chkE s a l && chkE s b r
  | .neg a, .UnaryOp .USub e _ => chkE s a e
  | .not a, .UnaryOp .Not e _ => chkE s a e
  | .and a b, .BoolOp .And (x :: y :: r) pos => chkE s a x && (match r with | [] => chkE s b y | _ :: _ => chkE s b (.BoolOp .And (y :: r) pos))
  | .or a b, .BoolOp .Or (x :: y :: r) pos => chkE s a x && (match r with | [] => chkE s b y | _ :: _ => chkE s b (.BoolOp .Or (y :: r) pos))
  | .cmp op a b, .Compare l [o] [r] _ => decide (o = copOf op) && notSet r && chkE s a l && chkE s b r
  | .chain o1 o2 a b k, .Compare l [p1, p2] [r1, r2] _ => decide (p1 = copOf o1) && decide (p2 = copOf o2) && notSet r1 && notSet r2 && chkE s a l && chkE s b r1 && chkE s k r2
  | .ife k a b, .IfExp t x y _ => chkE s k t && chkE s a x && chkE s b y
  | .tup es, .Tuple xs _ _ => chkEl s es xs
  | .lst es, .List xs _ => chkEl s es xs
  | .dic ds, .Dict ks vs _ => okDs ds && chkDs s ds ks vs
  | .lc own p it ifs elt, .ListComp x [⟨tg, iter, cs, k⟩] scope _ => decide (k = 0) && okIfs ifs && chkIt s it tg iter && notSet iter && blkC s.N s.sc scope (ownOf s.N own) && (pvars p).all (own.contains ·) && chkP (blkSC s scope) p tg && chkEs (blkSC s scope) ifs cs && chkE (blkSC s scope) elt x
  | .sub o i, .Subscript x y _ => notSlice y && chkE s o x && chkE s i y
  | .slc o lo hi, .Subscript x (.Slice l u none _) _ => chkE s o x && chkOe s lo l && chkOe s hi u
  | .attr o f, .Attribute x n _ => decide (n = M.fnm f) && decide (f < M.nf) && notCall0 x && chkE s o x
  | .call f as, .Call (.Name x _) xs [] _ => decide (M.gf f = some x) && glB s.sc x && !dbg x && chkEs s as xs
  | .new k as, .Call (.Name x _) xs [] _ => decide (M.gc k = some x) && glB s.sc x && !dbg x && chkEs s as xs
  | .meth o m as, .Call (.Attribute x n apos) xs [] pos => decide (n = M.fnm m) && decide (m < M.nf) && notCall0 x && (apos.endLine == pos.line) && decide (xs.length < 29) && chkE s o x && chkEs s as xs
  | .bi b as, .Call (.Name x _) xs [] _ => decide (x = biNm b) && biPlain b && glB s.sc x && !xs.isEmpty && chkEs s as xs
  | .bm m o as, .Call (.Attribute x n apos) xs [] pos => decide (n = bmName m) && notCall0 x && (apos.endLine == pos.line) && decide (xs.length < 29) && chkE s o x && chkEs s as xs
  | .isi e ts, .Call (.Name x _) [y, z] [] _ => decide (x = "isinstance") && glB s.sc x && chkE s e y && chkTy s ts z
  | .fstr es, .JoinedStr xs _ => decide (2 ≤ xs.length) && chkFs s es xs
  | _, _ => false
/-- parts of an f-string -/
def chkFs (s : SC) : Ev.Es → List Expr → Bool
  | .nil, [] => true
  | .cons false e es, .Constant k j p :: xs => isTxt e && chkE s e (.Constant k j p) && chkFs s es xs
  | .cons false e es, .FormattedValue x cv none _ :: xs => decide (cv = -1) && chkE s e x && chkFs s es xs
  | _, _ => false
/-- arguments: no star -/
def chkEs (s : SC) : Ev.Es → List Expr → Bool
  | .nil, [] => true
  | .cons false e es, x :: xs => chkE s e x && chkEs s es xs
  | _, _ => false
/-- items of a display -/
def chkEl (s : SC) : Ev.Es → List Expr → Bool
  | .nil, [] => true
  | .cons false e es, x :: xs => chkE s e x && chkEl s es xs
  | .cons true e es, .Starred x _ :: xs => chkE s e x && chkEl s es xs
  | _, _ => false
def chkDs (s : SC) : Ev.Ds → List (Option Expr) → List Expr → Bool
  | .nil, [], [] => true
  | .kv k v ds, some x :: xs, y :: ys => chkE s k x && chkE s v y && chkDs s ds xs ys
  | .star e ds, none :: xs, y :: ys => chkE s e y && chkDs s ds xs ys
  | _, _, _ => false
def chkOe (s : SC) : Ev.Oe → Option Expr → Bool
  | .none, none => true
  | .some e, some x => chkE s e x
  | _, _ => false
def chkIt (s : SC) : Ev.It → Expr → Expr → Bool
  | .ex e, _, x => chkE s e x
  | .range1 e, _, .Call (.Name f _) [x] [] _ => decide (f = "range") && glB s.sc f && chkE s e x
  | .range2 a b, _, .Call (.Name f _) [x, y] [] _ => decide (f = "range") && glB s.sc f && chkE s a x && chkE s b y
  | .enum e, tg, .Call (.Name f _) [x] [] _ => decide (f = "enumerate") && glB s.sc f && isTup tg && chkE s e x
  | .zip a b, tg, .Call (.Name f _) [x, y] [] _ => decide (f = "zip") && glB s.sc f && isTup tg && chkE s a x && chkE s b y
  | .items e, tg, .Call (.Attribute x n apos) [] [] pos => decide (n = "items") && notCall0 x && (apos.endLine == pos.line) && isTup tg && chkE s e x
  | _, _, _ => false
end
end
end Sd

set_option Elab.async false
set_option maxRecDepth 100000
set_option maxHeartbeats 4000000
/-! EvS7: contexts; patterns; what expressions of the own syntax tell of those of the text -/
namespace Sd
open PySem PySem.Spec PyProof.Rows L2
/-- a def's promise, by the evaluator -/
def spF (Z : Ab) (F : Ev.Fn) (f : Nat) : Sp := fun vs H Q _ => ∃ c args, Sim Z c ∧ c.H = H ∧ VRs Z c.m c.H args vs ∧ Fit Z c (F f args c.h) (VQ Z Q)
def biNames : List Str := ["len", "abs", "int", "str", "max", "min", "sum", "any", "all", "sorted", "list", "tuple", "dict", "repr", "range", "enumerate", "zip", "isinstance", "set", "bool"]
/-- what a def at hand is: its address, data, parameters, and that it keeps the evaluator's promise -/
def DefAt (Z : Ab) (F : Ev.Fn) (X : Cx) (f : Nat) (j : Nat) (a : Addr) : Prop := ∃ fd ps k, Binds X.K fd ps [] ∧ FnOk X.prog X.w X.K X.mg X.base CX0 k a fd ps (spF Z F f) ∧ Room (k + j) X.A
structure Ck (Z : Ab) (M : Gm) (P : Ev.Pg) (F : Ev.Fn) (s : SC) (X : Cx) : Prop where
  K : X.K = Z.K
  nm : M.fnm = Z.fnm
  nf : M.nf = Z.nf
  sc : X.env.scope = s.sc
  kind : s.sc.kind = .function
  fn : ∀ x, s.fn x = true → X.fn x = true
  N : X.N = s.N
  nd : s.N.Nodup
  calm : X.calm = true
  room : Room 1 X.A
  xe : X.xe = fun _ _ => False
  bi : ∀ x ∈ biNames, X.mg x = none
  con : ∀ g x v, M.gk g = some x → P.consts[g]? = some v → ∃ u w, X.mg x = some u ∧ RelV w u ∧ ∀ m H, VR Z m H v w
  fun_ : ∀ f x, M.gf f = some x → ∃ a, X.mg x = some (.ref a) ∧ PySem.W.keepIn X.K (.ref a) = true ∧ DefAt Z F X f 0 a
  cls : ∀ k Cl C, P.cls[k]? = some Cl → Z.cAd k = some C → Cls X.K C ∧ (∀ f, Cl.flds.contains f = true → NoAttr X.K C (Z.fnm f) ∧ f < Z.nf) ∧
    (∀ m g, Cl.meths.lookup m = some g → m < Z.nf ∧ ∃ a, Meth X.K C (Z.fnm m) a ∧ DefAt Z F X g 0 a) ∧ (∀ f g, Cl.props.lookup f = some g → f < Z.nf ∧ ∃ p a, PropOf X.K C (Z.fnm f) p a ∧ DefAt Z F X g 1 a)
  new : ∀ k x Cl g, M.gc k = some x → P.cls[k]? = some Cl → Cl.init = some g → ∃ C a, Z.cAd k = some C ∧ X.mg x = some (.ref C) ∧ Mk X.K C a ∧ DefAt Z F X g 1 a
/-- slots -/
structure SR (Z : Ab) (c : Cf) (st : Ev.St) (σ : L2.St) : Prop where
  len : st.length = σ.length
  at_ : ∀ (i : Nat) (v : Ev.Val), st[i]? = some (some v) → ∃ u, σ[i]? = some (some u) ∧ VR Z c.m c.H v u
theorem SR.mono {Z : Ab} {c c' : Cf} {st : Ev.St} {σ : L2.St} (S : Sim Z c) (E : Ext c c') (r : SR Z c st σ) : SR Z c' st σ :=
  ⟨r.len, fun i v h => let ⟨u, h1, h2⟩ := r.at_ i v h; ⟨u, h1, h2.mono S E⟩⟩
theorem SR.set {Z : Ab} {c : Cf} {st : Ev.St} {σ : L2.St} {i : Nat} {v : Ev.Val} {u : V} (r : SR Z c st σ) (h : VR Z c.m c.H v u) : SR Z c (st.set i (some v)) (σ.set i (some u)) := by
  refine ⟨by simp [r.len], fun j w hj => ?_⟩
  by_cases e : i = j
  · subst e
    have hl : i < st.length := by
      have := (List.getElem?_eq_some_iff.mp hj).1
      simpa using this
    rw [List.getElem?_set_self hl] at hj
    cases hj
    exact ⟨u, List.getElem?_set_self (by rw [← r.len]; exact hl), h⟩
  · rw [List.getElem?_set_ne e] at hj ⊢
    exact r.at_ j w hj
theorem SR.none {Z : Ab} {c : Cf} {st : Ev.St} {σ : L2.St} {i : Nat} (r : SR Z c st σ) : SR Z c (st.set i Option.none) (σ.set i Option.none) := by
  refine ⟨by simp [r.len], fun j w hj => ?_⟩
  by_cases e : i = j
  · subst e
    have hl : i < st.length := by
      have := (List.getElem?_eq_some_iff.mp hj).1
      simpa using this
    rw [List.getElem?_set_self hl] at hj
    cases hj
  · rw [List.getElem?_set_ne e] at hj ⊢
    exact r.at_ j w hj
theorem SR.wipe {Z : Ab} {c : Cf} {st : Ev.St} {σ : L2.St} (r : SR Z c st σ) : ∀ own : List Nat, SR Z c (Ev.wipe st own) (L2.wipe σ own)
  | [] => r
  | _ :: vs => (SR.wipe r vs).none
theorem visB_ok {sc : Scope} {x : Str} (h : visB sc x = true) : Vis sc x := by
  unfold visB at h
  split at h
  · exact .inl (by assumption)
  · exact .inr (.inl (by assumption))
  · exact .inr (.inr (by assumption))
  · cases h
section
variable {Z : Ab} {M : Gm} {P : Ev.Pg} {F : Ev.Fn} {s : SC} {X : Cx}
theorem Ck.gl (k : Ck Z M P F s X) {x : Str} (h : glB s.sc x = true) : Gl X x := by
  unfold glB at h
  split at h
  · show X.env.scope.names.lookup x = _
    rw [k.sc]; assumption
  · cases h
theorem Ck.vis (k : Ck Z M P F s X) {x : Str} (h : visB s.sc x = true) : Vis X.env.scope x := by rw [k.sc]; exact visB_ok h
theorem Ck.loc (k : Ck Z M P F s X) {x : Str} (h : locB s x = true) : Loc X.env.scope x ∧ (X.fn x = true ∨ X.env.scope.names.lookup x = some .local) := by
  unfold locB at h
  rw [k.sc]
  split at h
  · exact ⟨.inl (by assumption), .inr (by assumption)⟩
  · exact ⟨.inr (by assumption), .inl (k.fn x h)⟩
  · cases h
theorem dbg_ok {x : Str} (h : dbg x = false) : (x == ("__debug__" : Str)) = false ∧ (x == ("__classdict__" : Str)) = false ∧ x ≠ "__name__" := by
  unfold dbg at h
  simp only [Bool.or_eq_false_iff] at h
  exact ⟨h.1.1, h.1.2, by simpa using h.2⟩
theorem Ck.units (k : Ck Z M P F s X) : X.A.units + 64 < cLine := k.room.units
theorem Ck.nd' (k : Ck Z M P F s X) : X.N.Nodup := by rw [k.N]; exact k.nd
theorem Ck.blk (k : Ck Z M P F s X) (scope : Scope) (hk : scope.kind = .function) (s' : Shared) (H : L2.Hp) (C : Addr) (cl : List (Str × Addr)) (fp : List Addr) : Ck Z M P F (blkSC s scope) (X.blk s' H scope (compEnvC scope cl C X.env) fp) :=
  ⟨k.K, k.nm, k.nf, by show relS scope X.env.scope = _; rw [k.sc]; rfl, hk, fun x h => h, k.N, k.nd, k.calm, k.room, rfl, k.bi, k.con, k.fun_, k.cls, k.new⟩
/-! ### patterns -/
theorem length_set' {α : Type} (l : List α) (i : Nat) (a : α) : (l.set i a).length = l.length := by simp
/-- the same outside some slots -/
def Off (own : List Nat) (σ σ' : L2.St) : Prop := σ'.length = σ.length ∧ ∀ i, i ∉ own → σ'[i]? = σ[i]?
mutual
theorem soundP (k : Ck Z M P F s X) {c : Cf} : ∀ (p : Ev.Pat) (tg : Expr) (v : Ev.Val) (u : V) (st st' : Ev.St) (σ : L2.St), chkP s p tg = true → Ev.bindP p v st = some st' → Sim Z c → VR Z c.m c.H v u → SR Z c st σ →
    rdG X tg u σ c.H (fun σ' H' => H' = c.H ∧ SR Z c st' σ' ∧ Off (pvars p) σ σ')
  | .v i, tg, v, u, st, st', σ, h, hb, S, r, rs => by
    cases tg with
    | Name x pos =>
      simp only [chkP, Bool.and_eq_true, decide_eq_true_eq] at h
      simp only [Ev.bindP] at hb
      cases hb
      obtain ⟨l1, l2⟩ := k.loc h.2
      refine rdG.of (pg_name (i := i) k.nd' (by rw [k.N]; exact h.1) l1 l2) ⟨rfl, rs.set r, by simp, fun j hj => ?_⟩
      simp only [pvars, List.mem_singleton] at hj
      rw [List.getElem?_set_ne (fun e => hj e.symm)]
    | _ => cases h
  | .t ps, tg, v, u, st, st', σ, h, hb, S, r, rs => by
    cases tg with
    | Tuple es kk pos =>
      simp only [chkP] at h
      cases r with
      | @tup a vs us hq rv =>
        simp only [Ev.bindP] at hb
        have hn : es.length = us.length := by
          have e1 := chkPs_len h
          have e2 := bindPs_len hb
          rw [← e1, e2, rv.length]
        have key := soundPs k ps es vs us st st' σ h hb S rv rs
        refine rdG.of (pg_tup (n := es.length) k.calm (t := fun ws τ H Q => ∀ pins s0 zs, Inv X pins τ H s0 → Vals ws zs → wpAny (model X.prog X.w) X.A (assignInOrder ((assignEach es X.env).map (·.2)) zs) (fun _ s' => ∃ σ' H', Inv X pins σ' H' s' ∧ Q σ' H') X.xe s0) ⟨fun pins s0 σ0 H0 ws zs Q0 I rz hq => hq pins s0 zs I rz⟩ ?_ ?_) ?_
        · exact assignEach_len h
        · exact assignEach_nostar h
        · exact ⟨a, us, rfl, by rw [k.K]; exact hq, hn.symm, key⟩
      | _ => cases hb
    | _ => cases h
theorem soundPs (k : Ck Z M P F s X) {c : Cf} : ∀ (ps : List Ev.Pat) (es : List Expr) (vs : List Ev.Val) (us : List V) (st st' : Ev.St) (σ : L2.St), chkPs s ps es = true → Ev.bindPs ps vs st = some st' → Sim Z c → VRs Z c.m c.H vs us → SR Z c st σ →
    ∀ pins s0 zs, Inv X pins σ c.H s0 → Vals us zs → wpAny (model X.prog X.w) X.A (assignInOrder ((assignEach es X.env).map (·.2)) zs) (fun _ s' => ∃ σ' H', Inv X pins σ' H' s' ∧ (H' = c.H ∧ SR Z c st' σ' ∧ Off (pvarss ps) σ σ')) X.xe s0
  | [], es, vs, us, st, st', σ, h, hb, S, r, rs => by
    cases es with
    | cons _ _ => cases h
    | nil =>
      cases vs with
      | cons _ _ => cases hb
      | nil =>
        cases r
        simp only [Ev.bindPs] at hb
        cases hb
        intro pins s0 zs I rz
        cases rz
        exact assignInOrder_nil ⟨σ, c.H, I, rfl, rs, rfl, fun _ _ => rfl⟩
  | p :: ps, es, vs, us, st, st', σ, h, hb, S, r, rs => by
    cases es with
    | nil => cases h
    | cons e es =>
      simp only [chkPs, Bool.and_eq_true] at h
      cases vs with
      | nil => cases hb
      | cons v vs =>
        simp only [Ev.bindPs] at hb
        split at hb
        · rename_i st1 q
          cases r with
          | cons r1 r2 =>
            intro pins s0 zs I rz
            cases rz with
            | cons z1 z2 =>
              have e1 : (assignEach (e :: es) X.env).map (·.2) = assign e X.env :: (assignEach es X.env).map (·.2) := by
                cases e <;> first | rfl | (cases p <;> cases h.1)
              rw [e1]
              refine assignInOrder_cons (thn (soundP k p e v _ st st1 σ h.1 q S r1 rs pins s0 _ I z1) fun _ s1 ⟨σ1, H1, I1, eH, rs1, o1⟩ => ?_)
              subst eH
              refine thn (soundPs k ps es vs _ st1 st' σ1 h.2 hb S r2 rs1 pins s1 _ I1 z2) fun _ s2 ⟨σ2, H2, I2, eH2, rs2, o2⟩ => ⟨σ2, H2, I2, eH2, rs2, o2.1.trans o1.1, fun i hi => ?_⟩
              simp only [pvarss, List.mem_append, not_or] at hi
              rw [o2.2 i hi.2, o1.2 i hi.1]
        · cases hb
theorem chkPs_len {s : SC} : ∀ {ps : List Ev.Pat} {es : List Expr}, chkPs s ps es = true → ps.length = es.length
  | [], [], _ => rfl
  | [], _ :: _, h => by cases h
  | _ :: _, [], h => by cases h
  | p :: ps, e :: es, h => by
    simp only [chkPs, Bool.and_eq_true] at h
    simp [chkPs_len h.2]
theorem bindPs_len : ∀ {ps : List Ev.Pat} {vs : List Ev.Val} {st st' : Ev.St}, Ev.bindPs ps vs st = some st' → ps.length = vs.length
  | [], [], _, _, _ => rfl
  | [], _ :: _, _, _, h => by cases h
  | _ :: _, [], _, _, h => by cases h
  | p :: ps, v :: vs, _, _, h => by
    simp only [Ev.bindPs] at h
    split at h
    · simp [bindPs_len h]
    · cases h
theorem assignEach_len {s : SC} : ∀ {ps : List Ev.Pat} {es : List Expr}, chkPs s ps es = true → (assignEach es X.env).length = es.length
  | [], [], _ => rfl
  | [], _ :: _, h => by cases h
  | _ :: _, [], h => by cases h
  | p :: ps, e :: es, h => by
    simp only [chkPs, Bool.and_eq_true] at h
    have e1 : assignEach (e :: es) X.env = (false, assign e X.env) :: assignEach es X.env := by cases e <;> first | rfl | (cases p <;> cases h.1)
    rw [e1]
    simp [assignEach_len h.2]
theorem assignEach_nostar {s : SC} : ∀ {ps : List Ev.Pat} {es : List Expr}, chkPs s ps es = true → (assignEach es X.env).findIdx? (·.1) = none
  | [], [], _ => rfl
  | [], _ :: _, h => by cases h
  | _ :: _, [], h => by cases h
  | p :: ps, e :: es, h => by
    simp only [chkPs, Bool.and_eq_true] at h
    have e1 : assignEach (e :: es) X.env = (false, assign e X.env) :: assignEach es X.env := by cases e <;> first | rfl | (cases p <;> cases h.1)
    rw [e1, List.findIdx?_cons]
    simp [assignEach_nostar h.2]
end
end
end Sd

set_option Elab.async false
set_option maxRecDepth 100000
set_option maxHeartbeats 8000000
/-! EvS8: expressions, part 1: all but what loops -/
namespace Sd
open PySem PySem.Spec PyProof.Rows L2
section
variable {Z : Ab} {M : Gm} {P : Ev.Pg} {F : Ev.Fn} {s : SC} {X : Cx}
/-- no star -/
def notStar : Expr → Bool
  | .Starred .. => false
  | _ => true
theorem star_plain {e : Expr} (h : notStar e = true) (es : List Expr) (env : Env) : starEach (e :: es) env = (false, eval e env) :: starEach es env := by
  cases e <;> first | rfl | cases h
theorem chkE_ns {e' : Ev.E} {e : Expr} (h : chkE M s e' e = true) : notStar e = true := by
  cases e <;> first | rfl | (cases e' <;> simp [chkE] at h)
theorem chkEs_plain : ∀ {as : Ev.Es} {xs : List Expr}, chkEs M s as xs = true → ∀ pos : Pos, ∀ env : Env, (backTo pos (starEach xs env)).any (·.1) = false
  | .nil, [], _, _, _ => rfl
  | .nil, _ :: _, h, _, _ => by simp [chkEs] at h
  | .cons _ _ _, [], h, _, _ => by simp [chkEs] at h
  | .cons true _ _, _ :: _, h, _, _ => by simp [chkEs] at h
  | .cons false e es, x :: xs, h, pos, env => by
    simp only [chkEs, Bool.and_eq_true] at h
    rw [star_plain (chkE_ns h.1)]
    show (false || (backTo pos (starEach xs env)).any (·.1)) = false
    rw [chkEs_plain h.2]; rfl
theorem all_any {α : Type} (l : List (Bool × α)) (h : l.any (·.1) = false) : l.all (fun x => !x.1) = true := by
  induction l with
  | nil => rfl
  | cons a l ih =>
    simp only [List.any_cons, Bool.or_eq_false_iff] at h
    simp only [List.all_cons, h.1, Bool.not_false, Bool.true_and]
    exact ih h.2
theorem chkEs_few {as : Ev.Es} {xs : List Expr} (h : chkEs M s as xs = true) (hl : xs.length < 29) (pos : Pos) (env : Env) :
    ((backTo pos (starEach xs env)).all (fun x => !x.1) && (backToKw pos (keywordEach [] env)).all (fun x => x.1.isSome) && decide (xs.length + ([] : List Keyword).length + (if ([] : List Keyword).isEmpty then 0 else 1) < 30)) = true := by
  rw [all_any _ (chkEs_plain h pos env)]
  have e1 : (backToKw pos (keywordEach [] env)).all (fun x => x.1.isSome) = true := rfl
  rw [e1]
  have e2 : decide (xs.length + ([] : List Keyword).length + (if ([] : List Keyword).isEmpty then 0 else 1) < 30) = true := by
    simp; omega
  rw [e2]; rfl
theorem base_plain {e : Expr} (h : notCall0 e = true) (f : Str) (env : Env) : attributeBase e f env (eval e env) = eval e env := by
  unfold attributeBase
  split
  · rename_i q
    simp [notCall0] at h
  · rfl
/-- the eval of a method call on one line -/
theorem eval_mcall {o : Expr} {m : Str} {apos pos : Pos} {xs : List Expr} {as : Ev.Es} (hc : notCall0 o = true) (hl : (apos.endLine == pos.line) = true) (hn : xs.length < 29) (h : chkEs M s as xs = true) (env : Env) :
    eval (.Call (.Attribute o m apos) xs [] pos) env = (do
      let ov ← eval o env
      standAt apos.atName
      let (f, first) ← holding [ov] (getMethod ov m (plainOf o env))
      callWith pos f first (backTo pos (starEach xs env)) (backToKw pos (keywordEach [] env))) := by
  have hf : methodCallForm (xs.length + ([] : List Keyword).length) (backTo pos (starEach xs env)) (backToKw pos (keywordEach [] env)) = true := chkEs_few (M := M) h hn pos env
  rw [arm_eval_Call, base_plain hc]
  congr 1
  funext ov
  congr 1
  funext _
  exact mcall_line hf hl
/-- what is wished of a test -/
abbrev TQ (Q : Bool → L2.Hp → Prop) : Ev.Val → Cf → Prop := fun v c' => ∃ b, v = .bl b ∧ Q b c'.H
variable (Z M P F) in
/-- what an expression's own syntax tells -/
def SE (e' : Ev.E) : Prop := ∀ (s : SC) (e : Expr), chkE M s e' e = true → ∀ X, Ck Z M P F s X → ∀ (c : Cf) (st : Ev.St) (σ : L2.St) (Q : VK), Sim Z c → SR Z c st σ → Fit Z c (Ev.evE P F e' st c.h) (VQ Z Q) → rdE X e σ c.H Q
variable (Z M P F) in
def STt (e' : Ev.E) : Prop := ∀ (s : SC) (e : Expr), chkE M s e' e = true → ∀ X, Ck Z M P F s X → ∀ (c : Cf) (st : Ev.St) (σ : L2.St) (Q : Bool → L2.Hp → Prop), Sim Z c → SR Z c st σ → Fit Z c (Ev.evE P F e' st c.h) (TQ Q) → rdT X e σ c.H Q
variable (Z M P F) in
def SEs (as : Ev.Es) : Prop := ∀ (s : SC) (xs : List Expr), chkEs M s as xs = true → ∀ X, Ck Z M P F s X → ∀ (c : Cf) (st : Ev.St) (σ : L2.St) (Q : List V → L2.Hp → Prop), Sim Z c → SR Z c st σ → Fit Z c (Ev.evEs P F as st c.h) (fun vs c' => ∀ us, VRs Z c'.m c'.H vs us → Q us c'.H) → rdA X xs σ c.H Q
/-- a plain expression as a test -/
theorem plainT {e' : Ev.E} (h : SE Z M P F e') {e : Expr} (hc : chkE M s e' e = true) (k : Ck Z M P F s X) {c : Cf} {st : Ev.St} {σ : L2.St} {Q : Bool → L2.Hp → Prop} (S : Sim Z c) (r : SR Z c st σ) (hf : Fit Z c (Ev.evE P F e' st c.h) (TQ Q))
    (he : ∀ whole, isTrue e X.env whole = (do let v ← whole; standAt e.pos; holding [v] (truthy v))) : rdT X e σ c.H Q := by
  refine rdT.of (pt_val pe_rd he) (h s e hc X k c st σ _ S r (hf.imp fun v c' S' E' hq u ru => ?_))
  obtain ⟨b, rfl, q⟩ := hq
  cases ru
  exact ⟨b, rfl, q⟩
theorem s_var (i : Nat) : SE Z M P F (.var i) := by
  intro s e h X k c st σ Q S r hf
  cases e with
  | Name x pos =>
    simp only [chkE, Bool.and_eq_true, decide_eq_true_eq, Bool.not_eq_true'] at h
    obtain ⟨d1, d2, _⟩ := dbg_ok h.2
    simp only [Ev.evE] at hf
    split at hf
    · rename_i v q
      obtain ⟨u, h1, h2⟩ := r.at_ i v q
      exact rdE.of (pe_var (by rw [k.N]; exact h.1.1) (k.vis h.1.2) d1 d2) ⟨u, h1, hf.val S h2⟩
    · exact hf.elim
  | _ => simp [chkE] at h
theorem s_con (v : Ev.Val) : SE Z M P F (.con v) := by
  intro s e h X k c st σ Q S r hf
  cases e with
  | Constant cn j pos =>
    simp only [chkE] at h
    simp only [Ev.evE] at hf
    cases v with
    | non => cases cn <;> first | exact rdE.of pe_non (hf.val S .non) | (simp [chkCon] at h; done)
    | bl b => cases cn <;> first | (simp [chkCon] at h; done) | (simp only [chkCon, beq_iff_eq] at h; subst h; exact rdE.of pe_bl (hf.val S (.bl _)))
    | int b => cases cn <;> first | (simp [chkCon] at h; done) | (simp only [chkCon, decide_eq_true_eq] at h; subst h; exact rdE.of pe_int (hf.val S (.int _)))
    | str b =>
      cases cn <;> first | (simp [chkCon] at h; done) | skip
      simp only [chkCon, Bool.and_eq_true, decide_eq_true_eq, List.all_eq_true] at h
      rw [← h.1]
      exact rdE.of pe_str (hf.val S (.str _ h.2))
    | _ => cases cn <;> simp [chkCon] at h
  | _ => simp [chkE] at h
theorem s_glob (g : Nat) : SE Z M P F (.glob g) := by
  intro s e h X k c st σ Q S r hf
  cases e with
  | Name x pos =>
    simp only [chkE, Bool.and_eq_true, decide_eq_true_eq, Bool.not_eq_true'] at h
    obtain ⟨d1, d2, _⟩ := dbg_ok h.2
    simp only [Ev.evE] at hf
    obtain ⟨v, q, hf⟩ := hf.opt
    obtain ⟨u, w, m1, rw', vr⟩ := k.con g x v h.1.1 q
    exact rdE.of (pe_glob (k.gl h.1.2) m1 rw' d1) (hf.val S (vr _ _))
  | _ => simp [chkE] at h
theorem s_bin {op : Ev.Bop} {a b : Ev.E} (ha : SE Z M P F a) (hb : SE Z M P F b) : SE Z M P F (.bin op a b) := by
  intro s e h X k c st σ Q S r hf
  cases e with
  | BinOp l o y pos =>
    simp only [chkE, Bool.and_eq_true, decide_eq_true_eq] at h
    obtain ⟨⟨rfl, h1⟩, h2⟩ := h
    simp only [Ev.evE] at hf
    refine rdE.of (pe_op opr_rd pe_rd pe_rd) (ha s l h1 X k c st σ _ S r (hf.bind.imp fun x c1 S1 E1 hf1 u ru => ?_))
    refine hb s y h2 X k c1 st σ _ S1 (r.mono S E1) (hf1.bind.imp fun z c2 S2 E2 hf2 w rw' => ?_)
    exact sBin S2 (ru.mono S1 E2) rw' hf2
  | _ => simp [chkE] at h
theorem s_neg {a : Ev.E} (ha : SE Z M P F a) : SE Z M P F (.neg a) := by
  intro s e h X k c st σ Q S r hf
  cases e with
  | UnaryOp o y pos =>
    cases o with
    | USub =>
      simp only [chkE] at h
      simp only [Ev.evE] at hf
      refine rdE.of (pe_un un_neg pe_rd) (ha s y h X k c st σ _ S r (hf.bind.imp fun x c1 S1 E1 hf1 u ru => ?_))
      split at hf1
      · cases ru; exact ⟨_, rfl, hf1.val S1 (.int _)⟩
      · exact hf1.elim
    | _ => simp [chkE] at h
  | _ => simp [chkE] at h
theorem s_not {a : Ev.E} (ha : SE Z M P F a) : SE Z M P F (.not a) := by
  intro s e h X k c st σ Q S r hf
  cases e with
  | UnaryOp o y pos =>
    cases o with
    | Not =>
      simp only [chkE] at h
      simp only [Ev.evE] at hf
      refine rdE.of (pe_not pe_rd) (ha s y h X k c st σ _ S r (hf.bind.imp fun x c1 S1 E1 hf1 u ru => ?_))
      split at hf1
      · cases ru; exact ⟨_, rfl, hf1.val S1 (.bl _)⟩
      · exact hf1.elim
    | _ => simp [chkE] at h
  | _ => simp [chkE] at h
theorem t_not {a : Ev.E} (ha : STt Z M P F a) : STt Z M P F (.not a) := by
  intro s e h X k c st σ Q S r hf
  cases e with
  | UnaryOp o y pos =>
    cases o with
    | Not =>
      simp only [chkE] at h
      simp only [Ev.evE] at hf
      refine rdT.of (pt_not pt_rd) (ha s y h X k c st σ _ S r (hf.bind.imp fun x c1 S1 E1 hf1 => ?_))
      split at hf1
      · obtain ⟨b, e, q⟩ := hf1.ok S1; cases e; exact ⟨_, rfl, q⟩
      · exact hf1.elim
    | _ => simp [chkE] at h
  | _ => simp [chkE] at h
theorem s_and {a b : Ev.E} (ha : SE Z M P F a) (hb : SE Z M P F b) : SE Z M P F (.and a b) := by
  intro s e h X k c st σ Q S r hf
  cases e with
  | BoolOp o vs pos =>
    cases o with
    | Or => simp [chkE] at h
    | And =>
      rcases vs with _ | ⟨x, _ | ⟨y, rest⟩⟩
      · simp [chkE] at h
      · simp [chkE] at h
      · simp only [chkE, Bool.and_eq_true] at h
        simp only [Ev.evE] at hf
        have hB : ∀ (c1 : Cf) (Q : VK), Sim Z c1 → SR Z c1 st σ → Fit Z c1 (Ev.evE P F b st c1.h) (VQ Z Q) → rdE X (.BoolOp .And (y :: rest) pos) σ c1.H Q := by
          intro c1 Q S1 r1 h1
          cases rest with
          | nil => exact rdE.of (pe_one pe_rd) (hb s y h.2 X k c1 st σ Q S1 r1 h1)
          | cons z zs => exact hb s _ h.2 X k c1 st σ Q S1 r1 h1
        refine rdE.of (pe_and pe_rd pe_rd) (ha s x h.1 X k c st σ _ S r (hf.bind.imp fun v c1 S1 E1 hf1 u ru => ?_))
        split at hf1
        · cases ru; exact ⟨true, rfl, hB c1 Q S1 (r.mono S E1) hf1⟩
        · cases ru; exact ⟨false, rfl, hf1.val S1 (.bl _)⟩
        · exact hf1.elim
  | _ => simp [chkE] at h
theorem s_or {a b : Ev.E} (ha : SE Z M P F a) (hb : SE Z M P F b) : SE Z M P F (.or a b) := by
  intro s e h X k c st σ Q S r hf
  cases e with
  | BoolOp o vs pos =>
    cases o with
    | And => simp [chkE] at h
    | Or =>
      rcases vs with _ | ⟨x, _ | ⟨y, rest⟩⟩
      · simp [chkE] at h
      · simp [chkE] at h
      · simp only [chkE, Bool.and_eq_true] at h
        simp only [Ev.evE] at hf
        have hB : ∀ (c1 : Cf) (Q : VK), Sim Z c1 → SR Z c1 st σ → Fit Z c1 (Ev.evE P F b st c1.h) (VQ Z Q) → rdE X (.BoolOp .Or (y :: rest) pos) σ c1.H Q := by
          intro c1 Q S1 r1 h1
          cases rest with
          | nil => exact rdE.of (pe_one pe_rd) (hb s y h.2 X k c1 st σ Q S1 r1 h1)
          | cons z zs => exact hb s _ h.2 X k c1 st σ Q S1 r1 h1
        refine rdE.of (pe_or pe_rd pe_rd) (ha s x h.1 X k c st σ _ S r (hf.bind.imp fun v c1 S1 E1 hf1 u ru => ?_))
        split at hf1
        · cases ru; exact ⟨true, rfl, hf1.val S1 (.bl _)⟩
        · cases ru; exact ⟨false, rfl, hB c1 Q S1 (r.mono S E1) hf1⟩
        · exact hf1.elim
  | _ => simp [chkE] at h
theorem boolW {o : BoolOp} {vs : List Expr} {pos : Pos} {σ : L2.St} {H : L2.Hp} {Q : Bool → L2.Hp → Prop} (h : rdT X (.BoolOp o vs pos) σ H Q) : rdW X (.BoolOp o vs pos) σ H Q := fun w pins s I => h pins s I
theorem t_and {a b : Ev.E} (ha : STt Z M P F a) (hb : STt Z M P F b) : STt Z M P F (.and a b) := by
  intro s e h X k c st σ Q S r hf
  cases e with
  | BoolOp o vs pos =>
    cases o with
    | Or => simp [chkE] at h
    | And =>
      rcases vs with _ | ⟨x, _ | ⟨y, rest⟩⟩
      · simp [chkE] at h
      · simp [chkE] at h
      · simp only [chkE, Bool.and_eq_true] at h
        simp only [Ev.evE] at hf
        have hB : ∀ (c1 : Cf) (Q : Bool → L2.Hp → Prop), Sim Z c1 → SR Z c1 st σ → Fit Z c1 (Ev.evE P F b st c1.h) (TQ Q) → rdW X (.BoolOp .And (y :: rest) pos) σ c1.H Q := by
          intro c1 Q S1 r1 h1
          cases rest with
          | nil => exact rdW.of (pw_and1 pt_rd) (hb s y h.2 X k c1 st σ Q S1 r1 h1)
          | cons z zs => exact boolW (hb s _ h.2 X k c1 st σ Q S1 r1 h1)
        refine rdT.of (pw_and pt_rd pw_rd).pt (ha s x h.1 X k c st σ _ S r (hf.bind.imp fun v c1 S1 E1 hf1 => ?_))
        split at hf1
        · exact ⟨true, rfl, hB c1 Q S1 (r.mono S E1) hf1⟩
        · obtain ⟨b', e', q⟩ := hf1.ok S1; cases e'; exact ⟨false, rfl, q⟩
        · exact hf1.elim
  | _ => simp [chkE] at h
theorem t_or {a b : Ev.E} (ha : STt Z M P F a) (hb : STt Z M P F b) : STt Z M P F (.or a b) := by
  intro s e h X k c st σ Q S r hf
  cases e with
  | BoolOp o vs pos =>
    cases o with
    | And => simp [chkE] at h
    | Or =>
      rcases vs with _ | ⟨x, _ | ⟨y, rest⟩⟩
      · simp [chkE] at h
      · simp [chkE] at h
      · simp only [chkE, Bool.and_eq_true] at h
        simp only [Ev.evE] at hf
        have hB : ∀ (c1 : Cf) (Q : Bool → L2.Hp → Prop), Sim Z c1 → SR Z c1 st σ → Fit Z c1 (Ev.evE P F b st c1.h) (TQ Q) → rdW X (.BoolOp .Or (y :: rest) pos) σ c1.H Q := by
          intro c1 Q S1 r1 h1
          cases rest with
          | nil => exact rdW.of (pw_or1 pt_rd) (hb s y h.2 X k c1 st σ Q S1 r1 h1)
          | cons z zs => exact boolW (hb s _ h.2 X k c1 st σ Q S1 r1 h1)
        refine rdT.of (pw_or pt_rd pw_rd).pt (ha s x h.1 X k c st σ _ S r (hf.bind.imp fun v c1 S1 E1 hf1 => ?_))
        split at hf1
        · obtain ⟨b', e', q⟩ := hf1.ok S1; cases e'; exact ⟨true, rfl, q⟩
        · exact ⟨false, rfl, hB c1 Q S1 (r.mono S E1) hf1⟩
        · exact hf1.elim
  | _ => simp [chkE] at h
theorem unmarked {e : Expr} (h : notSet e = true) (op : CmpOp) : behindInMarks op e = false := by cases e <;> first | rfl | cases h
theorem s_cmp {op : Ev.Cop} {a b : Ev.E} (ha : SE Z M P F a) (hb : SE Z M P F b) : SE Z M P F (.cmp op a b) ∧ STt Z M P F (.cmp op a b) := by
  constructor
  · intro s e h X k c st σ Q S r hf
    cases e with
    | Compare l ops ys pos =>
      rcases ops with _ | ⟨o, _ | ⟨_, _⟩⟩ <;> rcases ys with _ | ⟨y, _ | ⟨_, _⟩⟩ <;> first | (simp [chkE] at h; done) | skip
      simp only [chkE, Bool.and_eq_true, decide_eq_true_eq] at h
      obtain ⟨⟨⟨rfl, h0⟩, h1⟩, h2⟩ := h
      simp only [Ev.evE] at hf
      refine rdE.of (pe_cmpR opr_rd pe_rd pe_rd (unmarked h0 _)) (ha s l h1 X k c st σ _ S r (hf.bind.imp fun x c1 S1 E1 hf1 u ru => ?_))
      refine hb s y h2 X k c1 st σ _ S1 (r.mono S E1) (hf1.bind.imp fun z c2 S2 E2 hf2 w rw' => ?_)
      obtain ⟨v, q, hf2⟩ := hf2.opt
      simp only [Option.map_eq_some_iff] at q
      obtain ⟨b', q, rfl⟩ := q
      exact sCmp k.K k.units S2 (ru.mono S1 E2) rw' q (hf2.val S2 (.bl _))
    | _ => simp [chkE] at h
  · intro s e h X k c st σ Q S r hf
    cases e with
    | Compare l ops ys pos =>
      rcases ops with _ | ⟨o, _ | ⟨_, _⟩⟩ <;> rcases ys with _ | ⟨y, _ | ⟨_, _⟩⟩ <;> first | (simp [chkE] at h; done) | skip
      simp only [chkE, Bool.and_eq_true, decide_eq_true_eq] at h
      obtain ⟨⟨⟨rfl, h0⟩, h1⟩, h2⟩ := h
      simp only [Ev.evE] at hf
      refine rdT.of (pt_cmpR opr_rd pe_rd pe_rd (unmarked h0 _)) (ha s l h1 X k c st σ _ S r (hf.bind.imp fun x c1 S1 E1 hf1 u ru => ?_))
      refine hb s y h2 X k c1 st σ _ S1 (r.mono S E1) (hf1.bind.imp fun z c2 S2 E2 hf2 w rw' => ?_)
      obtain ⟨v, q, hf2⟩ := hf2.opt
      simp only [Option.map_eq_some_iff] at q
      obtain ⟨b', q, rfl⟩ := q
      obtain ⟨b2, e2, q2⟩ := hf2.ok S2
      cases e2
      exact sCmp k.K k.units S2 (ru.mono S1 E2) rw' q ⟨_, rfl, q2⟩
    | _ => simp [chkE] at h
theorem s_ife {t a b : Ev.E} (ht : STt Z M P F t) (ha : SE Z M P F a) (hb : SE Z M P F b) : SE Z M P F (.ife t a b) := by
  intro s e h X k c st σ Q S r hf
  cases e with
  | IfExp x y z pos =>
    simp only [chkE, Bool.and_eq_true] at h
    simp only [Ev.evE] at hf
    refine rdE.of (pe_ifExp pt_rd pe_rd pe_rd) (ht s x h.1.1 X k c st σ _ S r (hf.bind.imp fun v c1 S1 E1 hf1 => ?_))
    split at hf1
    · exact ⟨true, rfl, ha s y h.1.2 X k c1 st σ Q S1 (r.mono S E1) hf1⟩
    · exact ⟨false, rfl, hb s z h.2 X k c1 st σ Q S1 (r.mono S E1) hf1⟩
    · exact hf1.elim
  | _ => simp [chkE] at h
theorem s_sub {a b : Ev.E} (ha : SE Z M P F a) (hb : SE Z M P F b) : SE Z M P F (.sub a b) := by
  intro s e h X k c st σ Q S r hf
  cases e with
  | Subscript l y pos =>
    simp only [chkE, Bool.and_eq_true] at h
    simp only [Ev.evE] at hf
    have hs : PlainIx y := fun o i => by cases y <;> first | rfl | (simp [notSlice] at h; done)
    refine rdE.of (pe_ix ixr_rd pe_rd pe_rd hs) (ha s l h.1.2 X k c st σ _ S r (hf.bind.imp fun x c1 S1 E1 hf1 u ru => ?_))
    refine hb s y h.2 X k c1 st σ _ S1 (r.mono S E1) (hf1.bind.imp fun z c2 S2 E2 hf2 w rw' => ?_)
    exact sSub k.K k.units S2 (ru.mono S1 E2) rw' hf2
  | _ => simp [chkE] at h
/-- .. as a test -/
theorem t_ife {t a b : Ev.E} (ht : STt Z M P F t) (ha : STt Z M P F a) (hb : STt Z M P F b) : STt Z M P F (.ife t a b) := by
  intro s e h X k c st σ Q S r hf
  cases e with
  | IfExp x y z pos =>
    simp only [chkE, Bool.and_eq_true] at h
    simp only [Ev.evE] at hf
    intro pins s0 I
    show wpAny _ _ (do if ← isTrue x X.env (eval x X.env) then isTrue y X.env (eval y X.env) else isTrue z X.env (eval z X.env)) _ _ _
    have hx := ht s x h.1.1 X k c st σ (fun b H1 => if b = true then rdT X y σ H1 Q else rdT X z σ H1 Q) S r (hf.bind.imp fun v c1 S1 E1 hf1 => by
      split at hf1
      · exact ⟨true, rfl, ha s y h.1.2 X k c1 st σ Q S1 (r.mono S E1) hf1⟩
      · exact ⟨false, rfl, hb s z h.2 X k c1 st σ Q S1 (r.mono S E1) hf1⟩
      · exact hf1.elim)
    refine wpAny_bind (thn (hx pins s0 I) fun b s1 ⟨H1, I1, q⟩ => ?_)
    cases b with
    | true => exact q pins s1 I1
    | false => exact q pins s1 I1
  | _ => simp [chkE] at h
theorem s_chain {o1 o2 : Ev.Cop} {a b d : Ev.E} (ha : SE Z M P F a) (hb : SE Z M P F b) (hd : SE Z M P F d) : SE Z M P F (.chain o1 o2 a b d) ∧ STt Z M P F (.chain o1 o2 a b d) := by
  constructor
  · intro s e h X k c st σ Q S r hf
    cases e with
    | Compare l ops ys pos =>
      rcases ops with _ | ⟨p1, _ | ⟨p2, _ | ⟨_, _⟩⟩⟩ <;> rcases ys with _ | ⟨y, _ | ⟨z, _ | ⟨_, _⟩⟩⟩ <;> first | (simp [chkE] at h; done) | skip
      simp only [chkE, Bool.and_eq_true, decide_eq_true_eq] at h
      obtain ⟨⟨⟨⟨⟨⟨rfl, rfl⟩, h0⟩, h0'⟩, h1⟩, h2⟩, h3⟩ := h
      simp only [Ev.evE] at hf
      refine rdE.of (pe_chain opr_rd opr_rd pe_rd pe_rd pe_rd (unmarked h0' _)) (ha s l h1 X k c st σ _ S r (hf.bind.imp fun x c1 S1 E1 hf1 u ru => ?_))
      refine hb s y h2 X k c1 st σ _ S1 (r.mono S E1) (hf1.bind.imp fun v c2 S2 E2 hf2 w rw' => ?_)
      split at hf2
      · rename_i q
        refine sCmp k.K k.units S2 (ru.mono S1 E2) rw' q ⟨true, rfl, ?_⟩
        refine hd s z h3 X k c2 st σ _ S2 (r.mono S (E1.trans E2)) (hf2.bind.imp fun v3 c3 S3 E3 hf3 w3 rw3 => ?_)
        obtain ⟨v4, q4, hf3⟩ := hf3.opt
        simp only [Option.map_eq_some_iff] at q4
        obtain ⟨b', q4, rfl⟩ := q4
        exact sCmp k.K k.units S3 (rw'.mono S2 E3) rw3 q4 (hf3.val S3 (.bl _))
      · rename_i q
        exact sCmp k.K k.units S2 (ru.mono S1 E2) rw' q ⟨false, rfl, hf2.val S2 (.bl _)⟩
      · exact hf2.elim
    | _ => simp [chkE] at h
  · intro s e h X k c st σ Q S r hf
    cases e with
    | Compare l ops ys pos =>
      rcases ops with _ | ⟨p1, _ | ⟨p2, _ | ⟨_, _⟩⟩⟩ <;> rcases ys with _ | ⟨y, _ | ⟨z, _ | ⟨_, _⟩⟩⟩ <;> first | (simp [chkE] at h; done) | skip
      simp only [chkE, Bool.and_eq_true, decide_eq_true_eq] at h
      obtain ⟨⟨⟨⟨⟨⟨rfl, rfl⟩, h0⟩, h0'⟩, h1⟩, h2⟩, h3⟩ := h
      simp only [Ev.evE] at hf
      refine rdT.of (pt_chain opr_rd opr_rd pe_rd pe_rd pe_rd (unmarked h0' _)) (ha s l h1 X k c st σ _ S r (hf.bind.imp fun x c1 S1 E1 hf1 u ru => ?_))
      refine hb s y h2 X k c1 st σ _ S1 (r.mono S E1) (hf1.bind.imp fun v c2 S2 E2 hf2 w rw' => ?_)
      split at hf2
      · rename_i q
        refine sCmp k.K k.units S2 (ru.mono S1 E2) rw' q ⟨true, rfl, ?_⟩
        refine hd s z h3 X k c2 st σ _ S2 (r.mono S (E1.trans E2)) (hf2.bind.imp fun v3 c3 S3 E3 hf3 w3 rw3 => ?_)
        obtain ⟨v4, q4, hf3⟩ := hf3.opt
        simp only [Option.map_eq_some_iff] at q4
        obtain ⟨b', q4, rfl⟩ := q4
        obtain ⟨b2, e2, q2⟩ := hf3.ok S3
        cases e2
        exact sCmp k.K k.units S3 (rw'.mono S2 E3) rw3 q4 ⟨_, rfl, q2⟩
      · rename_i q
        obtain ⟨b2, e2, q2⟩ := hf2.ok S2
        cases e2
        exact sCmp k.K k.units S2 (ru.mono S1 E2) rw' q ⟨false, rfl, ⟨_, rfl, q2⟩⟩
      · exact hf2.elim
    | _ => simp [chkE] at h
variable (Z M P F) in
def SO (o' : Ev.Oe) : Prop := ∀ (s : SC) (o : Option Expr), chkOe M s o' o = true → ∀ X, Ck Z M P F s X → ∃ t, PO X o t ∧ ∀ (c : Cf) (st : Ev.St) (σ : L2.St) (Q : Option Int → L2.Hp → Prop), Sim Z c → SR Z c st σ → Fit Z c (Ev.evOe P F o' st c.h) (fun v c' => Q v c'.H) → t σ c.H Q
theorem s_onone : SO Z M P F .none := by
  intro s o h X k
  cases o with
  | none => exact ⟨_, po_none, fun c st σ Q S r hf => by simp only [Ev.evOe] at hf; exact hf.ok S⟩
  | some e => simp [chkOe] at h
theorem s_osome {e' : Ev.E} (he : SE Z M P F e') : SO Z M P F (.some e') := by
  intro s o h X k
  cases o with
  | none => simp [chkOe] at h
  | some e =>
    simp only [chkOe] at h
    refine ⟨_, po_some pe_rd, fun c st σ Q S r hf => ?_⟩
    simp only [Ev.evOe] at hf
    refine he s e h X k c st σ _ S r (hf.bind.imp fun v c1 S1 E1 hf1 u ru => ?_)
    split at hf1
    · cases ru; exact ⟨_, rfl, hf1.ok S1⟩
    · exact hf1.elim
theorem s_slc {a : Ev.E} {lo hi : Ev.Oe} (ha : SE Z M P F a) (hl : SO Z M P F lo) (hh : SO Z M P F hi) : SE Z M P F (.slc a lo hi) := by
  intro s e h X k c st σ Q S r hf
  cases e with
  | Subscript l y pos =>
    cases y with
    | Slice lo' hi' st' p2 =>
      cases st' with
      | some _ => simp [chkE] at h
      | none =>
        simp only [chkE, Bool.and_eq_true] at h
        simp only [Ev.evE] at hf
        obtain ⟨t1, p1, k1⟩ := hl s lo' h.1.2 X k
        obtain ⟨t2, p2', k2⟩ := hh s hi' h.2 X k
        refine rdE.of (pe_slice slr_rd pe_rd p1 p2') (ha s l h.1.1 X k c st σ _ S r (hf.bind.imp fun x c1 S1 E1 hf1 u ru => ?_))
        refine k1 c1 st σ _ S1 (r.mono S E1) (hf1.bind.imp fun v c2 S2 E2 hf2 => ?_)
        refine k2 c2 st σ _ S2 (r.mono S (E1.trans E2)) (hf2.bind.imp fun w c3 S3 E3 hf3 => ?_)
        exact sSlc k.K S3 (ru.mono S1 (E2.trans E3)) hf3
    | _ => simp [chkE] at h
  | _ => simp [chkE] at h
/-- arguments -/
theorem s_anil : SEs Z M P F .nil := by
  intro s xs h X k c st σ Q S r hf
  cases xs with
  | nil => exact rdA.of pa_nil (by simp only [Ev.evEs] at hf; exact hf.ok S [] .nil)
  | cons _ _ => simp [chkEs] at h
theorem s_acons {b : Bool} {e' : Ev.E} {es' : Ev.Es} (he : SE Z M P F e') (hs : SEs Z M P F es') : SEs Z M P F (.cons b e' es') := by
  intro s xs h X k c st σ Q S r hf
  cases xs with
  | nil => simp [chkEs] at h
  | cons x xs =>
    cases b with
    | true => simp [chkEs] at h
    | false =>
      simp only [chkEs, Bool.and_eq_true] at h
      simp only [Ev.evEs, Bool.false_eq_true, if_false] at hf
      refine rdA.of (pa_cons pe_rd pa_rd (star_plain (chkE_ns h.1) xs X.env)) (he s x h.1 X k c st σ _ S r (hf.bind.imp fun v c1 S1 E1 hf1 u ru => ?_))
      refine hs s xs h.2 X k c1 st σ _ S1 (r.mono S E1) (hf1.bind.imp fun vs c2 S2 E2 hf2 us rus => ?_)
      exact hf2.ok S2 _ (.cons (ru.mono S1 E2) rus)
/-- a call of a def of the module -/
theorem s_call {f : Nat} {as : Ev.Es} (has : SEs Z M P F as) : SE Z M P F (.call f as) := by
  intro s e h X k c st σ Q S r hf
  cases e with
  | Call fn xs kws pos =>
    cases fn with
    | Name x p =>
      cases kws with
      | cons _ _ => simp [chkE] at h
      | nil =>
        simp only [chkE, Bool.and_eq_true, decide_eq_true_eq, Bool.not_eq_true'] at h
        obtain ⟨⟨⟨h1, h2⟩, h3⟩, h4⟩ := h
        obtain ⟨a, ma, kp, fd, ps, kk, hb, Fk, hr⟩ := k.fun_ f x h1
        simp only [Ev.evE] at hf
        have key : rdA X xs σ c.H (fun vs H1 => spF Z F f (vs ++ []) H1 Q E0) := has s xs h4 X k c st σ _ S r (hf.bind.imp fun vs c1 S1 E1 hf1 us rus => by
          rw [List.append_nil]
          exact ⟨c1, vs, S1, rfl, rus, hf1⟩)
        cases xs with
        | nil =>
          cases as with
          | cons b e' es' => cases b <;> simp [chkEs] at h4
          | nil => exact rdE.of (pe_call0 Fk hr (k.gl h2) ma kp hb .nil pass0 (dbg_ok h3).1) ⟨c, [], S, rfl, .nil, hf⟩
        | cons y ys =>
          cases as with
          | nil => simp [chkEs] at h4
          | cons b e' es' =>
            cases b with
            | true => simp [chkEs] at h4
            | false =>
              simp only [chkEs, Bool.and_eq_true] at h4
              exact rdE.of (pe_call Fk hr (k.gl h2) ma kp hb .nil pass0 pa_rd (dbg_ok h3).1 (star_plain (chkE_ns h4.1) ys X.env) (chkEs_plain h4.2 pos X.env)) key
    | _ => simp [chkE] at h
  | _ => simp [chkE] at h
/-- a new instance in both heaps -/
theorem Sim.inst {c : Cf} (S : Sim Z c) {k : Nat} {C x dx : Addr} (hC : Z.cAd k = some C) (hx : c.H x = none) (hd : c.H dx = none) (ne : dx ≠ x) :
    Sim Z ⟨c.m ++ [x], c.h ++ [.inst k []], upd (upd c.H dx (.own x)) x (.ins C dx [])⟩ ∧ Ext c ⟨c.m ++ [x], c.h ++ [.inst k []], upd (upd c.H dx (.own x)) x (.ins C dx [])⟩ := by
  obtain ⟨S1, E1⟩ := S.aside (u := .own x) hd
  have hx1 : upd c.H dx (.own x) x = none := by rw [upd_ne (Ne.symm ne)]; exact hx
  have h2 := S1.laid (p := x) (u := .ins C dx []) (o := .inst k []) hx1 ⟨C, dx, [], hC, .nil, upd_same⟩
  exact ⟨h2.1, E1.trans h2.2⟩
theorem s_new {f : Nat} {as : Ev.Es} (has : SEs Z M P F as) : SE Z M P F (.new f as) := by
  intro s e h X k c st σ Q S r hf
  cases e with
  | Call fn xs kws pos =>
    cases fn with
    | Name x p =>
      cases kws with
      | cons _ _ => simp [chkE] at h
      | nil =>
        simp only [chkE, Bool.and_eq_true, decide_eq_true_eq, Bool.not_eq_true'] at h
        obtain ⟨⟨⟨h1, h2⟩, h3⟩, h4⟩ := h
        simp only [Ev.evE] at hf
        have st0 : ∃ Cl g, P.cls[f]? = some Cl ∧ Cl.init = some g := by
          cases q : Ev.evEs P F as st c.h with
          | ok vs h1 =>
            rw [q] at hf
            have hf : Fit Z c (Ev.newCall P F f vs h1) (VQ Z Q) := hf
            unfold Ev.newCall at hf
            split at hf
            · rename_i Cl q1
              split at hf
              · rename_i g q2; exact ⟨Cl, g, q1, q2⟩
              · exact hf.elim
            · exact hf.elim
          | exc _ _ => rw [q] at hf; exact hf.elim
          | stuck => rw [q] at hf; exact hf.elim
        obtain ⟨Cl, g, q1, q2⟩ := st0
        obtain ⟨C, a, hC, mC, mk, fd, ps, kk, hb, Fk, hr⟩ := k.new f x Cl g h1 q1 q2
        have body : ∀ (c1 : Cf) (vs : List Ev.Val) (us : List V), Sim Z c1 → VRs Z c1.m c1.H vs us → Fit Z c1 (Ev.newCall P F f vs c1.h) (VQ Z Q) →
            ∀ y dx, c1.H y = none → c1.H dx = none → dx ≠ y → spF Z F g (.ref y :: (us ++ [])) (upd (upd c1.H dx (.own y)) y (.ins C dx [])) (fun v H2 => v = .non ∧ Q (.ref y) H2) E0 := by
          intro c1 vs us S1 rus h0 y dx hy hd ne
          unfold Ev.newCall at h0
          simp only [q1, q2] at h0
          obtain ⟨S2, E2⟩ := S1.inst hC hy hd ne
          refine ⟨_, .ref c1.h.length :: vs, S2, rfl, .cons (newRef S1 y _) (by rw [List.append_nil]; exact rus.mono S1 E2), ?_⟩
          refine (h0.base E2).bind.imp fun v c3 S3 E3 h3 u ru => ?_
          split at h3
          · cases ru
            exact ⟨rfl, h3.val S3 (.ref (E3.get (by show (c1.m ++ [y])[c1.h.length]? = _; rw [← S1.len]; simp)))⟩
          · exact h3.elim
        cases xs with
        | nil =>
          cases as with
          | cons b e' es' => cases b <;> simp [chkEs] at h4
          | nil => exact rdE.of (pe_make0 mk Fk hr (k.gl h2) mC hb .nil pass0 (dbg_ok h3).1) (body c [] [] S .nil hf)
        | cons y ys =>
          have key : rdA X (y :: ys) σ c.H (fun vs H1 => ∀ z dx, H1 z = none → H1 dx = none → dx ≠ z → spF Z F g (.ref z :: (vs ++ [])) (upd (upd H1 dx (.own z)) z (.ins C dx [])) (fun v H2 => v = .non ∧ Q (.ref z) H2) E0) :=
            has s (y :: ys) h4 X k c st σ _ S r (hf.bind.imp fun vs c1 S1 E1 hf1 us rus => body c1 vs us S1 rus hf1)
          cases as with
          | nil => simp [chkEs] at h4
          | cons b e' es' =>
            cases b with
            | true => simp [chkEs] at h4
            | false =>
              simp only [chkEs, Bool.and_eq_true] at h4
              exact rdE.of (pe_make mk Fk hr (k.gl h2) mC hb .nil pass0 pa_rd (dbg_ok h3).1 (star_plain (chkE_ns h4.1) ys X.env) (chkEs_plain h4.2 pos X.env)) key
    | _ => simp [chkE] at h
  | _ => simp [chkE] at h
theorem rdE.dead {e y : Expr} {f : Value → Sem Value} {σ : L2.St} {H : L2.Hp} {Q : VK} (he : eval e X.env = (eval y X.env >>= f)) (h : rdE X y σ H (fun _ _ => False)) : rdE X e σ H Q := fun pins s I => by
  rw [he]
  exact wpAny_bind (thn (h pins s I) fun _ _ ⟨_, _, _, _, q⟩ => q.elim)
theorem Fit.okE {c : Cf} {α β : Type} {r : Ev.R α} {f : α → Ev.Hp → Ev.R β} {Q : β → Cf → Prop} (h : Fit Z c (r.bind f) Q) : ∃ a h1, r = .ok a h1 ∧ Fit Z c (f a h1) Q := by
  cases r with
  | ok a h1 => exact ⟨a, h1, rfl, h⟩
  | exc _ _ => exact h.elim
  | stuck => exact h.elim
/-- an instance of the own heap -/
theorem Sim.instAt {c : Cf} (S : Sim Z c) {i k : Nat} {a : Addr} {fs : List (Nat × Ev.Val)} (h : c.h[i]? = some (.inst k fs)) (ha : c.m[i]? = some a) : ∃ C dx us, Z.cAd k = some C ∧ FR Z c.m c.H fs us ∧ c.H a = some (.ins C dx us) := S.ob i _ a h ha
theorem FR.look {m : List Addr} {H : L2.Hp} {f : Nat} (hf : f < Z.nf) : ∀ {fs : List (Nat × Ev.Val)} {us : List (Str × V)}, FR Z m H fs us → (fs.lookup f = none ∧ us.lookup (Z.fnm f) = none) ∨ ∃ v u, fs.lookup f = some v ∧ us.lookup (Z.fnm f) = some u ∧ VR Z m H v u
  | _, _, .nil => .inl ⟨rfl, rfl⟩
  | _, _, .cons (f := g) hg r t => by
    by_cases e : f = g
    · subst e
      exact .inr ⟨_, _, by simp, by simp, r⟩
    · have e2 : Z.fnm f ≠ Z.fnm g := fun z => e (Z.inj f g hf hg z)
      rcases FR.look hf t with ⟨h1, h2⟩ | ⟨v, u, h1, h2, h3⟩
      · exact .inl ⟨by simp [List.lookup_cons, beq_eq_false_iff_ne.mpr e, h1], by simp [List.lookup_cons, beq_eq_false_iff_ne.mpr e2, h2]⟩
      · exact .inr ⟨v, u, by simp [List.lookup_cons, beq_eq_false_iff_ne.mpr e, h1], by simp [List.lookup_cons, beq_eq_false_iff_ne.mpr e2, h2], h3⟩
/-- a method of an own class -/
theorem s_meth {m : Nat} {o : Ev.E} {as : Ev.Es} (ho : SE Z M P F o) (has : SEs Z M P F as) : SE Z M P F (.meth o m as) := by
  intro s e h X k c st σ Q S r hf
  cases e with
  | Call fn xs kws pos =>
    cases fn with
    | Attribute y n apos =>
      cases kws with
      | cons _ _ => simp [chkE] at h
      | nil =>
        simp only [chkE, Bool.and_eq_true, decide_eq_true_eq] at h
        obtain ⟨⟨⟨⟨⟨⟨h1, h2⟩, h3⟩, h4⟩, h5⟩, h6⟩, h7⟩ := h
        subst h1
        rw [k.nm]
        simp only [Ev.evE] at hf
        obtain ⟨x0, h0, q0, hf0⟩ := hf.okE
        have st0 : ∃ a kk fs Cl g, x0 = .ref a ∧ h0[a]? = some (.inst kk fs) ∧ fs.lookup m = none ∧ P.cls[kk]? = some Cl ∧ Cl.meths.lookup m = some g := by
          split at hf0
          · rename_i g q
            unfold Ev.methOf at q
            split at q
            · split at q
              · split at q
                · cases q
                · rename_i q3
                  split at q
                  · rename_i Cl q4; exact ⟨_, _, _, Cl, g, rfl, by assumption, q3, q4, q⟩
                  · cases q
              · cases q
            · cases q
          · exact hf0.elim
        obtain ⟨a0, kk, fs, Cl, g, rfl, q1, q2, q3, q4⟩ := st0
        have hm0 : Ev.methOf P (.ref a0) m h0 = some g := by unfold Ev.methOf; simp only [q1, q2, q3, q4]
        have fit1 := hf.bind
        rw [q0] at fit1
        have ht := eval_mcall (M := M) (m := Z.fnm m) h3 h4 h5 h7 X.env
        cases hC : Z.cAd kk with
        | none =>
          refine rdE.dead ht (ho s y h6 X k c st σ _ S r ?_)
          rw [q0]
          intro m' H' S' E' u ru
          cases ru with
          | ref ha =>
            obtain ⟨C, dx, us, e1, _⟩ := S'.instAt q1 ha
            rw [hC] at e1; cases e1
        | some C =>
          obtain ⟨cl, _, hmeth, _⟩ := k.cls kk Cl C q3 hC
          obtain ⟨hmn, f0, mt, fd, ps, kr, hb, Fk, hr⟩ := hmeth m g q4
          have key : ∀ (R : V → L2.Hp → Prop), (∀ (c1 : Cf) (a : Addr), c1.h = h0 → c1.m[a0]? = some a → Sim Z c1 → Ext c c1 → Fit Z c1 ((Ev.evEs P F as st c1.h).bind fun vs h => F g (.ref a0 :: vs) h) (VQ Z Q) → R (.ref a) c1.H) →
              rdE X y σ c.H (fun x H1 => ∃ a dx fs, x = .ref a ∧ H1 a = some (.ins C dx fs) ∧ fs.lookup (Z.fnm m) = none ∧ R x H1) := by
            intro R hR
            refine ho s y h6 X k c st σ _ S r ?_
            rw [q0]
            intro m' H' S' E' u ru
            have hf1 := fit1 m' H' S' E'
            cases ru with
            | ref ha =>
              obtain ⟨C', dx, us, e1, fr, e2⟩ := S'.instAt q1 ha
              rw [hC] at e1; cases e1
              refine ⟨_, dx, us, rfl, e2, ?_, ?_⟩
              · rcases fr.look hmn with ⟨_, z⟩ | ⟨v, w, z, _⟩
                · exact z
                · rw [q2] at z; cases z
              · refine hR ⟨m', h0, H'⟩ _ rfl ha S' E' ?_
                have hf1' := hf1
                simp only [hm0] at hf1'
                exact hf1'
          cases xs with
          | nil =>
            cases as with
            | cons b e' es' => cases b <;> simp [chkEs] at h7
            | nil =>
              refine rdE.of (pe_meth0 pe_rd cl mt Fk hr hb .nil pass0 ht) (key (fun x H1 => spF Z F g [x] H1 Q E0) fun c1 a e1 ha S1 E1 hf1 => ?_)
              exact ⟨c1, [.ref a0], S1, rfl, .cons (.ref ha) .nil, hf1⟩
          | cons z zs =>
            cases as with
            | nil => simp [chkEs] at h7
            | cons b e' es' =>
              cases b with
              | true => simp [chkEs] at h7
              | false =>
                have h7' := h7
                simp only [chkEs, Bool.and_eq_true] at h7
                refine rdE.of (pe_meth pe_rd cl mt Fk hr hb .nil pass0 pa_rd (star_plain (chkE_ns h7.1) zs X.env) (chkEs_plain h7.2 pos X.env) ht) (key (fun x H1 => rdA X (z :: zs) σ H1 fun vs H2 => spF Z F g (x :: (vs ++ [])) H2 Q E0) fun c1 a e1 ha S1 E1 hf1 => ?_)
                exact has s (z :: zs) h7' X k c1 st σ _ S1 (r.mono S E1) (hf1.bind.imp fun vs c2 S2 E2 hf3 us' rus => by
                  rw [List.append_nil]
                  exact ⟨c2, .ref a0 :: vs, S2, rfl, .cons (.ref (E2.get ha)) rus, hf3⟩)
    | _ => simp [chkE] at h
  | _ => simp [chkE] at h
end
end Sd

set_option Elab.async false
set_option maxRecDepth 100000
set_option maxHeartbeats 8000000
/-! EvS9: expressions, part 2 -/
namespace Sd
open PySem PySem.Spec PyProof.Rows L2
section
variable {Z : Ab} {M : Gm} {P : Ev.Pg} {F : Ev.Fn} {s : SC} {X : Cx}
theorem eval_attr {y : Expr} {n : Str} {pos : Pos} (h : notCall0 y = true) (env : Env) : ∃ f, eval (.Attribute y n pos) env = (eval y env >>= f) := by
  refine ⟨fun o => (do
    standAt pos.atName
    let r ← holding [o] (getAttr o n true)
    letTemporaryGo y o r
    pure r), ?_⟩
  rw [← base_plain h n env]
  rfl
theorem s_attr {f : Nat} {o : Ev.E} (ho : SE Z M P F o) : SE Z M P F (.attr o f) := by
  intro s e h X k c st σ Q S r hf
  cases e with
  | Attribute y n pos =>
    simp only [chkE, Bool.and_eq_true, decide_eq_true_eq] at h
    obtain ⟨⟨⟨h1, h2⟩, h3⟩, h4⟩ := h
    subst h1
    rw [k.nm]
    rw [k.nf] at h2
    simp only [Ev.evE] at hf
    obtain ⟨x0, h0, q0, hf0⟩ := hf.okE
    have fit1 := hf.bind
    rw [q0] at fit1
    have st0 : ∃ a kk fs Cl, x0 = .ref a ∧ h0[a]? = some (.inst kk fs) ∧ P.cls[kk]? = some Cl := by
      unfold Ev.attrCall at hf0
      split at hf0
      · split at hf0
        · split at hf0
          · exact ⟨_, _, _, _, rfl, by assumption, by assumption⟩
          · exact hf0.elim
        · exact hf0.elim
      · exact hf0.elim
    obtain ⟨a0, kk, fs, Cl, rfl, q1, q3⟩ := st0
    cases hfl : Cl.flds.contains f with
    | true =>
      refine rdE.of (pe_fld pe_rd (base_plain h3 _ _)) (ho s y h4 X k c st σ _ S r ?_)
      rw [q0]
      intro m' H' S' E' u ru
      have hf1 := fit1 m' H' S' E'
      cases ru with
      | ref ha =>
        obtain ⟨C, dx, us, e1, fr, e2⟩ := S'.instAt q1 ha
        obtain ⟨cl, hfd, _, _⟩ := k.cls kk Cl C q3 e1
        obtain ⟨na, hn⟩ := hfd f hfl
        unfold Ev.attrCall at hf1
        simp only [q1, q3, hfl, if_pos] at hf1
        obtain ⟨v, q5, hf1⟩ := Fit.opt (c := ⟨m', h0, H'⟩) hf1
        rcases fr.look hn with ⟨z, _⟩ | ⟨v', w, z1, z2, z3⟩
        · rw [q5] at z; cases z
        · rw [q5] at z1; cases z1
          exact ⟨_, C, dx, us, w, rfl, e2, cl, na, z2, Fit.val S' hf1 z3⟩
    | false =>
      have st1 : ∃ g, Cl.props.lookup f = some g ∧ fs.lookup f = none := by
        unfold Ev.attrCall at hf0
        simp only [q1, q3, hfl, Bool.false_eq_true, if_false] at hf0
        split at hf0
        · rename_i g q
          split at hf0
          · rename_i q'; exact ⟨g, q, q'⟩
          · exact hf0.elim
        · exact hf0.elim
      obtain ⟨g, q4, q5⟩ := st1
      obtain ⟨fe, he⟩ := eval_attr (n := Z.fnm f) (pos := pos) h3 X.env
      cases hC : Z.cAd kk with
      | none =>
        refine rdE.dead he (ho s y h4 X k c st σ _ S r ?_)
        rw [q0]
        intro m' H' S' E' u ru
        cases ru with
        | ref ha =>
          obtain ⟨C, dx, us, e1, _⟩ := S'.instAt q1 ha
          rw [hC] at e1; cases e1
      | some C =>
        obtain ⟨cl, _, _, hpr⟩ := k.cls kk Cl C q3 hC
        obtain ⟨hn, p, a, po, fd, ps, kr, hb, Fk, hr⟩ := hpr f g q4
        refine rdE.of (pe_prop pe_rd cl po Fk hr hb .nil pass0 (base_plain h3 _ _)) (ho s y h4 X k c st σ _ S r ?_)
        rw [q0]
        intro m' H' S' E' u ru
        have hf1 := fit1 m' H' S' E'
        cases ru with
        | ref ha =>
          obtain ⟨C', dx, us, e1, fr, e2⟩ := S'.instAt q1 ha
          rw [hC] at e1; cases e1
          refine ⟨_, dx, us, rfl, e2, ⟨m', h0, H'⟩, [.ref a0], S', rfl, .cons (.ref ha) .nil, ?_⟩
          unfold Ev.attrCall at hf1
          simp only [q1, q3, hfl, q4, q5, Bool.false_eq_true, if_false] at hf1
          exact hf1
  | _ => simp [chkE] at h
/-! ### built-in functions -/
theorem biNm_mem : ∀ {b : Ev.Bi}, biPlain b = true → biNm b ∈ biNames := by
  intro b h
  cases b <;> first | (simp [biPlain] at h; done) | decide +kernel
theorem biVal_cases : ∀ {b : Ev.Bi}, biPlain b = true → (∃ id, biVal b = .builtin id ∧ bootBuiltins (biNm b) = some (.builtin id)) ∨ ∃ T, biVal b = .type T ∧ bootBuiltins (biNm b) = some (.type T) := by
  intro b h
  cases b <;> first | (simp [biPlain] at h; done) | exact .inl ⟨_, rfl, by decide +kernel⟩ | exact .inr ⟨_, rfl, by decide +kernel⟩
theorem biNm_ok : ∀ {b : Ev.Bi}, biPlain b = true → biNm b ≠ "__name__" ∧ (biNm b == ("__debug__" : Str)) = false := by
  intro b h
  cases b <;> first | (simp [biPlain] at h; done) | exact ⟨by decide +kernel, by decide +kernel⟩
theorem s_bi {b : Ev.Bi} {as : Ev.Es} (has : SEs Z M P F as) : SE Z M P F (.bi b as) := by
  intro s e h X k c st σ Q S r hf
  cases e with
  | Call fn xs kws pos =>
    cases fn with
    | Name x p =>
      cases kws with
      | cons _ _ => simp [chkE] at h
      | nil =>
        simp only [chkE, Bool.and_eq_true, decide_eq_true_eq] at h
        obtain ⟨⟨⟨⟨h1, h2⟩, h3⟩, h4⟩, h5⟩ := h
        subst h1
        simp only [Ev.evE] at hf
        cases xs with
        | nil => simp at h4
        | cons y ys =>
          cases as with
          | nil => simp [chkEs] at h5
          | cons bb e' es' =>
            cases bb with
            | true => simp [chkEs] at h5
            | false =>
              have h5' := h5
              simp only [chkEs, Bool.and_eq_true] at h5
              have mg0 := k.bi _ (biNm_mem h2)
              obtain ⟨n1, n2⟩ := biNm_ok h2
              have key : rdA X (y :: ys) σ c.H (fun vs H1 => rdC X (biVal b) vs H1 Q) := has s (y :: ys) h5' X k c st σ _ S r (hf.bind.imp fun vs c1 S1 E1 hf1 us rus => sBi h2 k.K k.calm S1 rus hf1)
              rcases biVal_cases h2 with ⟨id, e1, e2⟩ | ⟨T, e1, e2⟩
              · rw [e1] at key
                exact rdE.of (pe_callB callr_rd (k.gl h3) mg0 e2 pa_rd n1 n2 (star_plain (chkE_ns h5.1) ys X.env) (chkEs_plain h5.2 pos X.env)) key
              · rw [e1] at key
                exact rdE.of (pe_callTy callr_rd (k.gl h3) mg0 e2 pa_rd n1 n2 (star_plain (chkE_ns h5.1) ys X.env) (chkEs_plain h5.2 pos X.env)) key
    | _ => simp [chkE] at h
  | _ => simp [chkE] at h
/-! ### built-in methods -/
theorem bmTy_kd {c c' : Cf} (E : Ext c c') (S : Sim Z c) {x : Ev.Val} {u : V} (r : VR Z c.m c.H x u) : bmTy x c'.h = bmTy x c.h := by
  cases r with
  | ref ha =>
    obtain ⟨o, ho, _⟩ := S.at ha
    obtain ⟨o', ho', e⟩ := E.kd _ o ho
    simp only [bmTy, ho, ho']
    cases o <;> cases o' <;> first | rfl | (simp [kindO] at e)
  | _ => rfl
theorem bmTy_ty {c : Cf} (hK : X.K = Z.K) (S : Sim Z c) {x : Ev.Val} {u : V} (r : VR Z c.m c.H x u) {mm : Ev.Bm} (h : Ev.bmPre mm x c.h = true) : tyV X.K (bmTy x c.h) u c.H := by
  cases r with
  | str s hs => rfl
  | @ref i a ha =>
    obtain ⟨o, ho, _⟩ := S.at ha
    simp only [bmTy, Ev.bmPre, Ev.bmKind, ho] at h ⊢
    cases o with
    | list b vs =>
      obtain ⟨us, _, e⟩ := S.listAt ho ha
      exact .inl ⟨rfl, us, by rw [hK]; exact e⟩
    | dict b kvs =>
      cases b with
      | true => simp [Ev.bmOk] at h
      | false =>
        obtain ⟨us, _, e⟩ := S.dictW ho ha
        exact .inr (.inr (.inl ⟨rfl, .inl ⟨us, e⟩⟩))
    | inst _ _ => simp [Ev.bmOk] at h
  | _ => simp [Ev.bmPre, Ev.bmKind, Ev.bmOk] at h
theorem Slt.uniq' {m : Ev.Bm} : ∀ {T T' id id' : String}, Slt m T id → Slt m T' id' → T = T' → id = id' := by
  intro T T' id id' a b e
  cases a <;> cases b <;> first | rfl | (exact absurd e (by decide))
theorem Slt.uniq {m : Ev.Bm} {T id id' : String} (a : Slt m T id) (b : Slt m T id') : id = id' := Slt.uniq' a b rfl
theorem bmPre_slt {m : Ev.Bm} {x : Ev.Val} {h : Ev.Hp} (g : Ev.bmPre m x h = true) : ∃ id, Slt m (bmTy x h) id := by
  unfold Ev.bmPre Ev.bmKind at g
  unfold bmTy
  split at g
  · cases m <;> first | (simp [Ev.bmOk] at g; done) | exact ⟨_, .join⟩ | exact ⟨_, .split⟩ | exact ⟨_, .partition⟩ | exact ⟨_, .strip⟩
  · split at g
    · rename_i q; simp only [q]; cases m <;> first | (simp [Ev.bmOk] at g; done) | exact ⟨_, .append⟩ | exact ⟨_, .extend⟩ | exact ⟨_, .pop⟩
    · rename_i q; simp only [q]; cases m <;> first | (simp [Ev.bmOk] at g; done) | exact ⟨_, .get⟩ | exact ⟨_, .popD⟩
    · simp [Ev.bmOk] at g
  · simp [Ev.bmOk] at g
theorem s_bm {m : Ev.Bm} {o : Ev.E} {as : Ev.Es} (ho : SE Z M P F o) (has : SEs Z M P F as) : SE Z M P F (.bm m o as) := by
  intro s e h X k c st σ Q S r hf
  cases e with
  | Call fn xs kws pos =>
    cases fn with
    | Attribute y n apos =>
      cases kws with
      | cons _ _ => simp [chkE] at h
      | nil =>
        simp only [chkE, Bool.and_eq_true, decide_eq_true_eq] at h
        obtain ⟨⟨⟨⟨⟨h1, h3⟩, h4⟩, h5⟩, h6⟩, h7⟩ := h
        subst h1
        simp only [Ev.evE] at hf
        obtain ⟨x0, h0, q0, hf0⟩ := hf.okE
        have fit1 := hf.bind
        rw [q0] at fit1
        have ht := eval_mcall (M := M) (m := bmName m) h3 h4 h5 h7 X.env
        · obtain ⟨id, sl⟩ := bmPre_slt hf0.guard.1
          obtain ⟨pa, slot, hty⟩ := sl.ok
          have key : ∀ (R : V → L2.Hp → Prop), (∀ (c1 : Cf) (u : V), c1.h = h0 → VR Z c1.m c1.H x0 u → Sim Z c1 → Ext c c1 → Fit Z c1 ((Ev.evEs P F as st c1.h).bind fun vs h => Ev.bmCall m x0 vs h) (VQ Z Q) → R u c1.H) →
              rdE X y σ c.H (fun x H1 => tyV X.K (bmTy x0 h0) x H1 ∧ R x H1) := by
            intro R hR
            refine ho s y h6 X k c st σ _ S r ?_
            rw [q0]
            intro m' H' S' E' u ru
            obtain ⟨g, hf1⟩ := Fit.guard (fit1 m' H' S' E')
            exact ⟨bmTy_ty (c := ⟨m', h0, H'⟩) k.K S' ru g, hR ⟨m', h0, H'⟩ u rfl ru S' E' hf1⟩
          have fin : ∀ (c1 c2 : Cf) (u : V) (vs : List Ev.Val) (us : List V), c1.h = h0 → VR Z c1.m c1.H x0 u → Sim Z c1 → Ext c1 c2 → Sim Z c2 → VRs Z c2.m c2.H vs us → Fit Z c2 (Ev.bmCall m x0 vs c2.h) (VQ Z Q) → rdM X id u us c2.H Q := by
            intro c1 c2 u vs us e1 ru S1 E2 S2 rus hf2
            obtain ⟨id', sl', rd'⟩ := sBm (X := X) k.K k.units S2 (ru.mono S1 E2) rus hf2
            rw [bmTy_kd E2 S1 ru, e1] at sl'
            rw [sl.uniq sl']
            exact rd'
          cases xs with
          | nil =>
            cases as with
            | cons b e' es' => cases b <;> simp [chkEs] at h7
            | nil => exact rdE.of (pe_bm0 pa slot hty mtr_rd pe_rd (base_plain h3 _ _) h4) (key (fun x H1 => rdM X id x [] H1 Q) fun c1 u e1 ru S1 E1 hf1 => fin c1 c1 u [] [] e1 ru S1 (Ext.refl c1) S1 .nil hf1)
          | cons z zs =>
            cases as with
            | nil => simp [chkEs] at h7
            | cons b e' es' =>
              cases b with
              | true => simp [chkEs] at h7
              | false =>
                have h7' := h7
                simp only [chkEs, Bool.and_eq_true] at h7
                refine rdE.of (pe_bm pa slot hty mtr_rd pe_rd pa_rd (base_plain h3 _ _) (chkEs_few h7' h5 pos X.env) h4 (star_plain (chkE_ns h7.1) zs X.env) (chkEs_plain h7.2 pos X.env)) (key (fun x H1 => rdA X (z :: zs) σ H1 fun vs H2 => rdM X id x vs H2 Q) fun c1 u e1 ru S1 E1 hf1 => ?_)
                exact has s (z :: zs) h7' X k c1 st σ _ S1 (r.mono S E1) (hf1.bind.imp fun vs c2 S2 E2 hf3 us' rus => fin c1 c2 u vs us' e1 ru S1 E2 S2 rus hf3)
    | _ => simp [chkE] at h
  | _ => simp [chkE] at h
/-! ### displays -/
variable (Z M P F) in
def SEl (as : Ev.Es) : Prop := ∀ (s : SC) (xs : List Expr), chkEl M s as xs = true → ∀ X, Ck Z M P F s X → ∀ (c : Cf) (st : Ev.St) (σ : L2.St) (Q : List V → L2.Hp → Prop), Sim Z c → SR Z c st σ → Fit Z c (Ev.evEs P F as st c.h) (fun vs c' => ∀ us, VRs Z c'.m c'.H vs us → Q us c'.H) → rdA X xs σ c.H Q
theorem s_lnil : SEl Z M P F .nil := by
  intro s xs h X k c st σ Q S r hf
  cases xs with
  | nil => exact rdA.of pa_nil (by simp only [Ev.evEs] at hf; exact hf.ok S [] .nil)
  | cons _ _ => simp [chkEl] at h
theorem s_lcons {b : Bool} {e' : Ev.E} {es' : Ev.Es} (he : SE Z M P F e') (hs : SEl Z M P F es') : SEl Z M P F (.cons b e' es') := by
  intro s xs h X k c st σ Q S r hf
  cases xs with
  | nil => cases b <;> simp [chkEl] at h
  | cons x xs =>
    cases b with
    | false =>
      simp only [chkEl, Bool.and_eq_true] at h
      simp only [Ev.evEs, Bool.false_eq_true, if_false] at hf
      refine rdA.of (pa_cons pe_rd pa_rd (star_plain (chkE_ns h.1) xs X.env)) (he s x h.1 X k c st σ _ S r (hf.bind.imp fun v c1 S1 E1 hf1 u ru => ?_))
      refine hs s xs h.2 X k c1 st σ _ S1 (r.mono S E1) (hf1.bind.imp fun vs c2 S2 E2 hf2 us rus => ?_)
      exact hf2.ok S2 _ (.cons (ru.mono S1 E2) rus)
    | true =>
      cases x with
      | Starred y p =>
        simp only [chkEl, Bool.and_eq_true] at h
        simp only [Ev.evEs, if_true] at hf
        intro pos pins s0 I
        have key := he s y h.1 X k c st σ (fun u H1 => ∀ pins s1, Inv X pins σ H1 s1 → ∀ w, RelV u w → PySem.W.StarOf (model X.prog X.w) X.A X.xe w (fun here s2 => wpAny (model X.prog X.w) X.A (spliced (backTo pos (starEach xs X.env))) (fun vs s3 => AP X pins σ Q (here ++ vs) s3) X.xe s2) s1) S r (hf.bind.imp fun v c1 S1 E1 hf1 u ru pins s1 I1 w rw' => by
          split at hf1
          · rename_i vs q
            obtain ⟨p', us, rfl, rv, hq⟩ := seqOf_ok S1 ru q
            obtain rfl : w = Value.ref p' := rw'
            rw [← k.K] at hq
            refine StX.star_any I1 hq.symm fun zs s2 I2 rz => ?_
            refine thn (hs s xs h.2 X k c1 st σ (fun us' H2 => Q (us ++ us') H2) S1 (r.mono S E1) (hf1.bind.imp fun ws c2 S2 E2 hf2 us' rus => hf2.ok S2 _ ((rv.mono S1 E2).append rus)) pos pins s2 I2) fun vs' s3 ⟨us', H3, I3, rv', q3⟩ => ⟨us ++ us', H3, I3, rz.append rv', q3⟩
          · exact hf1.elim)
        show wpAny _ _ (spliced ((true, (do let v ← eval y X.env; standAt pos; pure v)) :: backTo pos (starEach xs X.env))) _ _ _
        exact PySem.W.ks_spliced (thn (key pins s0 I) fun w s1 ⟨u, H1, I1, rw', q⟩ => q pins s1 I1 w rw')
      | _ => simp [chkEl] at h
theorem s_tup {es : Ev.Es} (hs : SEl Z M P F es) : SE Z M P F (.tup es) := by
  intro s e h X k c st σ Q S r hf
  cases e with
  | Tuple xs kk pos =>
    simp only [chkE] at h
    simp only [Ev.evE] at hf
    refine rdE.of (pe_tup pa_rd) (hs s xs h X k c st σ _ S r (hf.bind.imp fun vs c1 S1 E1 hf1 us rus => ?_))
    obtain ⟨g, hf1⟩ := hf1.guard
    simp only [decide_eq_true_eq] at g
    exact ⟨by rw [← rus.length]; exact g, fun p n => hf1.newTup S1 rus n⟩
  | _ => simp [chkE] at h
theorem s_lst {es : Ev.Es} (hs : SEl Z M P F es) : SE Z M P F (.lst es) := by
  intro s e h X k c st σ Q S r hf
  cases e with
  | List xs pos =>
    simp only [chkE] at h
    simp only [Ev.evE] at hf
    refine rdE.of (pe_lst pa_rd) (hs s xs h X k c st σ _ S r (hf.bind.imp fun vs c1 S1 E1 hf1 us rus => ?_))
    obtain ⟨g, hf1⟩ := hf1.guard
    simp only [decide_eq_true_eq] at g
    exact ⟨by rw [← rus.length]; exact g, fun p n => hf1.newList S1 rus n⟩
  | _ => simp [chkE] at h
end
end Sd

set_option Elab.async false
set_option maxRecDepth 100000
set_option maxHeartbeats 8000000
/-! EvS10: what is walked; comprehensions -/
namespace Sd
open PySem PySem.Spec PyProof.Rows L2
section
variable {Z : Ab} {M : Gm} {P : Ev.Pg} {F : Ev.Fn} {s : SC} {X : Cx}
/-- a source of the own syntax against a walk of the layer -/
def SrJ (Z : Ab) (c0 : Cf) (sr : Ev.Sr) (J : It) : Prop := ∀ (i : Nat) (c : Cf), Sim Z c → Ext c0 c → match sr.at c.h i with
  | none => True
  | some none => J.stop i c.H
  | some (some v) => J.go i c.H ∧ ∀ x H', J.yld i c.H x H' → Sim Z ⟨c.m, c.h, H'⟩ ∧ Ext c ⟨c.m, c.h, H'⟩ ∧ VR Z c.m H' v x
def rdI (X : Cx) (tg iter : Expr) : TI := fun σ H R => ∀ pins s, Inv X pins σ H s → wpAny (model X.prog X.w) X.A (eval iter X.env) (fun v s1 => wpAny (model X.prog X.w) X.A (pyIter v) (PIE X pins σ tg R) X.xe s1) X.xe s
theorem pi_rd {tg iter : Expr} : PI X tg iter (rdI X tg iter) := ⟨fun pins s _ _ _ I h => h pins s I⟩
theorem rdI.of {tg iter : Expr} {w : TI} (p : PI X tg iter w) {σ : L2.St} {H : L2.Hp} {R : It → L2.Hp → Prop} (h : w σ H R) : rdI X tg iter σ H R := fun pins s I => p.run pins s σ H R I h
/-- the configuration with a dict locked -/
def lockC (c : Cf) (i : Nat) (d : Addr) (kvs : List (Ev.Val × Ev.Val)) (od : PySem.Obj) (us : List (Key × V)) : Cf := ⟨c.m, c.h.set i (.dict true kvs), upd c.H d (.frz od (.dK us))⟩
theorem Sim.locked {c : Cf} (S : Sim Z c) {i : Nat} {d : Addr} {kvs : List (Ev.Val × Ev.Val)} {us : List (Key × V)} (h : c.h[i]? = some (.dict false kvs)) (hd : c.m[i]? = some d) (r : KVR Z c.m c.H kvs us) (od : PySem.Obj) :
    Sim Z (lockC c i d kvs od us) ∧ Ext c (lockC c i d kvs od us) :=
  S.write (o' := .dict true kvs) (u := .frz od (.dK us)) h hd rfl rfl fun c' e1 e2 E => by
    have := r.mono S E
    rw [e1, e2] at this
    exact ⟨us, od, this, upd_same⟩
/-- .. and unlocked behind the loop -/
theorem Sim.unlocked {c c3 : Cf} (S : Sim Z c) {i : Nat} {d : Addr} {kvs : List (Ev.Val × Ev.Val)} {us : List (Key × V)} {od : PySem.Obj} (h : c.h[i]? = some (.dict false kvs)) (hd : c.m[i]? = some d) (r : KVR Z c.m c.H kvs us) (he : c.H d = some (.dK us))
    (S3 : Sim Z c3) (E3 : Ext (lockC c i d kvs od us) c3) : c3.H d = some (.frz od (.dK us)) ∧ Sim Z ⟨c3.m, c3.h.set i (.dict false kvs), upd c3.H d (.dK us)⟩ ∧ Ext c ⟨c3.m, c3.h.set i (.dict false kvs), upd c3.H d (.dK us)⟩ := by
  obtain ⟨S2, E2⟩ := S.locked h hd r od
  have hl : i < c.h.length := (List.getElem?_eq_some_iff.mp h).1
  have h2 : (lockC c i d kvs od us).h[i]? = some (.dict true kvs) := List.getElem?_set_self hl
  obtain ⟨h3, k3⟩ := E3.fz i _ h2 rfl
  have hH3 : c3.H d = some (.frz od (.dK us)) := by rw [k3 d hd]; exact upd_same
  have hd3 : c3.m[i]? = some d := E3.get (c := lockC c i d kvs od us) hd
  have r3 := (r.mono S E2).mono S2 E3
  have hdm : d ∈ c3.m := List.mem_of_getElem? hd3
  have hl3 : i < c3.h.length := (List.getElem?_eq_some_iff.mp h3).1
  -- the tuples stay
  have E4 : ∀ b xs, (c3.H b = some (.tup xs) ∨ ∃ o, c3.H b = some (.frz o (.tup xs))) → b ≠ d := by
    rintro b xs (z | ⟨o, z⟩) e <;> (rw [e, hH3] at z; cases z)
  have sq : ∀ {K : PySem.W.Frag} {a : Addr} {ws : List V}, SqT K c3.H a ws → SqT K (upd c3.H d (.dK us)) a ws := by
    rintro K a ws ((z | ⟨o, z⟩) | z)
    · exact .inl (.inl (by rw [upd_ne (E4 a ws (.inl z))]; exact z))
    · exact .inl (.inr ⟨o, by rw [upd_ne (E4 a ws (.inr ⟨o, z⟩))]; exact z⟩)
    · exact .inr z
  have vr : ∀ {v : Ev.Val} {u : V}, VR Z c3.m c3.H v u → VR Z c3.m (upd c3.H d (.dK us)) v u := fun {v u} q => VR.rec (Z := Z) (m := c3.m) (H := c3.H) (motive_1 := fun v u _ => VR Z c3.m (upd c3.H d (.dK us)) v u) (motive_2 := fun vs us' _ => VRs Z c3.m (upd c3.H d (.dK us)) vs us')
    .non .bl .int .str (fun hq _ ih => .tup (sq hq) ih) .ref .cls .nil (fun _ _ a b => .cons a b) q
  have vrs : ∀ {vs : List Ev.Val} {us' : List V}, VRs Z c3.m c3.H vs us' → VRs Z c3.m (upd c3.H d (.dK us)) vs us' := fun {vs us'} q => by
    induction vs generalizing us' with
    | nil => cases q; exact .nil
    | cons v vs ih => cases q with | cons a b => exact .cons (vr a) (ih b)
  have kvr : ∀ {ks : List (Ev.Val × Ev.Val)} {ws : List (Key × V)}, KVR Z c3.m c3.H ks ws → KVR Z c3.m (upd c3.H d (.dK us)) ks ws := fun {ks ws} q => by
    induction q with
    | nil => exact .nil
    | cons a b t ih => exact .cons a (vr b) ih
  have fr : ∀ {ks : List (Nat × Ev.Val)} {ws : List (Str × V)}, FR Z c3.m c3.H ks ws → FR Z c3.m (upd c3.H d (.dK us)) ks ws := fun {ks ws} q => by
    induction q with
    | nil => exact .nil
    | cons a b t ih => exact .cons a (vr b) ih
  refine ⟨hH3, ⟨by simp [S3.len], S3.nd, fun j o a hj ha => ?_⟩, ?_⟩
  · by_cases e : i = j
    · subst e
      have e1 : o = .dict false kvs := by
        have : (c3.h.set i (.dict false kvs))[i]? = some (.dict false kvs) := List.getElem?_set_self hl3
        exact Option.some.inj (hj.symm.trans this)
      have e2 : a = d := Option.some.inj (ha.symm.trans hd3)
      subst e1 e2
      exact ⟨us, kvr r3, upd_same⟩
    · have hj' : c3.h[j]? = some o := by rw [← List.getElem?_set_ne e (a := .dict false kvs)]; exact hj
      have ne : a ≠ d := by
        rintro rfl
        exact e ((List.getElem?_inj (List.getElem?_eq_some_iff.mp hd3).1 S3.nd).mp (hd3.trans ha.symm))
      have q := S3.ob j o a hj' ha
      cases o with
      | list b vs => cases b with
        | false => obtain ⟨ws, q1, q2⟩ := q; exact ⟨ws, vrs q1, by show upd c3.H d (.dK us) a = _; rw [upd_ne ne]; exact q2⟩
        | true => obtain ⟨ws, o, q1, q2⟩ := q; exact ⟨ws, o, vrs q1, by show upd c3.H d (.dK us) a = _; rw [upd_ne ne]; exact q2⟩
      | dict b vs => cases b with
        | false => obtain ⟨ws, q1, q2⟩ := q; exact ⟨ws, kvr q1, by show upd c3.H d (.dK us) a = _; rw [upd_ne ne]; exact q2⟩
        | true => obtain ⟨ws, o, q1, q2⟩ := q; exact ⟨ws, o, kvr q1, by show upd c3.H d (.dK us) a = _; rw [upd_ne ne]; exact q2⟩
      | inst k fs => obtain ⟨C, dx, ws, q0, q1, q2⟩ := q; exact ⟨C, dx, ws, q0, fr q1, by show upd c3.H d (.dK us) a = _; rw [upd_ne ne]; exact q2⟩
  · have E13 : Ext c c3 := E2.trans E3
    refine ⟨E13.pre, fun b o hb hm => ?_, fun j o hj f => ?_, fun j o hj => ?_⟩
    · show upd c3.H d (.dK us) b = _
      rw [upd_ne (fun e => hm (by rw [e]; exact List.mem_of_getElem? hd))]
      exact E13.keep b o hb hm
    · have e : i ≠ j := by
        rintro rfl
        rw [h] at hj; cases hj; cases f
      obtain ⟨g1, g2⟩ := E13.fz j o hj f
      refine ⟨by show (c3.h.set i _)[j]? = _; rw [List.getElem?_set_ne e]; exact g1, fun a ha => ?_⟩
      show upd c3.H d (.dK us) a = _
      rw [upd_ne]
      · exact g2 a ha
      · rintro rfl
        exact e ((List.getElem?_inj (List.getElem?_eq_some_iff.mp hd).1 S.nd).mp (hd.trans ha.symm))
    · obtain ⟨o', g1, g2⟩ := E13.kd j o hj
      show ∃ o'', (c3.h.set i _)[j]? = some o'' ∧ _
      by_cases e : i = j
      · subst e
        rw [h] at hj; cases hj
        exact ⟨_, List.getElem?_set_self hl3, rfl⟩
      · exact ⟨o', by rw [List.getElem?_set_ne e]; exact g1, g2⟩
/-- an expression whose dict is locked at once -/
theorem pe_locked {e : Expr} : PE X e (fun σ H Q => rdE X e σ H (fun x H1 => ∃ a u, x = .ref a ∧ H1 a = some u ∧ Mut (some u) ∧ ((∀ o' u', X.H_0 a ≠ some (.frz o' u')) → ∀ od, Q x (upd H1 a (.frz od u))))) := by
  refine ⟨fun pins s σ H Q I h => ?_⟩
  refine thn (h pins s I) fun v s1 ⟨x, H1, I1, r, a, u, e1, e2, mu, q⟩ => ?_
  obtain ⟨od, I2⟩ := I1.lock e2 mu
  exact ⟨x, _, I2, r, q (I1.nofrz e2 mu) od⟩
/-- what a walk hands on: with or without a lock -/
def LockR (Z : Ab) (X : Cx) (w : Ev.Walk) (c1 : Cf) (R : It → L2.Hp → Prop) : Prop := match w.2 with
  | none => ∀ J, SrJ Z c1 w.1 J → R J c1.H
  | some (i, kvs) => ∀ d us od J, c1.h[i]? = some (.dict false kvs) → c1.m[i]? = some d → KVR Z c1.m c1.H kvs us → c1.H d = some (.dK us) → (∀ o' u', X.H_0 d ≠ some (.frz o' u')) →
      SrJ Z (lockC c1 i d kvs od us) w.1 J → R J (upd c1.H d (.frz od (.dK us)))
variable (Z M P F) in
def SI (it' : Ev.It) : Prop := ∀ (s : SC) (tg iter : Expr), chkIt M s it' tg iter = true → ∀ X, Ck Z M P F s X → ∀ (c : Cf) (st : Ev.St) (σ : L2.St) (R : It → L2.Hp → Prop), Sim Z c → SR Z c st σ → Fit Z c (Ev.evIt P F it' st c.h) (fun w c1 => LockR Z X w c1 R) → rdI X tg iter σ c.H R
theorem srj_list {c0 : Cf} (hK : X.K = Z.K) {i0 : Nat} {a : Addr} (ha : c0.m[i0]? = some a) : SrJ Z c0 (.lst i0) (Itl X.K a) := by
  intro i c S E
  simp only [Ev.Sr.at]
  have ha' := E.get ha
  split
  · rename_i q
    split at q
    · cases q
    · trivial
  · rename_i q
    split at q
    · rename_i vs q1
      obtain ⟨us, r, e⟩ := S.listAt q1 ha'
      have hn : vs[i]? = none := Option.some.inj q
      refine ⟨us, by rw [hK]; exact e, ?_⟩
      rw [← r.length]
      exact List.getElem?_eq_none_iff.mp hn
    · cases q
  · rename_i v q
    split at q
    · rename_i vs q1
      obtain ⟨us, r, e⟩ := S.listAt q1 ha'
      have hn : vs[i]? = some v := Option.some.inj q
      obtain ⟨u, h1, h2⟩ := r.get hn
      rw [← hK] at e
      refine ⟨⟨us, u, e, h1⟩, fun x H' ⟨e1, hx⟩ => ?_⟩
      subst e1
      have := hx us e
      rw [h1] at this; cases this
      exact ⟨S, Ext.refl c, h2⟩
    · cases q
theorem srj_tup {c0 : Cf} (hK : X.K = Z.K) (S0 : Sim Z c0) {a : Addr} {vs : List Ev.Val} {us : List V} (hq : SqT Z.K c0.H a us) (r : VRs Z c0.m c0.H vs us) : SrJ Z c0 (.vals vs) (Itt X.K a) := by
  intro i c S E
  simp only [Ev.Sr.at]
  have hq' := E.sqT S0 hq
  have r' := r.mono S0 E
  rw [← hK] at hq'
  split
  · trivial
  · rename_i q
    refine ⟨us, hq', ?_⟩
    rw [← r.length]
    exact List.getElem?_eq_none_iff.mp (Option.some.inj q)
  · rename_i v q
    obtain ⟨u, h1, h2⟩ := r'.get (Option.some.inj q)
    refine ⟨⟨us, u, hq', h1⟩, fun x H' ⟨e1, hx⟩ => ?_⟩
    subst e1
    have := hx us hq'
    rw [h1] at this; cases this
    exact ⟨S, Ext.refl c, h2⟩
theorem srj_str {c0 : Cf} {t : Ev.Tx} (ht : ∀ k ∈ t, k < 128) : SrJ Z c0 (.vals (t.map fun k => .str [k])) (Its (asTx t)) := by
  intro i c S E
  simp only [Ev.Sr.at, List.getElem?_map]
  have hz : (asTx t).cps.size = t.length := asTx_len t
  have hg : (asTx t).cps[i]? = t[i]? := by simp [asTx]
  split
  · trivial
  · rename_i q
    have : t[i]? = none := by simpa using q
    exact (by show (asTx t).cps.size ≤ i; rw [hz]; exact List.getElem?_eq_none_iff.mp this)
  · rename_i v q
    have q' : (t[i]?).map (fun k => Ev.Val.str [k]) = some v := Option.some.inj q
    simp only [Option.map_eq_some_iff] at q'
    obtain ⟨k, h1, rfl⟩ := q'
    refine ⟨by show i < (asTx t).cps.size; rw [hz]; exact (List.getElem?_eq_some_iff.mp h1).1, fun x H' ⟨e1, k', h2, h3⟩ => ?_⟩
    subst e1
    rw [hg, h1] at h2; cases h2
    subst h3
    exact ⟨S, Ext.refl c, .str [k] fun z hz => by simp only [List.mem_singleton] at hz; subst hz; exact ht _ (List.mem_of_getElem? h1)⟩
theorem srj_rng {c0 : Cf} {lo : Int} {n : Nat} : SrJ Z c0 (.rng lo n) (Itr lo n) := by
  intro i c S E
  simp only [Ev.Sr.at]
  split
  · trivial
  · rename_i q
    by_cases hi : i < n
    · simp [hi] at q
    · exact Nat.le_of_not_lt hi
  · rename_i v q
    by_cases hi : i < n
    · simp [hi] at q
      subst q
      exact ⟨hi, fun x H' ⟨e1, e2⟩ => by subst e1 e2; exact ⟨S, Ext.refl c, .int _⟩⟩
    · simp [hi] at q
theorem srj_keys {c0 : Cf} {d : Addr} {od : PySem.Obj} {kvs : List (Ev.Val × Ev.Val)} {us : List (Key × V)} {i0 : Nat} (S0 : Sim Z c0) (h : c0.h[i0]? = some (.dict false kvs)) (hd : c0.m[i0]? = some d) (r : KVR Z c0.m c0.H kvs us) :
    SrJ Z (lockC c0 i0 d kvs od us) (.vals (kvs.map (·.1))) (Itk d od us) := by
  obtain ⟨S2, E2⟩ := S0.locked h hd r od
  have r2 := r.mono S0 E2
  have hl : i0 < c0.h.length := (List.getElem?_eq_some_iff.mp h).1
  intro i c S E
  have r3 := r2.mono S2 E
  have hH : c.H d = some (.frz od (.dK us)) := by
    rw [(E.fz i0 (.dict true kvs) (List.getElem?_set_self hl) rfl).2 d hd]; exact upd_same
  simp only [Ev.Sr.at]
  split
  · trivial
  · rename_i q
    refine ⟨hH, ?_⟩
    have : (kvs.map (·.1))[i]? = none := Option.some.inj q
    have := List.getElem?_eq_none_iff.mp this
    rw [List.length_map, r.length] at this
    exact this
  · rename_i v q
    have q' : (kvs.map (·.1))[i]? = some v := Option.some.inj q
    obtain ⟨u, h1, h2⟩ := r3.keys.get q'
    have hi : i < us.length := by
      have := (List.getElem?_eq_some_iff.mp h1).1
      simpa using this
    refine ⟨⟨hH, hi⟩, fun x H' ⟨e1, k, w, g1, g2⟩ => ?_⟩
    subst e1
    have : u = x := by
      rw [List.getElem?_map, g1] at h1
      rw [g2]
      exact (Option.some.inj h1).symm
    subst this
    exact ⟨S, Ext.refl c, h2⟩
theorem KVR.get {m : List Addr} {H : L2.Hp} : ∀ {kvs : List (Ev.Val × Ev.Val)} {us : List (Key × V)} {i : Nat} {p : Ev.Val × Ev.Val}, KVR Z m H kvs us → kvs[i]? = some p → ∃ k u, us[i]? = some (k, u) ∧ KR p.1 k ∧ VR Z m H p.2 u
  | _, _, _, _, .nil, e => by simp at e
  | _, _, 0, _, .cons a b _, e => by simp at e; subst e; exact ⟨_, _, rfl, a, b⟩
  | _, _, i + 1, _, .cons _ _ t, e => by
    simp at e
    obtain ⟨k, u, h1, h2⟩ := KVR.get t e
    exact ⟨k, u, by simpa using h1, h2⟩
theorem srj_items {c0 : Cf} {d : Addr} {od : PySem.Obj} {kvs : List (Ev.Val × Ev.Val)} {us : List (Key × V)} {i0 : Nat} (S0 : Sim Z c0) (h : c0.h[i0]? = some (.dict false kvs)) (hd : c0.m[i0]? = some d) (r : KVR Z c0.m c0.H kvs us) :
    SrJ Z (lockC c0 i0 d kvs od us) (.vals (kvs.map fun p => .tup [p.1, p.2])) (Iti d od us) := by
  obtain ⟨S2, E2⟩ := S0.locked h hd r od
  have r2 := r.mono S0 E2
  have hl : i0 < c0.h.length := (List.getElem?_eq_some_iff.mp h).1
  intro i c S E
  have r3 := r2.mono S2 E
  have hH : c.H d = some (.frz od (.dK us)) := by
    rw [(E.fz i0 (.dict true kvs) (List.getElem?_set_self hl) rfl).2 d hd]; exact upd_same
  simp only [Ev.Sr.at]
  split
  · trivial
  · rename_i q
    refine ⟨hH, ?_⟩
    have : (kvs.map fun p => Ev.Val.tup [p.1, p.2])[i]? = none := Option.some.inj q
    have := List.getElem?_eq_none_iff.mp this
    rw [List.length_map, r.length] at this
    exact this
  · rename_i v q
    have q' : (kvs.map fun p => Ev.Val.tup [p.1, p.2])[i]? = some v := Option.some.inj q
    rw [List.getElem?_map, Option.map_eq_some_iff] at q'
    obtain ⟨p, h1, rfl⟩ := q'
    obtain ⟨k, u, g1, g2, g3⟩ := r3.get h1
    refine ⟨⟨hH, (List.getElem?_eq_some_iff.mp g1).1⟩, fun x H' ⟨T, k', w, f1, f2, f3, f4⟩ => ?_⟩
    rw [g1] at f1; cases f1
    subst f2 f4
    obtain ⟨S4, E4⟩ := S.aside (u := .tup [kV k, u]) f3
    exact ⟨S4, E4, .tup (SqT.of upd_same) (.cons g2.val (.cons (g3.mono S E4) .nil))⟩
theorem srj_enum {c0 : Cf} (hK : X.K = Z.K) {i0 : Nat} {a : Addr} (ha : c0.m[i0]? = some a) : SrJ Z c0 (.enum (.lst i0)) (Ite X.K a) := by
  intro i c S E
  simp only [Ev.Sr.at]
  have ha' := E.get ha
  obtain ⟨o, ho, _⟩ := S.at ha'
  rw [ho]
  cases o with
  | dict _ _ => trivial
  | inst _ _ => trivial
  | list b vs =>
    obtain ⟨us, r, e⟩ := S.listAt ho ha'
    rw [← hK] at e
    simp only
    cases q : vs[i]? with
    | none => exact ⟨us, e, by rw [← r.length]; exact List.getElem?_eq_none_iff.mp q⟩
    | some v =>
      obtain ⟨u, h1, h2⟩ := r.get q
      refine ⟨⟨us, u, e, h1⟩, fun x H' ⟨T, x', e1, e2, e3, hx⟩ => ?_⟩
      subst e1 e3
      have := hx us e
      rw [h1] at this; cases this
      obtain ⟨S4, E4⟩ := S.aside (u := .tup [.int (i : Nat), u]) e2
      exact ⟨S4, E4, .tup (SqT.of upd_same) (.cons (.int _) (.cons (h2.mono S E4) .nil))⟩
theorem srj_zipL {c0 : Cf} (hK : X.K = Z.K) {i0 j0 : Nat} {a b : Addr} {fb : Bool} {fvs : List Ev.Val} (hj0 : c0.h[j0]? = some (.list fb fvs)) (ha : c0.m[i0]? = some a) (hb : c0.m[j0]? = some b) : SrJ Z c0 (.zip (.lst i0) (.lst j0)) (Itz X.K a b) := by
  intro i c S E
  simp only [Ev.Sr.at]
  have ha' := E.get ha
  have hb' := E.get hb
  obtain ⟨o, ho, _⟩ := S.at ha'
  obtain ⟨o2, ho2, _⟩ := S.at hb'
  rw [ho, ho2]
  cases o with
  | dict _ _ => trivial
  | inst _ _ => trivial
  | list b1 vs =>
    obtain ⟨us, r, e⟩ := S.listAt ho ha'
    rw [← hK] at e
    simp only
    cases o2 with
    | dict _ _ =>
      obtain ⟨o', g1, g2⟩ := E.kd _ _ hj0
      rw [ho2] at g1; cases g1; simp [kindO] at g2
    | inst _ _ =>
      obtain ⟨o', g1, g2⟩ := E.kd _ _ hj0
      rw [ho2] at g1; cases g1; simp [kindO] at g2
    | list b2 ws =>
      obtain ⟨zs, r', e'⟩ := S.listAt ho2 hb'
      rw [← hK] at e'
      simp only
      cases q : vs[i]? with
      | none => exact ⟨us, zs, e, e', .inl (by rw [← r.length]; exact List.getElem?_eq_none_iff.mp q)⟩
      | some v =>
        obtain ⟨u, h1, h2⟩ := r.get q
        simp only
        cases q2 : ws[i]? with
        | none => exact ⟨us, zs, e, e', .inr (by rw [← r'.length]; exact List.getElem?_eq_none_iff.mp q2)⟩
        | some w =>
          obtain ⟨z, h3, h4⟩ := r'.get q2
          refine ⟨⟨us, zs, u, z, e, e', h1, h3⟩, fun x H' ⟨T, x1, y1, e1, e2, e3, hx, hy⟩ => ?_⟩
          subst e1 e3
          have t1 := hx us e
          rw [h1] at t1; cases t1
          have t2 := hy zs e'
          rw [h3] at t2; cases t2
          obtain ⟨S4, E4⟩ := S.aside (u := .tup [u, z]) e2
          exact ⟨S4, E4, .tup (SqT.of upd_same) (.cons (h2.mono S E4) (.cons (h4.mono S E4) .nil))⟩
theorem srj_zipT {c0 : Cf} (hK : X.K = Z.K) (S0 : Sim Z c0) {a b : Addr} {vs ws : List Ev.Val} {us zs : List V} (hq : SqT Z.K c0.H a us) (r : VRs Z c0.m c0.H vs us) (hq' : SqT Z.K c0.H b zs) (r' : VRs Z c0.m c0.H ws zs) : SrJ Z c0 (.zip (.vals vs) (.vals ws)) (RZ.ItzT X.K a b) := by
  intro i c S E
  simp only [Ev.Sr.at]
  have e := E.sqT S0 hq
  have e' := E.sqT S0 hq'
  have r := r.mono S0 E
  have r' := r'.mono S0 E
  rw [← hK] at e e'
  cases q : vs[i]? with
  | none => exact ⟨us, zs, e, e', .inl (by rw [← r.length]; exact List.getElem?_eq_none_iff.mp q)⟩
  | some v =>
    obtain ⟨u, h1, h2⟩ := r.get q
    simp only
    cases q2 : ws[i]? with
    | none => exact ⟨us, zs, e, e', .inr (by rw [← r'.length]; exact List.getElem?_eq_none_iff.mp q2)⟩
    | some w =>
      obtain ⟨z, h3, h4⟩ := r'.get q2
      refine ⟨⟨us, zs, u, z, e, e', h1, h3⟩, fun x H' ⟨T, x1, y1, e1, e2, e3, hx, hy⟩ => ?_⟩
      subst e1 e3
      have t1 := hx us e
      rw [h1] at t1; cases t1
      have t2 := hy zs e'
      rw [h3] at t2; cases t2
      obtain ⟨S4, E4⟩ := S.aside (u := .tup [u, z]) e2
      exact ⟨S4, E4, .tup (SqT.of upd_same) (.cons (h2.mono S E4) (.cons (h4.mono S E4) .nil))⟩
theorem si_ex {e' : Ev.E} (he : SE Z M P F e') : SI Z M P F (.ex e') := by
  intro s tg iter h X k c st σ R S r hf
  simp only [chkIt] at h
  simp only [Ev.evIt] at hf
  obtain ⟨x0, h0, q0, hf0⟩ := hf.okE
  have fit1 := hf.bind
  rw [q0] at fit1
  unfold Ev.walkOf at hf0
  split at hf0
  · rename_i i
    split at hf0
    · rename_i q1
      refine rdI.of (pi_list pe_rd) (he s iter h X k c st σ _ S r ?_)
      rw [q0]
      intro m' H' S' E' u ru
      have hf1 := fit1 m' H' S' E'
      cases ru with
      | @ref _ a ha =>
        obtain ⟨us, r1, e1⟩ := S'.listAt q1 ha
        unfold Ev.walkOf at hf1
        simp only [q1] at hf1
        refine ⟨a, rfl, ⟨us, by rw [k.K]; exact e1⟩, Fit.ok (c := ⟨m', h0, H'⟩) S' hf1 _ (srj_list k.K ha)⟩
    · rename_i kvs q1
      refine rdI.of (pi_keys pe_locked) (he s iter h X k c st σ _ S r ?_)
      rw [q0]
      intro m' H' S' E' u ru
      have hf1 := fit1 m' H' S' E'
      cases ru with
      | @ref _ d hd =>
        obtain ⟨us, r1, e1⟩ := S'.dictW q1 hd
        unfold Ev.walkOf at hf1
        simp only [q1] at hf1
        refine ⟨d, .dK us, rfl, e1, trivial, fun hn od => ?_⟩
        have := Fit.ok (c := ⟨m', h0, H'⟩) S' hf1 d us od (Itk d od us) q1 hd r1 e1 hn (srj_keys (c0 := ⟨m', h0, H'⟩) S' q1 hd r1)
        exact ⟨d, od, rfl, .inl ⟨us, upd_same, this⟩⟩
    · exact hf0.elim
  · rename_i vs
    refine rdI.of (pi_tup pe_rd) (he s iter h X k c st σ _ S r ?_)
    rw [q0]
    intro m' H' S' E' u ru
    have hf1 := fit1 m' H' S' E'
    cases ru with
    | @tup a _ us hq rv =>
      exact ⟨a, rfl, ⟨us, by rw [k.K]; exact hq⟩, Fit.ok (c := ⟨m', h0, H'⟩) S' hf1 _ (srj_tup (c0 := ⟨m', h0, H'⟩) k.K S' hq rv)⟩
  · rename_i t
    refine rdI.of (pi_str pe_rd) (he s iter h X k c st σ _ S r ?_)
    rw [q0]
    intro m' H' S' E' u ru
    have hf1 := fit1 m' H' S' E'
    cases ru with
    | str _ ht => exact ⟨asTx t, rfl, Fit.ok (c := ⟨m', h0, H'⟩) S' hf1 _ (srj_str ht)⟩
  · exact hf0.elim
theorem si_range1 {e' : Ev.E} (he : SE Z M P F e') : SI Z M P F (.range1 e') := by
  intro s tg iter h X k c st σ R S r hf
  cases iter with
  | Call fn xs kws pos =>
    cases fn with
    | Name f p =>
      rcases xs with _ | ⟨x, _ | ⟨_, _⟩⟩ <;> cases kws <;> first | (simp [chkIt] at h; done) | skip
      simp only [chkIt, Bool.and_eq_true, decide_eq_true_eq] at h
      obtain ⟨⟨rfl, h2⟩, h3⟩ := h
      simp only [Ev.evIt] at hf
      have hs := star_plain (chkE_ns h3) [] X.env
      refine rdI.of (pi_range1 (k.gl h2) (k.bi _ (by decide +kernel)) (pa_cons pe_rd pa_nil hs) hs) (he s x h3 X k c st σ _ S r (hf.bind.imp fun v c1 S1 E1 hf1 u ru => ?_))
      split at hf1
      · cases ru
        obtain ⟨g, hf1⟩ := hf1.guard
        simp only [Bool.and_eq_true, decide_eq_true_eq] at g
        exact ⟨_, rfl, g.1, g.2, hf1.ok S1 _ srj_rng⟩
      · exact hf1.elim
    | _ => simp [chkIt] at h
  | _ => simp [chkIt] at h
theorem si_range2 {a' b' : Ev.E} (ha : SE Z M P F a') (hb : SE Z M P F b') : SI Z M P F (.range2 a' b') := by
  intro s tg iter h X k c st σ R S r hf
  cases iter with
  | Call fn xs kws pos =>
    cases fn with
    | Name f p =>
      rcases xs with _ | ⟨x, _ | ⟨y, _ | ⟨_, _⟩⟩⟩ <;> cases kws <;> first | (simp [chkIt] at h; done) | skip
      simp only [chkIt, Bool.and_eq_true, decide_eq_true_eq] at h
      obtain ⟨⟨⟨rfl, h2⟩, h3⟩, h4⟩ := h
      simp only [Ev.evIt] at hf
      have hs2 := star_plain (chkE_ns h4) [] X.env
      have hs1 := star_plain (chkE_ns h3) [y] X.env
      refine rdI.of (pi_range2 (k.gl h2) (k.bi _ (by decide +kernel)) (pa_cons pe_rd (pa_cons pe_rd pa_nil hs2) hs1) (by rw [hs1, hs2]; rfl) hs2) (ha s x h3 X k c st σ _ S r (hf.bind.imp fun v c1 S1 E1 hf1 u ru => ?_))
      refine hb s y h4 X k c1 st σ _ S1 (r.mono S E1) (hf1.bind.imp fun w c2 S2 E2 hf2 z rz => ?_)
      split at hf2
      · cases ru; cases rz
        obtain ⟨g, hf2⟩ := hf2.guard
        simp only [Bool.and_eq_true, decide_eq_true_eq] at g
        exact ⟨_, _, rfl, ⟨g.1.1.1, g.1.1.2, g.1.2, g.2⟩, hf2.ok S2 _ srj_rng⟩
      · exact hf2.elim
    | _ => simp [chkIt] at h
  | _ => simp [chkIt] at h
theorem si_enum {e' : Ev.E} (he : SE Z M P F e') : SI Z M P F (.enum e') := by
  intro s tg iter h X k c st σ R S r hf
  cases iter with
  | Call fn xs kws pos =>
    cases fn with
    | Name f p =>
      rcases xs with _ | ⟨x, _ | ⟨_, _⟩⟩ <;> cases kws <;> first | (simp [chkIt] at h; done) | skip
      simp only [chkIt, Bool.and_eq_true, decide_eq_true_eq] at h
      obtain ⟨⟨⟨rfl, h2⟩, h4⟩, h3⟩ := h
      cases tg with
      | Tuple elts kk tpos =>
        simp only [Ev.evIt] at hf
        have hs := star_plain (chkE_ns h3) [] X.env
        refine rdI.of (pi_enum (k.gl h2) (k.bi _ (by decide +kernel)) (pa_cons pe_rd pa_nil hs) hs) (he s x h3 X k c st σ _ S r (hf.bind.imp fun v c1 S1 E1 hf1 u ru => ?_))
        split at hf1
        · cases ru with
          | @ref _ a ha =>
            split at hf1
            · rename_i q1
              obtain ⟨us, r1, e1⟩ := S1.listAt q1 ha
              exact ⟨a, us, rfl, by rw [k.K]; exact e1, hf1.ok S1 _ (srj_enum k.K ha)⟩
            · exact hf1.elim
        · exact hf1.elim
      | _ => simp [isTup] at h4
    | _ => simp [chkIt] at h
  | _ => simp [chkIt] at h
theorem si_zip {a' b' : Ev.E} (ha : SE Z M P F a') (hb : SE Z M P F b') : SI Z M P F (.zip a' b') := by
  intro s tg iter h X k c st σ R S r hf
  cases iter with
  | Call fn xs kws pos =>
    cases fn with
    | Name f p =>
      rcases xs with _ | ⟨x, _ | ⟨y, _ | ⟨_, _⟩⟩⟩ <;> cases kws <;> first | (simp [chkIt] at h; done) | skip
      simp only [chkIt, Bool.and_eq_true, decide_eq_true_eq] at h
      obtain ⟨⟨⟨⟨rfl, h2⟩, h5⟩, h3⟩, h4⟩ := h
      cases tg with
      | Tuple elts kk tpos =>
        simp only [Ev.evIt] at hf
        have hs2 := star_plain (chkE_ns h4) [] X.env
        have hs1 := star_plain (chkE_ns h3) [y] X.env
        refine rdI.of (RZ.pi_zipA (k.gl h2) (k.bi _ (by decide +kernel)) (pa_cons pe_rd (pa_cons pe_rd pa_nil hs2) hs1) hs1 (by rw [hs2]; rfl)) (ha s x h3 X k c st σ _ S r (hf.bind.imp fun v c1 S1 E1 hf1 u ru => ?_))
        refine hb s y h4 X k c1 st σ _ S1 (r.mono S E1) (hf1.bind.imp fun w c2 S2 E2 hf2 z rz => ?_)
        have ru2 := ru.mono S1 E2
        split at hf2
        · cases ru2 with | @ref _ p1 hp1 => cases rz with | @ref _ p2 hp2 =>
          split at hf2
          · rename_i q1 q2
            obtain ⟨us, r1, e1⟩ := S2.listAt q1 hp1
            obtain ⟨zs, r2, e2⟩ := S2.listAt q2 hp2
            exact ⟨p1, p2, us, zs, rfl, .inl ⟨by rw [k.K]; exact e1, by rw [k.K]; exact e2, hf2.ok S2 _ (srj_zipL k.K q2 hp1 hp2)⟩⟩
          · exact hf2.elim
        · cases ru2 with | @tup p1 _ us hq1 r1 => cases rz with | @tup p2 _ zs hq2 r2 =>
          exact ⟨p1, p2, us, zs, rfl, .inr ⟨by rw [k.K]; exact hq1, by rw [k.K]; exact hq2, hf2.ok S2 _ (srj_zipT k.K S2 hq1 r1 hq2 r2)⟩⟩
        · exact hf2.elim
      | _ => simp [isTup] at h5
    | _ => simp [chkIt] at h
  | _ => simp [chkIt] at h
theorem si_items {e' : Ev.E} (he : SE Z M P F e') : SI Z M P F (.items e') := by
  intro s tg iter h X k c st σ R S r hf
  cases iter with
  | Call fn xs kws pos =>
    cases fn with
    | Attribute x n apos =>
      rcases xs with _ | ⟨_, _⟩ <;> cases kws <;> first | (simp [chkIt] at h; done) | skip
      simp only [chkIt, Bool.and_eq_true, decide_eq_true_eq] at h
      obtain ⟨⟨⟨⟨rfl, h2⟩, h3⟩, h4⟩, h5⟩ := h
      cases tg with
      | Tuple elts kk tpos =>
        simp only [Ev.evIt] at hf
        refine rdI.of (pi_items pe_locked (base_plain h2 _ _) h3) (he s x h5 X k c st σ _ S r (hf.bind.imp fun v c1 S1 E1 hf1 u ru => ?_))
        split at hf1
        · cases ru with
          | @ref _ d hd =>
            split at hf1
            · rename_i q1
              obtain ⟨us, r1, e1⟩ := S1.dictW q1 hd
              refine ⟨d, .dK us, rfl, e1, trivial, fun hn od => ?_⟩
              have := hf1.ok S1 d us od (Iti d od us) q1 hd r1 e1 hn (srj_items S1 q1 hd r1)
              exact ⟨d, od, us, rfl, upd_same, this⟩
            · exact hf1.elim
        · exact hf1.elim
      | _ => simp [isTup] at h4
    | _ => simp [chkIt] at h
  | _ => simp [chkIt] at h
end
end Sd

set_option Elab.async false
set_option maxRecDepth 100000
set_option maxHeartbeats 8000000
/-! EvS11: list comprehensions -/
namespace Sd
open PySem PySem.Spec PyProof.Rows L2
section
variable {Z : Ab} {M : Gm} {P : Ev.Pg} {F : Ev.Fn} {s : SC} {X : Cx}
theorem Fit.bindB {cb c' : Cf} {α β : Type} {r : Ev.R α} {f : α → Ev.Hp → Ev.R β} {Q : β → Cf → Prop} (h : Fit Z cb (r.bind f) Q) : Fit Z c' r (fun a c'' => Fit Z cb (f a c''.h) Q) := by
  cases r with
  | ok a h' => exact fun _ _ _ _ => h
  | exc _ _ => exact h
  | stuck => exact h
theorem Fit.calm {c : Cf} {α β : Type} {r : Ev.R α} {f : α → Ev.Hp → Ev.R β} {Q : β → Cf → Prop} (h : Fit Z c (r.calm.bind f) Q) : Fit Z c (r.bind f) Q := by
  cases r with
  | ok a h' => exact h
  | exc _ _ => exact h.elim
  | stuck => exact h
/-- a heap that is changed where no tuple stands bears the same values -/
theorem VR.poke {m : List Addr} {H H' : L2.Hp} (hk : ∀ b xs, H b = some (.tup xs) → H' b = some (.tup xs)) (hf : ∀ b o xs, H b = some (.frz o (.tup xs)) → H' b = some (.frz o (.tup xs))) {v : Ev.Val} {u : V} (q : VR Z m H v u) : VR Z m H' v u := by
  have sq : ∀ {K : PySem.W.Frag} {a : Addr} {ws : List V}, SqT K H a ws → SqT K H' a ws := by
    rintro K a ws ((z | ⟨o, z⟩) | z)
    · exact .inl (.inl (hk a ws z))
    · exact .inl (.inr ⟨o, hf a o ws z⟩)
    · exact .inr z
  exact VR.rec (Z := Z) (m := m) (H := H) (motive_1 := fun v u _ => VR Z m H' v u) (motive_2 := fun vs us' _ => VRs Z m H' vs us')
    .non .bl .int .str (fun hq _ ih => .tup (sq hq) ih) .ref .cls .nil (fun _ _ a b => .cons a b) q
theorem VRs.poke {m : List Addr} {H H' : L2.Hp} (hk : ∀ b xs, H b = some (.tup xs) → H' b = some (.tup xs)) (hf : ∀ b o xs, H b = some (.frz o (.tup xs)) → H' b = some (.frz o (.tup xs))) : ∀ {vs : List Ev.Val} {us : List V}, VRs Z m H vs us → VRs Z m H' vs us
  | _, _, .nil => .nil
  | _, _, .cons a b => .cons (a.poke hk hf) (VRs.poke hk hf b)
theorem KVR.poke {m : List Addr} {H H' : L2.Hp} (hk : ∀ b xs, H b = some (.tup xs) → H' b = some (.tup xs)) (hf : ∀ b o xs, H b = some (.frz o (.tup xs)) → H' b = some (.frz o (.tup xs))) : ∀ {vs : List (Ev.Val × Ev.Val)} {us : List (Key × V)}, KVR Z m H vs us → KVR Z m H' vs us
  | _, _, .nil => .nil
  | _, _, .cons k a b => .cons k (a.poke hk hf) (KVR.poke hk hf b)
theorem FR.poke {m : List Addr} {H H' : L2.Hp} (hk : ∀ b xs, H b = some (.tup xs) → H' b = some (.tup xs)) (hf : ∀ b o xs, H b = some (.frz o (.tup xs)) → H' b = some (.frz o (.tup xs))) : ∀ {vs : List (Nat × Ev.Val)} {us : List (Str × V)}, FR Z m H vs us → FR Z m H' vs us
  | _, _, .nil => .nil
  | _, _, .cons k a b => .cons k (a.poke hk hf) (FR.poke hk hf b)
theorem or_poke {m : List Addr} {H H' : L2.Hp} (hk : ∀ b xs, H b = some (.tup xs) → H' b = some (.tup xs)) (hf : ∀ b o xs, H b = some (.frz o (.tup xs)) → H' b = some (.frz o (.tup xs))) {o : Ev.Obj} {a : Addr} (h : OR Z m H o a) (e : H' a = H a) : OR Z m H' o a := by
  cases o with
  | list b vs => cases b with
    | false => obtain ⟨us, r, q⟩ := h; exact ⟨us, r.poke hk hf, e.trans q⟩
    | true => obtain ⟨us, o, r, q⟩ := h; exact ⟨us, o, r.poke hk hf, e.trans q⟩
  | dict b vs => cases b with
    | false => obtain ⟨us, r, q⟩ := h; exact ⟨us, r.poke hk hf, e.trans q⟩
    | true => obtain ⟨us, o, r, q⟩ := h; exact ⟨us, o, r.poke hk hf, e.trans q⟩
  | inst i fs => obtain ⟨C, dx, us, hc, r, q⟩ := h; exact ⟨C, dx, us, hc, r.poke hk hf, e.trans q⟩
/-- a list that is being made, none of the own heap's -/
structure Mk1 (cb c : Cf) (D : Addr) (us : List V) : Prop where
  ext : Ext cb c
  nb : cb.H D = none
  nm : D ∉ c.m
  at_ : c.H D = some (.lst us)
theorem Mk1.tk {c : Cf} {D : Addr} {us us' : List V} (h : c.H D = some (.lst us)) : (∀ b xs, c.H b = some (.tup xs) → upd c.H D (.lst us') b = some (.tup xs)) ∧ ∀ b o xs, c.H b = some (.frz o (.tup xs)) → upd c.H D (.lst us') b = some (.frz o (.tup xs)) := by
  refine ⟨fun b xs z => ?_, fun b o xs z => ?_⟩ <;> (rw [upd_ne (fun e => by rw [e, h] at z; cases z)]; exact z)
theorem Mk1.put {cb c : Cf} {D : Addr} {us us' : List V} (k : Mk1 cb c D us) (S : Sim Z c) : Sim Z ⟨c.m, c.h, upd c.H D (.lst us')⟩ ∧ Mk1 cb ⟨c.m, c.h, upd c.H D (.lst us')⟩ D us' := by
  obtain ⟨t1, t2⟩ := Mk1.tk (us' := us') k.at_
  have hD : ∀ a, a ∈ c.m → a ≠ D := fun a ha e => k.nm (by rw [← e]; exact ha)
  have hDb : D ∉ cb.m := fun z => by
    obtain ⟨t, q, _⟩ := k.ext.pre
    exact k.nm (by rw [q]; exact List.mem_append_left _ z)
  refine ⟨⟨S.len, S.nd, fun i o a h ha => or_poke t1 t2 (S.ob i o a h ha) (by show upd c.H D _ a = _; rw [upd_ne (hD a (List.mem_of_getElem? ha))])⟩, ⟨⟨k.ext.pre, fun b o hb hm => ?_, fun i o h f => ?_, k.ext.kd⟩, k.nb, k.nm, upd_same⟩⟩
  · show upd c.H D _ b = _
    rw [upd_ne (ne_of_none hb k.nb)]
    exact k.ext.keep b o hb hm
  · obtain ⟨g1, g2⟩ := k.ext.fz i o h f
    refine ⟨g1, fun a ha => ?_⟩
    show upd c.H D _ a = _
    rw [upd_ne (fun e => hDb (by rw [← e]; exact List.mem_of_getElem? ha))]
    exact g2 a ha
theorem Mk1.step {cb c c' : Cf} {D : Addr} {us : List V} (k : Mk1 cb c D us) (E : Ext c c') : Mk1 cb c' D us := ⟨k.ext.trans E, k.nb, E.notin k.at_ k.nm, E.keep D _ k.at_ k.nm⟩
/-- .. is taken into the own heap -/
theorem Mk1.adopt {cb c : Cf} {D : Addr} {us : List V} {vs : List Ev.Val} (k : Mk1 cb c D us) (S : Sim Z c) (r : VRs Z c.m c.H vs us) : Sim Z ⟨c.m ++ [D], c.h ++ [.list false vs], c.H⟩ ∧ Ext cb ⟨c.m ++ [D], c.h ++ [.list false vs], c.H⟩ := by
  have mono : ∀ {v : Ev.Val} {u : V}, VR Z c.m c.H v u → VR Z (c.m ++ [D]) c.H v u := fun {v u} q => VR.rec (Z := Z) (m := c.m) (H := c.H) (motive_1 := fun v u _ => VR Z (c.m ++ [D]) c.H v u) (motive_2 := fun vs us' _ => VRs Z (c.m ++ [D]) c.H vs us')
    .non .bl .int .str (fun hq _ ih => .tup hq ih) (fun h => .ref (by rw [List.getElem?_append_left (List.getElem?_eq_some_iff.mp h).1]; exact h)) .cls .nil (fun _ _ a b => .cons a b) q
  have monos : ∀ {vs : List Ev.Val} {us : List V}, VRs Z c.m c.H vs us → VRs Z (c.m ++ [D]) c.H vs us := fun {vs us} q => by
    induction vs generalizing us with
    | nil => cases q; exact .nil
    | cons v vs ih => cases q with | cons a b => exact .cons (mono a) (ih b)
  have monok : ∀ {vs : List (Ev.Val × Ev.Val)} {us : List (Key × V)}, KVR Z c.m c.H vs us → KVR Z (c.m ++ [D]) c.H vs us := fun {vs us} q => by
    induction q with
    | nil => exact .nil
    | cons a b t ih => exact .cons a (mono b) ih
  have monof : ∀ {vs : List (Nat × Ev.Val)} {us : List (Str × V)}, FR Z c.m c.H vs us → FR Z (c.m ++ [D]) c.H vs us := fun {vs us} q => by
    induction q with
    | nil => exact .nil
    | cons a b t ih => exact .cons a (mono b) ih
  refine ⟨⟨by simp [S.len], ?_, fun i o a h ha => ?_⟩, ?_⟩
  · show (c.m ++ [D]).Nodup
    rw [List.nodup_append]
    refine ⟨S.nd, by simp, fun x hx y hy => ?_⟩
    simp only [List.mem_singleton] at hy
    subst hy
    rintro rfl
    exact k.nm hx
  · by_cases hi : i < c.h.length
    · have h' : c.h[i]? = some o := by rw [← List.getElem?_append_left hi (l₂ := [.list false vs])]; exact h
      have ha' : c.m[i]? = some a := by rw [← List.getElem?_append_left (by rw [S.len]; exact hi) (l₂ := [D])]; exact ha
      have q := S.ob i o a h' ha'
      cases o with
      | list b vs => cases b with
        | false => obtain ⟨ws, q1, q2⟩ := q; exact ⟨ws, monos q1, q2⟩
        | true => obtain ⟨ws, o, q1, q2⟩ := q; exact ⟨ws, o, monos q1, q2⟩
      | dict b vs => cases b with
        | false => obtain ⟨ws, q1, q2⟩ := q; exact ⟨ws, monok q1, q2⟩
        | true => obtain ⟨ws, o, q1, q2⟩ := q; exact ⟨ws, o, monok q1, q2⟩
      | inst k fs => obtain ⟨C, dx, ws, q0, q1, q2⟩ := q; exact ⟨C, dx, ws, q0, monof q1, q2⟩
    · have hl := (List.getElem?_eq_some_iff.mp h).1
      have hi2 : i = c.h.length := by simp at hl; omega
      subst hi2
      have h2 : (c.h ++ [Ev.Obj.list false vs])[c.h.length]? = some (.list false vs) := by simp
      have h3 : (c.m ++ [D])[c.h.length]? = some D := by rw [← S.len]; simp
      have e1 : Ev.Obj.list false vs = o := Option.some.inj (h2.symm.trans h)
      have e2 : D = a := Option.some.inj (h3.symm.trans ha)
      subst e1 e2
      exact ⟨us, monos r, k.at_⟩
  · obtain ⟨t, q, f⟩ := k.ext.pre
    have hDb : D ∉ cb.m := fun z => k.nm (by rw [q]; exact List.mem_append_left _ z)
    refine ⟨⟨t ++ [D], by show c.m ++ [D] = _; rw [q, List.append_assoc], fun a ha => ?_⟩, k.ext.keep, fun i o h ff => ?_, fun i o h => ?_⟩
    · rcases List.mem_append.mp ha with z | z
      · exact f a z
      · simp only [List.mem_singleton] at z; subst z; exact ⟨k.nb, hDb⟩
    · obtain ⟨g1, g2⟩ := k.ext.fz i o h ff
      exact ⟨by show (c.h ++ _)[i]? = _; rw [List.getElem?_append_left (List.getElem?_eq_some_iff.mp g1).1]; exact g1, g2⟩
    · obtain ⟨o', g1, g2⟩ := k.ext.kd i o h
      exact ⟨o', by show (c.h ++ _)[i]? = _; rw [List.getElem?_append_left (List.getElem?_eq_some_iff.mp g1).1]; exact g1, g2⟩
/-! ### slots of a block -/
theorem wipe_get (σ : L2.St) (i : Nat) : ∀ own : List Nat, (L2.wipe σ own)[i]? = if i ∈ own then (if i < σ.length then some none else none) else σ[i]?
  | [] => by simp [L2.wipe]
  | v :: vs => by
    unfold L2.wipe
    by_cases e : v = i
    · subst e
      simp only [List.mem_cons, true_or, if_true]
      by_cases hl : v < σ.length
      · rw [List.getElem?_set_self (by rw [L2.wipe_length]; exact hl), if_pos hl]
      · rw [if_neg hl]
        exact List.getElem?_eq_none_iff.mpr (by rw [List.length_set, L2.wipe_length]; omega)
    · rw [List.getElem?_set_ne e, wipe_get σ i vs]
      have : (i ∈ v :: vs) ↔ i ∈ vs := by simp [List.mem_cons, Ne.symm e]
      simp only [this]
theorem wipe_off {σ τ : L2.St} {ps own : List Nat} (h : Off ps (L2.wipe σ own) τ) (hs : ∀ i ∈ ps, i ∈ own) : L2.wipe τ own = L2.wipe σ own := by
  apply List.ext_getElem?
  intro i
  rw [wipe_get, wipe_get]
  have hl : τ.length = σ.length := by rw [h.1, L2.wipe_length]
  by_cases hi : i ∈ own
  · simp only [hi, if_true, hl]
  · simp only [hi, if_false]
    rw [h.2 i (fun z => hi (hs i z)), wipe_get]
    simp only [hi, if_false]
theorem rdG.imp {tg : Expr} {v : V} {σ : L2.St} {H : L2.Hp} {Q Q' : L2.St → L2.Hp → Prop} (h : rdG X tg v σ H Q) (k : ∀ σ' H', Q σ' H' → Q' σ' H') : rdG X tg v σ H Q' := fun pins s u I r => thn (h pins s u I r) fun _ _ ⟨σ', H', I', q⟩ => ⟨σ', H', I', k σ' H' q⟩
/-- the end of a locked walk, where a thing is a value -/
theorem rdE.unlock {e : Expr} {σ : L2.St} {H : L2.Hp} {Q : VK} (h : rdE X e σ H (fun v H' => Q v H' ∨ ∃ d od u, H' d = some (.frz od u) ∧ (∀ o' u', X.H_0 d ≠ some (.frz o' u')) ∧ Q v (upd H' d u))) : rdE X e σ H Q := fun pins s I =>
  thn (h pins s I) fun _ _ ⟨v, H', I', r, q⟩ => by
    rcases q with q | ⟨d, od, u, e1, e2, q⟩
    · exact ⟨v, H', I', r, q⟩
    · exact ⟨v, _, I'.unlock e1 e2, r, q⟩
/-- a turn of a comprehension -/
def lcTurn (P : Ev.Pg) (F : Ev.Fn) (own : List Nat) (p : Ev.Pat) (ifs : Ev.Es) (elt : Ev.E) (st : Ev.St) : Ev.Val → List Ev.Val → Ev.Hp → Ev.R (List Ev.Val) := fun v acc h => match Ev.bindP p v (Ev.wipe st own) with
  | none => .stuck
  | some st1 => (Ev.evIfs P F ifs st1 h).bind fun b h => if b = true then (Ev.evE P F elt st1 h).bind fun x h => Ev.guard (acc.length < Ev.LIM) (.ok (acc ++ [x]) h) else .ok acc h
theorem lc_go {own : List Nat} {p : Ev.Pat} {ifs : Ev.Es} {elt : Ev.E} {st : Ev.St} {σ : L2.St} {g : TG} {tt : TT} {te : TE} {sr : Ev.Sr} {J : It} {cb : Cf} {D : Addr} {Q : VK}
    (hp : ∀ i ∈ pvars p, i ∈ own)
    (hg : ∀ (c : Cf) (v : Ev.Val) (u : V) (st1 : Ev.St) (R : L2.St → L2.Hp → Prop), Ev.bindP p v (Ev.wipe st own) = some st1 → Sim Z c → VR Z c.m c.H v u → SR Z c (Ev.wipe st own) (L2.wipe σ own) → (∀ σ2, SR Z c st1 σ2 → Off (pvars p) (L2.wipe σ own) σ2 → R σ2 c.H) → g u (L2.wipe σ own) c.H R)
    (ht : ∀ (c : Cf) (st1 : Ev.St) (σ2 : L2.St) (R : Bool → L2.Hp → Prop), Sim Z c → SR Z c st1 σ2 → Fit Z c (Ev.evIfs P F ifs st1 c.h) (fun b c' => R b c'.H) → tt σ2 c.H R)
    (he : ∀ (c : Cf) (st1 : Ev.St) (σ2 : L2.St) (R : VK), Sim Z c → SR Z c st1 σ2 → Fit Z c (Ev.evE P F elt st1 c.h) (VQ Z R) → te σ2 c.H R)
    (S : Sim Z cb) (r : SR Z cb st σ) (hJ : SrJ Z cb sr J) (hD : cb.H D = none) (n : Nat)
    (hf : Fit Z cb (Ev.compGo (lcTurn P F own p ifs elt st) sr n 0 [] cb.h) (fun vs c' => ∀ us, Mk1 cb c' D us → VRs Z c'.m c'.H vs us → Q (.ref D) c'.H)) :
    ∃ W : Nat → Nat → L2.Hp → Prop, (∃ m, W 0 m (upd cb.H D (.lst []))) ∧ ∀ i m H, W i m H → (J.stop i H ∧ Q (.ref D) H) ∨ (J.go i H ∧ ∃ Nx : L2.Hp → Prop, (∀ H', Nx H' → ∃ m', m' < m ∧ W (i + 1) m' H') ∧ ∀ x H', J.yld i H x H' → g x (L2.wipe σ own) H' fun σ2 H2 => L2.wipe σ2 own = L2.wipe σ own ∧ tt σ2 H2 fun b H3 =>
      if b = true then te σ2 H3 fun y H4 => ∃ acc, H4 D = some (.lst acc) ∧ acc.length < sizeLine ∧ Nx (upd H4 D (.lst (acc ++ [y]))) else Nx H3) := by
  have hDm : D ∉ cb.m := fun z => by
    obtain ⟨i, hi⟩ := List.mem_iff_getElem?.mp z
    obtain ⟨o, _, q⟩ := S.at hi
    obtain ⟨u', e, _⟩ := q.some
    rw [hD] at e; cases e
  refine ⟨fun i m H => ∃ c us acc, c.H = H ∧ Sim Z c ∧ Mk1 cb c D us ∧ VRs Z c.m c.H acc us ∧ Fit Z cb (Ev.compGo (lcTurn P F own p ifs elt st) sr m i acc c.h) (fun vs c' => ∀ us, Mk1 cb c' D us → VRs Z c'.m c'.H vs us → Q (.ref D) c'.H), ⟨n, ?_⟩, ?_⟩
  · obtain ⟨S1, E1⟩ := S.aside (u := .lst []) hD
    exact ⟨⟨cb.m, cb.h, upd cb.H D (.lst [])⟩, [], [], rfl, S1, ⟨E1, hD, hDm, upd_same⟩, .nil, hf⟩
  · rintro i m H ⟨c, us, acc, rfl, Sc, mk, ra, hf⟩
    cases m with
    | zero => exact hf.elim
    | succ m =>
      have hj := hJ i c Sc mk.ext
      unfold Ev.compGo at hf
      split at hf
      · exact hf.elim
      · rename_i q
        rw [q] at hj
        exact .inl ⟨hj, hf c.m c.H Sc mk.ext us mk ra⟩
      · rename_i v q
        rw [q] at hj
        refine .inr ⟨hj.1, fun H' => ∃ c us acc, c.H = H' ∧ Sim Z c ∧ Mk1 cb c D us ∧ VRs Z c.m c.H acc us ∧ Fit Z cb (Ev.compGo (lcTurn P F own p ifs elt st) sr m (i + 1) acc c.h) (fun vs c' => ∀ us, Mk1 cb c' D us → VRs Z c'.m c'.H vs us → Q (.ref D) c'.H), fun H' hN => ⟨m, Nat.lt_succ_self m, hN⟩, fun x H' hy => ?_⟩
        obtain ⟨S', E', rv⟩ := hj.2 x H' hy
        have mk' := mk.step E'
        have ra' := ra.mono Sc E'
        have r' : SR Z ⟨c.m, c.h, H'⟩ st σ := r.mono S mk'.ext
        unfold lcTurn at hf
        split at hf
        · exact hf.elim
        · rename_i st1 qb
          refine hg ⟨c.m, c.h, H'⟩ v x st1 _ qb S' rv (r'.wipe own) fun σ2 r2 off => ⟨wipe_off off hp, ?_⟩
          refine ht ⟨c.m, c.h, H'⟩ st1 σ2 _ S' r2 ?_
          have hf2 : Fit Z cb ((Ev.evIfs P F ifs st1 c.h).bind fun b h => Ev.R.bind (if b = true then (Ev.evE P F elt st1 h).bind fun x h => Ev.guard (acc.length < Ev.LIM) (.ok (acc ++ [x]) h) else .ok acc h) fun acc2 h2 => Ev.compGo (lcTurn P F own p ifs elt st) sr m (i + 1) acc2 h2) (fun vs c' => ∀ us, Mk1 cb c' D us → VRs Z c'.m c'.H vs us → Q (.ref D) c'.H) := by
            have hf' := hf
            generalize Ev.evIfs P F ifs st1 c.h = R0 at hf' ⊢
            cases R0 with
            | ok b h1 => exact hf'
            | exc _ _ => exact hf'
            | stuck => exact hf'
          refine hf2.bindB.imp fun b c2 S2 E2 hf3 => ?_
          have mk2 := mk'.step E2
          have ra2 := ra'.mono S' E2
          cases b with
          | false => exact ⟨c2, us, acc, rfl, S2, mk2, ra2, hf3⟩
          | true =>
            refine he c2 st1 σ2 _ S2 (r2.mono S' E2) ?_
            have hf4 : Fit Z cb ((Ev.evE P F elt st1 c2.h).bind fun x h => Ev.R.bind (Ev.guard (acc.length < Ev.LIM) (.ok (acc ++ [x]) h)) fun acc2 h2 => Ev.compGo (lcTurn P F own p ifs elt st) sr m (i + 1) acc2 h2) (fun vs c' => ∀ us, Mk1 cb c' D us → VRs Z c'.m c'.H vs us → Q (.ref D) c'.H) := by
              have hf' := hf3
              simp only [if_true] at hf'
              generalize Ev.evE P F elt st1 c2.h = R0 at hf' ⊢
              cases R0 with
              | ok b h1 => exact hf'
              | exc _ _ => exact hf'
              | stuck => exact hf'
            refine hf4.bindB.imp fun y c3 S3 E3 hf5 u ru => ?_
            have mk3 := mk2.step E3
            have ra3 := ra2.mono S2 E3
            unfold Ev.guard at hf5
            split at hf5
            · rename_i gl
              simp only [decide_eq_true_eq] at gl
              obtain ⟨S4, mk4⟩ := mk3.put (us' := us ++ [u]) S3
              obtain ⟨t1, t2⟩ := Mk1.tk (us' := us ++ [u]) mk3.at_
              exact ⟨us, mk3.at_, by rw [← ra3.length]; exact gl, ⟨c3.m, c3.h, upd c3.H D (.lst (us ++ [u]))⟩, us ++ [u], acc ++ [y], rfl, S4, mk4, (ra3.poke t1 t2).append (.cons (ru.poke t1 t2) .nil), hf5⟩
            · exact hf5.elim
variable (Z M P F) in
/-- tests of a clause: none or one -/
def SIf (as : Ev.Es) : Prop := as = .nil ∨ ∃ e', as = .cons false e' .nil ∧ STt Z M P F e'
theorem ownOf_snd (N : List Str) (own : List Nat) : (ownOf N own).map (·.2) = own := by
  unfold ownOf
  rw [List.map_map]
  conv => rhs; rw [← List.map_id own]
  exact List.map_congr_left fun _ _ => rfl
/-- the conditions that the checker asks of a comprehension -/
structure LcC (M : Gm) (s : SC) (own : List Nat) (p : Ev.Pat) (it : Ev.It) (ifs : Ev.Es) (elt : Ev.E) (x tg iter : Expr) (cs : List Expr) (scope : Scope) : Prop where
  h1 : chkIt M s it tg iter = true
  h2 : notSet iter = true
  h3 : blkC s.N s.sc scope (ownOf s.N own) = true
  h4 : ∀ i ∈ pvars p, i ∈ own
  h5 : chkP (blkSC s scope) p tg = true
  h6 : chkEs M (blkSC s scope) ifs cs = true
  h7 : chkE M (blkSC s scope) elt x = true
theorem lc_read {own : List Nat} {p : Ev.Pat} {it : Ev.It} {ifs : Ev.Es} {elt : Ev.E} {x tg iter : Expr} {cs : List Expr} {scope : Scope} (hit : SI Z M P F it) (hifs : SIf Z M P F ifs) (helt : SE Z M P F elt) (C : LcC M s own p it ifs elt x tg iter cs scope) (k : Ck Z M P F s X)
    (c : Cf) (st : Ev.St) (σ : L2.St) (Q : VK) (S : Sim Z c) (r : SR Z c st σ) (hf : Fit Z c (Ev.evE P F (.lc own p it ifs elt) st c.h) (VQ Z Q)) :
    ∃ (g : TG) (tt : TT) (te : TE), (∀ (s' : Shared) (H : L2.Hp) (C : Addr) (cl : List (Str × Addr)) (fp : List Addr), PG (X.blk s' H scope (compEnvC scope cl C X.env) fp) tg g) ∧ (∀ (s' : Shared) (H : L2.Hp) (C : Addr) (cl : List (Str × Addr)) (fp : List Addr), PTs (X.blk s' H scope (compEnvC scope cl C X.env) fp) cs tt) ∧
      (∀ (s' : Shared) (H : L2.Hp) (C : Addr) (cl : List (Str × Addr)) (fp : List Addr), PE (X.blk s' H scope (compEnvC scope cl C X.env) fp) x te) ∧ BlkOk X.N X.env.scope scope (ownOf s.N own) ∧ (∀ x, foldedSetIterable iter X.env x = pure x) ∧
      tLc (rdI X tg iter) g tt te ((ownOf s.N own).map (·.2)) σ c.H (fun v H' => Q v H' ∨ ∃ d od u, H' d = some (.frz od u) ∧ (∀ o' u', X.H_0 d ≠ some (.frz o' u')) ∧ Q v (upd H' d u)) := by
  obtain ⟨h1, h2, h3, hp, h5, h6, h7⟩ := C
  simp only [Ev.evE] at hf
  have ok : BlkOk X.N X.env.scope scope (ownOf s.N own) := by rw [k.N, k.sc]; exact blkOk_by h3
  have hs : ∀ x, foldedSetIterable iter X.env x = pure x := fun x => by
    cases iter <;> first | rfl | (simp [notSet] at h2; done)
  -- the tests
  have tests : ∃ tt : TT, (∀ (s' : Shared) (H : L2.Hp) (C : Addr) (cl : List (Str × Addr)) (fp : List Addr), PTs (X.blk s' H scope (compEnvC scope cl C X.env) fp) cs tt) ∧
      ∀ (c : Cf) (st1 : Ev.St) (σ2 : L2.St) (R : Bool → L2.Hp → Prop), Sim Z c → SR Z c st1 σ2 → Fit Z c (Ev.evIfs P F ifs st1 c.h) (fun b c' => R b c'.H) → tt σ2 c.H R := by
    rcases hifs with rfl | ⟨e', rfl, he'⟩
    · cases cs with
      | cons _ _ => simp [chkEs] at h6
      | nil => exact ⟨tYes, fun _ _ _ _ _ => pts_nil, fun c st1 σ2 R S r hf => by simp only [Ev.evIfs] at hf; exact hf.ok S⟩
    · rcases cs with _ | ⟨y, _ | ⟨_, _⟩⟩ <;> first | (simp [chkEs] at h6; done) | skip
      simp only [chkEs, Bool.and_eq_true] at h6
      refine ⟨fun σ H R => ∀ (s' : Shared) (H0 : L2.Hp) (C : Addr) (cl : List (Str × Addr)) (fp : List Addr), rdT (X.blk s' H0 scope (compEnvC scope cl C X.env) fp) y σ H R, fun s' H C cl fp => pts_one ⟨fun pins s0 σ0 H0 Q0 I hw => hw s' H C cl fp pins s0 I⟩, fun c st1 σ2 R S r hf s' H0 C cl fp => ?_⟩
      refine he' (blkSC s scope) y h6.1 _ (k.blk scope ok.kind s' H0 C cl fp) c st1 σ2 R S r ?_
      simp only [Ev.evIfs] at hf
      refine hf.bind.imp fun v c1 S1 E1 hf1 => ?_
      split at hf1
      · exact ⟨true, rfl, hf1.ok S1⟩
      · exact ⟨false, rfl, hf1.ok S1⟩
      · exact hf1.elim
  obtain ⟨tt, htt, ht⟩ := tests
  refine ⟨fun v σ H R => ∀ (s' : Shared) (H0 : L2.Hp) (C : Addr) (cl : List (Str × Addr)) (fp : List Addr), rdG (X.blk s' H0 scope (compEnvC scope cl C X.env) fp) tg v σ H R, tt,
    fun σ H R => ∀ (s' : Shared) (H0 : L2.Hp) (C : Addr) (cl : List (Str × Addr)) (fp : List Addr), rdE (X.blk s' H0 scope (compEnvC scope cl C X.env) fp) x σ H R,
    fun s' H C cl fp => ⟨fun pins s0 σ0 H0 v u Q0 I rv hw => hw s' H C cl fp pins s0 u I rv⟩, htt, fun s' H C cl fp => ⟨fun pins s0 σ0 H0 Q0 I hw => hw s' H C cl fp pins s0 I⟩, ok, hs, ?_⟩
  rw [ownOf_snd]
  refine hit s tg iter h1 X k c st σ _ S r (hf.bind.imp fun w c1 S1 E1 hf1 => ?_)
  have hf1 := Fit.calm hf1
  have r1 := r.mono S E1
  have hg : ∀ (c : Cf) (v : Ev.Val) (u : V) (st1 : Ev.St) (R : L2.St → L2.Hp → Prop), Ev.bindP p v (Ev.wipe st own) = some st1 → Sim Z c → VR Z c.m c.H v u → SR Z c (Ev.wipe st own) (L2.wipe σ own) → (∀ σ2, SR Z c st1 σ2 → Off (pvars p) (L2.wipe σ own) σ2 → R σ2 c.H) →
      ∀ (s' : Shared) (H0 : L2.Hp) (C : Addr) (cl : List (Str × Addr)) (fp : List Addr), rdG (X.blk s' H0 scope (compEnvC scope cl C X.env) fp) tg u (L2.wipe σ own) c.H R := fun c v u st1 R hb S rv rs hR s' H0 C cl fp =>
    (soundP (k.blk scope ok.kind s' H0 C cl fp) p tg v u _ st1 _ h5 hb S rv rs).imp fun σ2 H' ⟨e1, r2, o2⟩ => by rw [e1]; exact hR σ2 r2 o2
  have he : ∀ (c : Cf) (st1 : Ev.St) (σ2 : L2.St) (R : VK), Sim Z c → SR Z c st1 σ2 → Fit Z c (Ev.evE P F elt st1 c.h) (VQ Z R) → ∀ (s' : Shared) (H0 : L2.Hp) (C : Addr) (cl : List (Str × Addr)) (fp : List Addr), rdE (X.blk s' H0 scope (compEnvC scope cl C X.env) fp) x σ2 c.H R := fun c st1 σ2 R S r hf s' H0 C cl fp =>
    helt (blkSC s scope) x h7 _ (k.blk scope ok.kind s' H0 C cl fp) c st1 σ2 R S r hf
  obtain ⟨sr, lk⟩ := w
  cases lk with
  | none =>
    intro J hJ D hD
    have key := lc_go (cb := c1) (g := fun v σ H R => ∀ (s' : Shared) (H0 : L2.Hp) (C : Addr) (cl : List (Str × Addr)) (fp : List Addr), rdG (X.blk s' H0 scope (compEnvC scope cl C X.env) fp) tg v σ H R) (te := fun σ H R => ∀ (s' : Shared) (H0 : L2.Hp) (C : Addr) (cl : List (Str × Addr)) (fp : List Addr), rdE (X.blk s' H0 scope (compEnvC scope cl C X.env) fp) x σ H R)
      (Q := fun v H' => Q v H' ∨ ∃ d od u, H' d = some (.frz od u) ∧ (∀ o' u', X.H_0 d ≠ some (.frz o' u')) ∧ Q v (upd H' d u)) (D := D) hp hg ht he S1 r1 hJ hD (sr.len c1.h + 1)
    refine key ?_
    refine (Fit.bindB (c' := c1) hf1).imp fun vs c2 S2 E2 hf2 us mk ru => .inl ?_
    obtain ⟨S3, E3⟩ := mk.adopt S2 ru
    exact hf2 _ _ S3 E3 _ (newRef S2 D _)
  | some ikv =>
    obtain ⟨i, kvs⟩ := ikv
    intro d us0 od J q1 hd rk e1 hn hJ D hD
    obtain ⟨SL, EL⟩ := S1.locked q1 hd rk od
    have key := lc_go (cb := lockC c1 i d kvs od us0) (g := fun v σ H R => ∀ (s' : Shared) (H0 : L2.Hp) (C : Addr) (cl : List (Str × Addr)) (fp : List Addr), rdG (X.blk s' H0 scope (compEnvC scope cl C X.env) fp) tg v σ H R) (te := fun σ H R => ∀ (s' : Shared) (H0 : L2.Hp) (C : Addr) (cl : List (Str × Addr)) (fp : List Addr), rdE (X.blk s' H0 scope (compEnvC scope cl C X.env) fp) x σ H R)
      (Q := fun v H' => Q v H' ∨ ∃ d od u, H' d = some (.frz od u) ∧ (∀ o' u', X.H_0 d ≠ some (.frz o' u')) ∧ Q v (upd H' d u)) (D := D) hp hg ht he SL (r1.mono S1 EL) hJ hD (sr.len c1.h + 1)
    refine key ?_
    refine (Fit.bindB (c' := lockC c1 i d kvs od us0) hf1).imp fun vs c2 S2 E2 hf2 us mk ru => .inr ?_
    obtain ⟨u1, S3, E3⟩ := S1.unlocked q1 hd rk e1 S2 mk.ext
    have hDd : D ≠ d := fun z => by rw [z] at mk; have := mk.at_; rw [u1] at this; cases this
    refine ⟨d, od, .dK us0, u1, hn, ?_⟩
    have t1 : ∀ b xs, c2.H b = some (.tup xs) → upd c2.H d (.dK us0) b = some (.tup xs) := fun b xs z => by rw [upd_ne (fun e => by rw [e, u1] at z; cases z)]; exact z
    have t2 : ∀ b o xs, c2.H b = some (.frz o (.tup xs)) → upd c2.H d (.dK us0) b = some (.frz o (.tup xs)) := fun b o xs z => by rw [upd_ne (fun e => by rw [e, u1] at z; cases z)]; exact z
    have hDn : c1.H D = none := by
      have : upd c1.H d (.frz od (.dK us0)) D = none := hD
      rw [upd_ne hDd] at this; exact this
    have mk3 : Mk1 c1 ⟨c2.m, c2.h.set i (.dict false kvs), upd c2.H d (.dK us0)⟩ D us := ⟨E3, hDn, mk.nm, by show upd c2.H d _ D = _; rw [upd_ne hDd]; exact mk.at_⟩
    obtain ⟨S4, E4⟩ := mk3.adopt S3 (ru.poke t1 t2)
    have hf3 : Fit Z c1 (Ev.alloc (.list false vs) (c2.h.set i (.dict false kvs))) (VQ Z Q) := hf2
    exact hf3 _ _ S4 E4 _ (newRef S3 D _)
theorem lcC_of {own : List Nat} {p : Ev.Pat} {it : Ev.It} {ifs : Ev.Es} {elt : Ev.E} {x : Expr} {gens : List Comprehension} {scope : Scope} {pos : Pos} (h : chkE M s (.lc own p it ifs elt) (.ListComp x gens scope pos) = true) :
    ∃ tg iter cs, gens = [⟨tg, iter, cs, 0⟩] ∧ LcC M s own p it ifs elt x tg iter cs scope := by
  rcases gens with _ | ⟨⟨tg, iter, cs, a⟩, _ | ⟨_, _⟩⟩ <;> first | (simp [chkE] at h; done) | skip
  simp only [chkE, Bool.and_eq_true, decide_eq_true_eq, List.all_eq_true] at h
  obtain ⟨⟨⟨⟨⟨⟨⟨⟨rfl, _⟩, h1⟩, h2⟩, h3⟩, h4⟩, h5⟩, h6⟩, h7⟩ := h
  exact ⟨tg, iter, cs, rfl, h1, h2, h3, fun i hi => by simpa using h4 i hi, h5, h6, h7⟩
theorem s_lc {own : List Nat} {p : Ev.Pat} {it : Ev.It} {ifs : Ev.Es} {elt : Ev.E} (hit : SI Z M P F it) (hifs : SIf Z M P F ifs) (helt : SE Z M P F elt) : SE Z M P F (.lc own p it ifs elt) := by
  intro s e h X k c st σ Q S r hf
  cases e with
  | ListComp x gens scope pos =>
    obtain ⟨tg, iter, cs, rfl, C⟩ := lcC_of h
    obtain ⟨g, tt, te, p1, p2, p3, ok, hs, rd⟩ := lc_read hit hifs helt C k c st σ Q S r hf
    exact rdE.unlock (rdE.of (pe_lc k.calm k.nd' pi_rd ok p1 p2 p3 hs) rd)
  | _ => simp [chkE] at h
end
end Sd

set_option Elab.async false
set_option maxRecDepth 100000
set_option maxHeartbeats 8000000
/-! EvS12: statements -/
namespace Sd
open PySem PySem.Spec PyProof.Rows L2
def notComp : Expr → Bool
  | .ListComp .. => false
  | .SetComp .. => false
  | .DictComp .. => false
  | _ => true
theorem swaps_plain {e : Expr} (h : notComp e = true) (t : Option Expr) (l : Nat) (env : Env) : swapsWith e t l env = pure false := by
  cases e <;> first | rfl | (simp [notComp] at h; done)
/-- the comprehension's store on one line -/
def swB (sc : Scope) (x : Str) (px : Pos) : Expr → Bool
  | .ListComp _ _ scope pos => (match sc.names.lookup x with | some .local => true | _ => false) && (px.line == pos.line) && !(scope.names.any fun (n, k) => n == x && (k == .local || k == .cell))
  | _ => false
def isLC : Expr → Bool
  | .ListComp .. => true
  | _ => false
def isTupE : Expr → Bool
  | .Tuple .. => true
  | _ => false
/-- two plain names that are locals, two values that are not both written: stored from the right -/
def sw2 (s : SC) : List Expr → List Expr → Bool
  | [.Name x px, .Name y py], [a, b] => (match s.sc.names.lookup x with | some .local => true | _ => false) && (match s.sc.names.lookup y with | some .local => true | _ => false) && (px.line == py.line) && !(x == y) && notStar a && notStar b && !([a, b].all (foldedForSure 8)) && !([a, b].all (constantsAlone 8))
  | _, _ => false
def chkPar (s : SC) (e' : Ev.E) (ts : List Expr) (e : Expr) : Bool := match e', e with
  | .tup (.cons false _ (.cons false _ .nil)), .Tuple [x, y] _ _ => sw2 s ts [x, y]
  | _, _ => false
section
variable (M : Gm)
def chkTg (s : SC) : Ev.Tg → Ev.E → Expr → Expr → Bool
  | .pat (.v i), e', .Name x px, e => decide (s.N[i]? = some x) && locB s x && chkE M s e' e && (notComp e || (isLC e && (match s.sc.names.lookup x with | some .local => true | _ => false)))
  | .pat (.t ps), e', .Tuple ts _ _, e => chkPs s ps ts && chkE M s e' e && notComp e && (!isTupE e || chkPar s e' ts e)
  | .sub o i, e', .Subscript x y _, e => notSlice y && chkE M s o x && chkE M s i y && chkE M s e' e && notComp e
  | .attr o f, e', .Attribute x n _, e => decide (n = M.fnm f) && decide (f < M.nf) && chkE M s o x && chkE M s e' e && notComp e
  | _, _, _, _ => false
mutual
def chkS (s : SC) : Ev.S → Stmt → Bool
  | .expr e', .Expr e _ => chkE M s e' e && notComp e
  | .asg t e', .Assign [tg] e _ => chkTg M s t e' tg e
  | .aug i op e', .AugAssign (.Name x _) o e _ => decide (o = opOf op) && decide (s.N[i]? = some x) && locB s x && chkE M s e' e
  | .augAttr o f op e', .AugAssign (.Attribute x n _) p e _ => (op == .add || op == .sub) && decide (p = opOf op) && decide (n = M.fnm f) && decide (f < M.nf) && chkE M s o x && chkE M s e' e
  | .ret e', .Return (some e) _ => chkE M s e' e
  | .retN, .Return none _ => true
  | .pass, .Pass _ => true
  | .brk, .Break _ => true
  | .cnt, .Continue _ => true
  | .ite k a b, .If t x y _ => chkE M s k t && chkSs s a x && chkSs s b y
  | .whl k b, .While t x [] _ => chkE M s k t && chkSs s b x
  | .for_ p it b, .For tg iter x [] _ => chkIt M s it tg iter && notSet iter && chkP s p tg && chkSs s b x
  | .raise _ _, .Raise _ _ _ => true
  | _, _ => false
def chkSs (s : SC) : Ev.Ss → List Stmt → Bool
  | .nil, [] => true
  | .cons x xs, y :: ys => chkS s x y && chkSs s xs ys
  | _, _ => false
end
end
section
variable {Z : Ab} {M : Gm} {P : Ev.Pg} {F : Ev.Fn} {W : Nat} {s : SC} {X : Cx}
/-- what is wished of a statement's end -/
def SQ (Z : Ab) (D : Ends) : Ev.Fl × Ev.St → Cf → Prop := fun r c' => match r.1 with
  | .next => ∀ σ', SR Z c' r.2 σ' → D.nx σ' c'.H
  | .ret v => ∀ u, VR Z c'.m c'.H v u → D.rt u c'.H
  | .brk => ∀ σ', SR Z c' r.2 σ' → D.bk σ' c'.H
  | .cnt => ∀ σ', SR Z c' r.2 σ' → D.ct σ' c'.H
variable (Z M P F W) in
def SS (s' : Ev.S) : Prop := ∀ (s : SC) (x : Stmt), chkS M s s' x = true → ∀ X, Ck Z M P F s X → ∀ (c : Cf) (st : Ev.St) (σ : L2.St) (D : Ends), Sim Z c → SR Z c st σ → Fit Z c (Ev.evS P F W s' st c.h) (SQ Z D) → rdS X x D σ c.H
variable (Z M P F W) in
def SSs (s' : Ev.Ss) : Prop := ∀ (s : SC) (xs : List Stmt), chkSs M s s' xs = true → ∀ X, Ck Z M P F s X → ∀ (c : Cf) (st : Ev.St) (σ : L2.St) (D : Ends), Sim Z c → SR Z c st σ → Fit Z c (Ev.evSs P F W s' st c.h) (SQ Z D) → rdSs X xs D σ c.H
theorem ss_nil : SSs Z M P F W .nil := by
  intro s xs h X k c st σ D S r hf
  cases xs with
  | nil => exact rdSs.of pss_nil (by simp only [Ev.evSs] at hf; exact hf.ok S σ r)
  | cons _ _ => simp [chkSs] at h
theorem ss_cons {x' : Ev.S} {xs' : Ev.Ss} (hx : SS Z M P F W x') (hxs : SSs Z M P F W xs') : SSs Z M P F W (.cons x' xs') := by
  intro s xs h X k c st σ D S r hf
  cases xs with
  | nil => simp [chkSs] at h
  | cons x xs =>
    simp only [chkSs, Bool.and_eq_true] at h
    simp only [Ev.evSs] at hf
    refine rdSs.of (pss_cons ps_rd pss_rd) (hx s x h.1 X k c st σ _ S r (hf.bind.imp fun rr c1 S1 E1 hf1 => ?_))
    obtain ⟨fl, st1⟩ := rr
    cases fl with
    | next => exact fun σ' r' => hxs s xs h.2 X k c1 st1 σ' D S1 r' hf1
    | ret v => exact hf1.ok S1
    | brk => exact hf1.ok S1
    | cnt => exact hf1.ok S1
theorem s_expr {e' : Ev.E} (he : SE Z M P F e') : SS Z M P F W (.expr e') := by
  intro s x h X k c st σ D S r hf
  cases x with
  | Expr e pos =>
    simp only [chkS, Bool.and_eq_true] at h
    simp only [Ev.evS] at hf
    exact rdS.of (ps_expr pe_rd (swaps_plain h.2 _ _ _)) (he s e h.1 X k c st σ _ S r (hf.bind.imp fun v c1 S1 E1 hf1 u ru => hf1.ok S1 σ (r.mono S E1)))
  | _ => simp [chkS] at h
theorem s_ret {e' : Ev.E} (he : SE Z M P F e') : SS Z M P F W (.ret e') := by
  intro s x h X k c st σ D S r hf
  cases x with
  | Return eo pos =>
    cases eo with
    | none => simp [chkS] at h
    | some e =>
      simp only [chkS] at h
      simp only [Ev.evS] at hf
      exact rdS.of (ps_ret pe_rd) (he s e h X k c st σ _ S r (hf.bind.imp fun v c1 S1 E1 hf1 u ru => hf1.ok S1 u ru))
  | _ => simp [chkS] at h
theorem s_retN : SS Z M P F W .retN := by
  intro s x h X k c st σ D S r hf
  cases x with
  | Return eo pos =>
    cases eo with
    | some _ => simp [chkS] at h
    | none => simp only [Ev.evS] at hf; exact rdS.of ps_retN (hf.ok S _ .non)
  | _ => simp [chkS] at h
theorem s_pass : SS Z M P F W .pass := by
  intro s x h X k c st σ D S r hf
  cases x <;> first | (simp [chkS] at h; done) | (simp only [Ev.evS] at hf; exact rdS.of ps_pass (hf.ok S σ r))
theorem s_brk : SS Z M P F W .brk := by
  intro s x h X k c st σ D S r hf
  cases x <;> first | (simp [chkS] at h; done) | (simp only [Ev.evS] at hf; exact rdS.of ps_break (hf.ok S σ r))
theorem s_cnt : SS Z M P F W .cnt := by
  intro s x h X k c st σ D S r hf
  cases x <;> first | (simp [chkS] at h; done) | (simp only [Ev.evS] at hf; exact rdS.of ps_continue (hf.ok S σ r))
theorem s_raise {a : Nat} {as : Ev.Es} : SS Z M P F W (.raise a as) := by
  intro s x h X k c st σ D S r hf
  simp only [Ev.evS] at hf
  exact hf.elim
theorem Fit.bl {c : Cf} {r : Ev.R Ev.Val} {Q : Bool → Cf → Prop} (h : Fit Z c (r.bind Ev.blOf) Q) : Fit Z c r (fun v c' => ∃ b, v = .bl b ∧ Fit Z c (.ok b c'.h) Q) := by
  refine h.bindB.imp fun v c1 S1 E1 h1 => ?_
  cases v <;> first | exact h1.elim | exact ⟨_, rfl, h1⟩
theorem s_ite {k' : Ev.E} {a b : Ev.Ss} (hk : STt Z M P F k') (ha : SSs Z M P F W a) (hb : SSs Z M P F W b) : SS Z M P F W (.ite k' a b) := by
  intro s x h X k c st σ D S r hf
  cases x with
  | If t y z pos =>
    simp only [chkS, Bool.and_eq_true] at h
    simp only [Ev.evS] at hf
    refine rdS.of (ps_if pt_rd pss_rd pss_rd) (hk s t h.1.1 X k c st σ _ S r ?_)
    have hf' := Fit.bl (Fit.bindB (c' := c) hf)
    refine hf'.imp fun v c1 S1 E1 ⟨b', e1, h1⟩ => ⟨b', e1, ?_⟩
    have h2 := (h1 c1.m c1.H S1 E1).base E1
    cases b' with
    | true => exact ha s y h.1.2 X k c1 st σ D S1 (r.mono S E1) h2
    | false => exact hb s z h.2 X k c1 st σ D S1 (r.mono S E1) h2
  | _ => simp [chkS] at h
theorem s_whl {k' : Ev.E} {b : Ev.Ss} (hk : STt Z M P F k') (hb : SSs Z M P F W b) : SS Z M P F W (.whl k' b) := by
  intro s x h X k c st σ D S r hf
  cases x with
  | While t y els pos =>
    cases els with
    | cons _ _ => simp [chkS] at h
    | nil =>
      simp only [chkS, Bool.and_eq_true] at h
      simp only [Ev.evS] at hf
      refine rdS.of (ps_while (by rw [k.xe]; exact PassesOwn.never) pt_rd pss_rd) ?_
      refine ⟨fun m σ H => ∃ c1 st1, c1.H = H ∧ Sim Z c1 ∧ SR Z c1 st1 σ ∧ Fit Z c1 (Ev.whileGo (fun st h => (Ev.evE P F k' st h).bind Ev.blOf) (fun st h => Ev.evSs P F W b st h) m st1 c1.h) (SQ Z D), ⟨W, c, st, rfl, S, r, hf⟩, ?_⟩
      rintro m σ1 H ⟨c1, st1, rfl, S1, r1, hf1⟩
      cases m with
      | zero => exact hf1.elim
      | succ m =>
        unfold Ev.whileGo at hf1
        refine hk s t h.1 X k c1 st1 σ1 _ S1 r1 ?_
        refine (Fit.bl (Fit.bindB (c' := c1) hf1)).imp fun v c2 S2 E2 ⟨b', e1, h1⟩ => ⟨b', e1, ?_⟩
        have h2 := (h1 c2.m c2.H S2 E2).base E2
        cases b' with
        | false => exact h2.ok S2 σ1 (r1.mono S1 E2)
        | true =>
          simp only [if_true] at h2
          refine ⟨fun σ' H' => ∃ c1 st1, c1.H = H' ∧ Sim Z c1 ∧ SR Z c1 st1 σ' ∧ Fit Z c1 (Ev.whileGo (fun st h => (Ev.evE P F k' st h).bind Ev.blOf) (fun st h => Ev.evSs P F W b st h) m st1 c1.h) (SQ Z D), fun σ' H' hN => ⟨m, Nat.lt_succ_self m, hN⟩, ?_⟩
          refine hb s y h.2 X k c2 st1 σ1 _ S2 (r1.mono S1 E2) (h2.bind.imp fun rr c3 S3 E3 h3 => ?_)
          obtain ⟨fl, st3⟩ := rr
          cases fl with
          | next => exact fun σ' r' => ⟨c3, st3, rfl, S3, r', h3⟩
          | cnt => exact fun σ' r' => ⟨c3, st3, rfl, S3, r', h3⟩
          | brk => exact h3.ok S3
          | ret v => exact h3.ok S3
  | _ => simp [chkS] at h
/-- the end of a locked walk, where a thing is a statement -/
def UnL (X : Cx) (P : L2.Hp → Prop) : L2.Hp → Prop := fun H => P H ∨ ∃ d od u, H d = some (.frz od u) ∧ (∀ o' u', X.H_0 d ≠ some (.frz o' u')) ∧ P (upd H d u)
def UnD (X : Cx) (D : Ends) : Ends := ⟨fun σ => UnL X (D.nx σ), fun v => UnL X (D.rt v), fun σ => UnL X (D.bk σ), fun σ => UnL X (D.ct σ)⟩
theorem rdS.unlock {x : Stmt} {σ : L2.St} {H : L2.Hp} {D : Ends} (h : rdS X x (UnD X D) σ H) : rdS X x D σ H := fun pins s I => thn (h pins s I) fun f s1 q => by
  cases f with
  | next =>
    obtain ⟨σ', H', I', q | ⟨d, od, u, e1, e2, q⟩⟩ := q
    · exact ⟨σ', H', I', q⟩
    · exact ⟨σ', _, I'.unlock e1 e2, q⟩
  | brk =>
    obtain ⟨σ', H', I', q | ⟨d, od, u, e1, e2, q⟩⟩ := q
    · exact ⟨σ', H', I', q⟩
    · exact ⟨σ', _, I'.unlock e1 e2, q⟩
  | cont =>
    obtain ⟨σ', H', I', q | ⟨d, od, u, e1, e2, q⟩⟩ := q
    · exact ⟨σ', H', I', q⟩
    · exact ⟨σ', _, I'.unlock e1 e2, q⟩
  | ret v =>
    obtain ⟨w, σ', H', I', rv, q | ⟨d, od, u, e1, e2, q⟩⟩ := q
    · exact ⟨w, σ', H', I', rv, q⟩
    · exact ⟨w, σ', _, I'.unlock e1 e2, rv, q⟩
/-- the loop of a for -/
theorem for_go {p : Ev.Pat} {b : Ev.Ss} {st : Ev.St} {σ : L2.St} {g : TG} {tb : TS} {sr : Ev.Sr} {J : It} {cb : Cf} {D : Ends}
    (hg : ∀ (c : Cf) (v : Ev.Val) (u : V) (st st1 : Ev.St) (σ : L2.St) (R : L2.St → L2.Hp → Prop), Ev.bindP p v st = some st1 → Sim Z c → VR Z c.m c.H v u → SR Z c st σ → (∀ σ2, SR Z c st1 σ2 → R σ2 c.H) → g u σ c.H R)
    (hb : ∀ (c : Cf) (st1 : Ev.St) (σ2 : L2.St) (D : Ends), Sim Z c → SR Z c st1 σ2 → Fit Z c (Ev.evSs P F W b st1 c.h) (SQ Z D) → tb D σ2 c.H)
    (S : Sim Z cb) (r : SR Z cb st σ) (hJ : SrJ Z cb sr J) (n : Nat)
    (hf : Fit Z cb (Ev.forGo (Ev.bindP p) (fun st h => Ev.evSs P F W b st h) sr n 0 st cb.h) (SQ Z D)) :
    ∃ W : Nat → Nat → L2.St → L2.Hp → Prop, (∃ m, W 0 m σ cb.H) ∧ ∀ i m σ H, W i m σ H → (J.stop i H ∧ D.nx σ H) ∨ (J.go i H ∧ ∃ N : L2.St → L2.Hp → Prop, (∀ σ' H', N σ' H' → ∃ m', m' < m ∧ W (i + 1) m' σ' H') ∧ ∀ x H', J.yld i H x H' → g x σ H' fun σ2 H2 => tb { D with nx := N, ct := N, bk := D.nx } σ2 H2) := by
  refine ⟨fun i m σ H => ∃ c st, c.H = H ∧ Sim Z c ∧ Ext cb c ∧ SR Z c st σ ∧ Fit Z cb (Ev.forGo (Ev.bindP p) (fun st h => Ev.evSs P F W b st h) sr m i st c.h) (SQ Z D), ⟨n, cb, st, rfl, S, Ext.refl cb, r, hf⟩, ?_⟩
  rintro i m σ H ⟨c, st, rfl, Sc, E, rs, hf⟩
  cases m with
  | zero => exact hf.elim
  | succ m =>
    have hj := hJ i c Sc E
    unfold Ev.forGo at hf
    split at hf
    · exact hf.elim
    · rename_i q
      rw [q] at hj
      exact .inl ⟨hj, hf c.m c.H Sc E σ rs⟩
    · rename_i v q
      rw [q] at hj
      refine .inr ⟨hj.1, fun σ' H' => ∃ c st, c.H = H' ∧ Sim Z c ∧ Ext cb c ∧ SR Z c st σ' ∧ Fit Z cb (Ev.forGo (Ev.bindP p) (fun st h => Ev.evSs P F W b st h) sr m (i + 1) st c.h) (SQ Z D), fun σ' H' hN => ⟨m, Nat.lt_succ_self m, hN⟩, fun x H' hy => ?_⟩
      obtain ⟨S', E', rv⟩ := hj.2 x H' hy
      split at hf
      · exact hf.elim
      · rename_i st1 qb
        refine hg ⟨c.m, c.h, H'⟩ v x st st1 σ _ qb S' rv (rs.mono Sc E') fun σ2 r2 => ?_
        refine hb ⟨c.m, c.h, H'⟩ st1 σ2 _ S' r2 (hf.bindB.imp fun rr c2 S2 E2 h2 => ?_)
        have E12 := (E.trans E').trans E2
        obtain ⟨fl, st2⟩ := rr
        cases fl with
        | next => exact fun σ' r' => ⟨c2, st2, rfl, S2, E12, r', h2⟩
        | cnt => exact fun σ' r' => ⟨c2, st2, rfl, S2, E12, r', h2⟩
        | brk => exact h2 c2.m c2.H S2 E12
        | ret v => exact h2 c2.m c2.H S2 E12
theorem Fit.assoc {c : Cf} {α β γ : Type} {r : Ev.R α} {f : α → Ev.Hp → Ev.R β} {g : β → Ev.Hp → Ev.R γ} {Q : γ → Cf → Prop} (h : Fit Z c ((r.bind f).bind g) Q) : Fit Z c (r.bind fun a h => (f a h).bind g) Q := by
  cases r with
  | ok a h' => exact h
  | exc _ _ => exact h
  | stuck => exact h
theorem s_for {p : Ev.Pat} {it : Ev.It} {b : Ev.Ss} (hit : SI Z M P F it) (hb : SSs Z M P F W b) : SS Z M P F W (.for_ p it b) := by
  intro s x h X k c st σ D S r hf
  cases x with
  | For tg iter y els pos =>
    cases els with
    | cons _ _ => simp [chkS] at h
    | nil =>
      simp only [chkS, Bool.and_eq_true] at h
      obtain ⟨⟨⟨h1, h2⟩, h3⟩, h4⟩ := h
      simp only [Ev.evS] at hf
      have hs : ∀ x, foldedSetIterable iter X.env x = pure x := fun x => by
        cases iter <;> first | rfl | (simp [notSet] at h2; done)
      refine rdS.unlock (rdS.of (ps_for (by rw [k.xe]; exact PassesOwn.never) k.calm pi_rd pg_rd pss_rd hs) ?_)
      refine hit s tg iter h1 X k c st σ _ S r (hf.bind.imp fun w c1 S1 E1 hf1 => ?_)
      have r1 := r.mono S E1
      have hg : ∀ (c : Cf) (v : Ev.Val) (u : V) (st st1 : Ev.St) (σ : L2.St) (R : L2.St → L2.Hp → Prop), Ev.bindP p v st = some st1 → Sim Z c → VR Z c.m c.H v u → SR Z c st σ → (∀ σ2, SR Z c st1 σ2 → R σ2 c.H) → rdG X tg u σ c.H R := fun c v u st st1 σ R hb S rv rs hR =>
        (soundP k p tg v u st st1 σ h3 hb S rv rs).imp fun σ2 H' ⟨e1, r2, _⟩ => by rw [e1]; exact hR σ2 r2
      have hbd : ∀ (c : Cf) (st1 : Ev.St) (σ2 : L2.St) (D : Ends), Sim Z c → SR Z c st1 σ2 → Fit Z c (Ev.evSs P F W b st1 c.h) (SQ Z D) → rdSs X y D σ2 c.H := fun c st1 σ2 D S r hf => hb s y h4 X k c st1 σ2 D S r hf
      obtain ⟨sr, lk⟩ := w
      cases lk with
      | none =>
        intro J hJ
        refine for_go (cb := c1) (g := rdG X tg) (tb := rdSs X y) (D := UnD X D) hg hbd S1 r1 hJ (sr.len c1.h + 1) ?_
        refine (Fit.bindB (c' := c1) hf1).imp fun rr c2 S2 E2 h2 => ?_
        have h3 := h2 c2.m c2.H S2 E2
        obtain ⟨fl, st2⟩ := rr
        cases fl with
        | next => exact fun σ' r' => .inl (h3 σ' r')
        | ret v => exact fun u ru => .inl (h3 u ru)
        | brk => exact fun σ' r' => .inl (h3 σ' r')
        | cnt => exact fun σ' r' => .inl (h3 σ' r')
      | some ikv =>
        obtain ⟨i, kvs⟩ := ikv
        intro d us0 od J q1 hd rk e1 hn hJ
        obtain ⟨SL, EL⟩ := S1.locked q1 hd rk od
        refine for_go (cb := lockC c1 i d kvs od us0) (g := rdG X tg) (tb := rdSs X y) (D := UnD X D) hg hbd SL (r1.mono S1 EL) hJ (sr.len c1.h + 1) ?_
        refine (Fit.bindB (c' := lockC c1 i d kvs od us0) hf1).imp fun rr c2 S2 E2 h2 => ?_
        obtain ⟨u1, S3, E3⟩ := S1.unlocked q1 hd rk e1 S2 E2
        have t1 : ∀ b xs, c2.H b = some (.tup xs) → upd c2.H d (.dK us0) b = some (.tup xs) := fun b xs z => by rw [upd_ne (fun e => by rw [e, u1] at z; cases z)]; exact z
        have t2 : ∀ b o xs, c2.H b = some (.frz o (.tup xs)) → upd c2.H d (.dK us0) b = some (.frz o (.tup xs)) := fun b o xs z => by rw [upd_ne (fun e => by rw [e, u1] at z; cases z)]; exact z
        have h3 := h2 _ _ S3 E3
        have rsk : ∀ st' σ', SR Z c2 st' σ' → SR Z ⟨c2.m, c2.h.set i (.dict false kvs), upd c2.H d (.dK us0)⟩ st' σ' := fun st' σ' q => ⟨q.len, fun j v hj => let ⟨u, g1, g2⟩ := q.at_ j v hj; ⟨u, g1, g2.poke t1 t2⟩⟩
        obtain ⟨fl, st2⟩ := rr
        cases fl with
        | next => exact fun σ' r' => .inr ⟨d, od, .dK us0, u1, hn, h3 σ' (rsk _ _ r')⟩
        | ret v => exact fun u ru => .inr ⟨d, od, .dK us0, u1, hn, h3 u (ru.poke t1 t2)⟩
        | brk => exact fun σ' r' => .inr ⟨d, od, .dK us0, u1, hn, h3 σ' (rsk _ _ r')⟩
        | cnt => exact fun σ' r' => .inr ⟨d, od, .dK us0, u1, hn, h3 σ' (rsk _ _ r')⟩
  | _ => simp [chkS] at h
theorem s_aug {i : Nat} {op : Ev.Bop} {e' : Ev.E} (he : SE Z M P F e') : SS Z M P F W (.aug i op e') := by
  intro s x h X k c st σ D S r hf
  cases x with
  | AugAssign tg o e pos =>
    cases tg with
    | Name x px =>
      simp only [chkS, Bool.and_eq_true, decide_eq_true_eq] at h
      obtain ⟨⟨⟨rfl, h1⟩, h2⟩, h3⟩ := h
      obtain ⟨l1, l2⟩ := k.loc h2
      simp only [Ev.evS] at hf
      split at hf
      · rename_i v q
        obtain ⟨u, g1, g2⟩ := r.at_ i v q
        have fin : ∀ (ti : TIp), PIp X (opOf op) ti → (∀ (c1 : Cf) (y : Ev.Val) (w : V), Sim Z c1 → Ext c c1 → VR Z c1.m c1.H y w → Fit Z c1 ((Ev.augCall op v y c1.h).bind fun z h => .ok (Ev.Fl.next, st.set i (some z)) h) (SQ Z D) → ti u w c1.H fun z H2 => D.nx (σ.set i (some z)) H2) → rdS X (.AugAssign (.Name x px) (opOf op) e pos) D σ c.H := by
          intro ti hti hh
          refine rdS.of (ps_aug (i := i) k.nd' (by rw [k.N]; exact h1) l1 pe_rd hti l2) ⟨u, g1, ?_⟩
          exact he s e h3 X k c st σ _ S r (hf.bind.imp fun y c1 S1 E1 hf1 w rw' => hh c1 y w S1 E1 rw' hf1)
        cases op with
        | add =>
          refine fin _ ip_add fun c1 y w S1 E1 rw' hf1 => ?_
          have g2' := g2.mono S E1
          cases v <;> cases y <;> first | exact hf1.elim | (cases g2'; cases rw'; exact ⟨_, _, rfl, rfl, (Fit.bind hf1).ok S1 |>.ok S1 _ ((r.mono S E1).set (.int _))⟩)
        | sub =>
          refine fin _ ip_sub fun c1 y w S1 E1 rw' hf1 => ?_
          have g2' := g2.mono S E1
          cases v <;> cases y <;> first | exact hf1.elim | (cases g2'; cases rw'; exact ⟨_, _, rfl, rfl, (Fit.bind hf1).ok S1 |>.ok S1 _ ((r.mono S E1).set (.int _))⟩)
        | _ =>
          obtain ⟨y0, h0, q0, hf0⟩ := hf.okE
          simp only [Ev.augCall] at hf0
          exact hf0.elim
      · exact hf.elim
    | _ => simp [chkS] at h
  | _ => simp [chkS] at h
/-- a field is stored -/
theorem FR.put {m : List Addr} {H : L2.Hp} {f : Nat} {v : Ev.Val} {u : V} (hf : f < Z.nf) (r : VR Z m H v u) : ∀ {fs : List (Nat × Ev.Val)} {us : List (Str × V)}, FR Z m H fs us → FR Z m H (Ev.putF fs f v) (L2.putF (Z.fnm f) u us)
  | _, _, .nil => .cons hf r .nil
  | _, _, .cons (f := g) (u := w) (us := us') hg rr t => by
    unfold Ev.putF
    unfold L2.putF
    by_cases h : g = f
    · subst h
      rw [if_pos (by simp), if_pos rfl]
      exact .cons hf r t
    · have h' : Z.fnm g ≠ Z.fnm f := fun z => h (Z.inj g f hg hf z)
      rw [if_neg (by simpa using h), if_neg h']
      exact .cons hg rr (FR.put hf r t)
theorem setAttr_ok {c : Cf} (k : Ck Z M P F s X) {x : Ev.Val} {u : V} {f : Nat} {v : Ev.Val} {w : V} {α : Type} {g : Ev.Hp → Ev.R α} {Q : α → Cf → Prop} (S : Sim Z c) (rx : VR Z c.m c.H x u) (rv : VR Z c.m c.H v w) (hf : Fit Z c ((Ev.setAttr P x f v c.h).bind fun _ h => g h) Q) :
    ∃ a C dx fs, u = .ref a ∧ c.H a = some (.ins C dx fs) ∧ (∃ i kk fs', x = .ref i ∧ c.h[i]? = some (.inst kk fs') ∧ Z.cAd kk = some C) ∧ Cls X.K C ∧ NoAttr X.K C (Z.fnm f) ∧ fs.length < 1000 ∧ ∃ c', Sim Z c' ∧ Ext c c' ∧ c'.H = upd c.H a (.ins C dx (L2.putF (Z.fnm f) w fs)) ∧ Fit Z c' (g c'.h) Q := by
  unfold Ev.setAttr at hf
  split at hf
  · rename_i i
    cases rx with
    | @ref _ a ha =>
      split at hf
      · rename_i kk fs q1
        split at hf
        · rename_i Cl q2
          have hg : (Cl.flds.contains f && decide (fs.length < 1000)) = true := by
            unfold Ev.guard at hf
            split at hf
            · assumption
            · exact hf.elim
          rw [hg] at hf
          simp only [Bool.and_eq_true, decide_eq_true_eq] at hg
          obtain ⟨C, dx, us, e1, fr, e2⟩ := S.instAt q1 ha
          obtain ⟨cl, hfd, _, _⟩ := k.cls kk Cl C q2 e1
          obtain ⟨na, hn⟩ := hfd f hg.1
          have hl : us.length = fs.length := by
            clear e2 hf q1
            induction fr with
            | nil => rfl
            | cons _ _ t ih => simp [ih (by have := hg.2; simp at this; exact ⟨hg.1, by omega⟩)]
          refine ⟨a, C, dx, us, rfl, e2, ⟨i, kk, fs, rfl, q1, e1⟩, cl, na, by rw [hl]; exact hg.2, ?_⟩
          obtain ⟨S1, E1⟩ := S.write (o' := .inst kk (Ev.putF fs f v)) (u := .ins C dx (L2.putF (Z.fnm f) w us)) q1 ha rfl rfl fun c' z1 z2 E => by
            have := (fr.put hn rv).mono S E
            rw [z1, z2] at this
            exact ⟨C, dx, _, e1, this, upd_same⟩
          exact ⟨_, S1, E1, rfl, Fit.base E1 hf⟩
        · exact hf.elim
      · exact hf.elim
  · exact hf.elim
theorem s_augAttr {o e' : Ev.E} {f : Nat} {op : Ev.Bop} (ho : SE Z M P F o) (he : SE Z M P F e') : SS Z M P F W (.augAttr o f op e') := by
  intro s x h X k c st σ D S r hf
  cases x with
  | AugAssign tg p e pos =>
    cases tg with
    | Attribute yy n tpos =>
      simp only [chkS, Bool.and_eq_true, decide_eq_true_eq] at h
      obtain ⟨⟨⟨⟨⟨hop, rfl⟩, rfl⟩, h2⟩, h3⟩, h4⟩ := h
      rw [k.nm]
      rw [k.nf] at h2
      simp only [Ev.evS] at hf
      have fin : ∀ (rd : V → V → L2.Hp → VK → Prop), InOp X (opOf op) rd → (∀ (c1 : Cf) (v y : Ev.Val) (u w : V) (R : VK), Sim Z c1 → VR Z c1.m c1.H v u → VR Z c1.m c1.H y w → Fit Z c1 (Ev.augCall op v y c1.h) (VQ Z R) → rd u w c1.H R) → rdS X (.AugAssign (.Attribute yy (Z.fnm f) tpos) (opOf op) e pos) D σ c.H := by
        intro rd hrd hh
        refine rdS.of (ps_fldaug pe_rd pe_rd hrd) (ho s yy h3 X k c st σ _ S r (hf.bind.imp fun x c1 S1 E1 hf1 u ru => ?_))
        split at hf1
        · rename_i v qv
          unfold Ev.fldOf at qv
          split at qv
          · rename_i i
            cases ru with
            | @ref _ a ha =>
              split at qv
              · rename_i kk fs q1
                split at qv
                · rename_i Cl q3
                  split at qv
                  · rename_i q4
                    obtain ⟨C, dx, us, e1, fr, e2⟩ := S1.instAt q1 ha
                    obtain ⟨cl, hfd, _, _⟩ := k.cls kk Cl C q3 e1
                    obtain ⟨na, hn⟩ := hfd f q4
                    rcases fr.look hn with ⟨z, _⟩ | ⟨v', w, z1, z2, z3⟩
                    · rw [qv] at z; cases z
                    · rw [qv] at z1; cases z1
                      refine ⟨a, C, dx, us, w, rfl, e2, cl, na, z2, ?_⟩
                      refine he s e h4 X k c1 st σ _ S1 (r.mono S E1) (hf1.bind.imp fun y c2 S2 E2 hf2 yu ry => ?_)
                      refine hh c2 v y w yu _ S2 (z3.mono S1 E2) ry (hf2.bind.imp fun z c3 S3 E3 hf3 zu rz => ?_)
                      obtain ⟨a', C', dx', fs', g1, g2, ⟨i', kk', fs'', y1, y2, y3⟩, g3, g4, g5, c4, S4, E4, g6, g7⟩ := setAttr_ok k S3 (.ref ((E2.trans E3).get ha)) rz hf3
                      cases g1
                      cases y1
                      have hCC : C' = C := by
                        obtain ⟨o', ho', ek⟩ := (E2.trans E3).kd _ _ q1
                        rw [y2] at ho'; cases ho'
                        have : kk' = kk := by simpa [kindO] using ek
                        subst this
                        rw [e1] at y3; exact (Option.some.inj y3).symm
                      subst hCC
                      refine ⟨dx', fs', g2, g5, ?_⟩
                      rw [← g6]
                      exact g7.ok S4 σ (((r.mono S E1).mono S1 (E2.trans E3)).mono S3 E4)
                  · cases qv
                · cases qv
              · cases qv
          · cases qv
        · exact hf1.elim
      cases op with
      | add =>
        refine fin _ in_add ?_
        intro c1 v y u w R S1 rv ry hf1
        cases rv <;> cases ry <;> first | exact ⟨_, _, rfl, rfl, hf1.val S1 (.int _)⟩ | exact False.elim hf1
      | sub =>
        refine fin _ in_sub ?_
        intro c1 v y u w R S1 rv ry hf1
        cases rv <;> cases ry <;> first | exact ⟨_, _, rfl, rfl, hf1.val S1 (.int _)⟩ | exact False.elim hf1
      | _ => simp at hop
    | _ => simp [chkS] at h
  | _ => simp [chkS] at h
theorem swaps_lc (elt : Expr) (gs : List Comprehension) (scope : Scope) (pos py : Pos) (y : Str) (l : Nat) (env : Env) :
    swapsWith (.ListComp elt gs scope pos) (some (.Name y py)) l env = pure (env.blockKind == .function && env.kindOf y == some .local && py.line == pos.line && !(scope.names.any fun (n, k) => n == y && (k == .local || k == .cell))) := rfl
theorem lookLoc {sc : Scope} {x : Str} (h : (match sc.names.lookup x with | some .local => true | _ => false) = true) : sc.names.lookup x = some .local := by
  split at h
  · assumption
  · cases h
variable (Z M P F) in
/-- a comprehension that is stored at once -/
def SLC (e' : Ev.E) : Prop := ∀ own p it ifs elt, e' = .lc own p it ifs elt → SI Z M P F it ∧ SIf Z M P F ifs ∧ SE Z M P F elt
theorem s_asg {t : Ev.Tg} {e' : Ev.E} (he : SE Z M P F e') (hlc : SLC Z M P F e')
    (htg : ∀ o i, t = .sub o i → SE Z M P F o ∧ SE Z M P F i) (hta : ∀ o f, t = .attr o f → SE Z M P F o) (htup : ∀ a b, e' = .tup (.cons false a (.cons false b .nil)) → SE Z M P F a ∧ SE Z M P F b) : SS Z M P F W (.asg t e') := by
  intro s x h X k c st σ D S r hf
  cases x with
  | Assign tgs e pos =>
    rcases tgs with _ | ⟨tg, _ | ⟨_, _⟩⟩ <;> first | (simp [chkS] at h; done) | skip
    simp only [chkS] at h
    simp only [Ev.evS] at hf
    cases t with
    | pat p =>
      cases p with
      | v i =>
        cases tg with
        | Name x px =>
          simp only [chkTg, Bool.and_eq_true, decide_eq_true_eq, Bool.or_eq_true] at h
          obtain ⟨⟨⟨h1, h2⟩, h3⟩, h4⟩ := h
          obtain ⟨l1, l2⟩ := k.loc h2
          have hi : X.N[i]? = some x := by rw [k.N]; exact h1
          have plain : swapsWith e (some (.Name x px)) pos.line X.env = pure false → rdS X (.Assign [.Name x px] e pos) D σ c.H := by
            intro hs
            refine rdS.of (ps_set (i := i) k.nd' hi l1 pe_rd hs l2) (he s e h3 X k c st σ _ S r (hf.bind.imp fun v c1 S1 E1 hf1 u ru => ?_))
            have hf2 := Fit.bind hf1
            simp only [Ev.evTg, Ev.bindP] at hf2
            obtain ⟨st1, q, hf3⟩ := Fit.opt hf2
            cases q
            exact (hf3.ok S1).ok S1 _ ((r.mono S E1).set ru)
          rcases h4 with h4 | ⟨h4, h5⟩
          · exact plain (swaps_plain h4 _ _ _)
          · cases e with
            | ListComp elt gs scope lpos =>
              cases q : (X.env.blockKind == .function && X.env.kindOf x == some .local && px.line == lpos.line && !(scope.names.any fun (n, k) => n == x && (k == .local || k == .cell))) with
              | false => exact plain (by rw [swaps_lc, q])
              | true =>
                cases e' <;> first | (simp [chkE] at h3; done) | skip
                rename_i own p it ifs elt'
                obtain ⟨hit, hifs, helt⟩ := hlc own p it ifs elt' rfl
                obtain ⟨tg', iter, cs, rfl, C⟩ := lcC_of h3
                have hxl : X.env.scope.names.lookup x = some .local := by rw [k.sc]; exact lookLoc h5
                obtain ⟨g, tt, te, p1, p2, p3, ok, hs, rd⟩ := lc_read hit hifs helt C k c st σ (fun v H' => D.nx (σ.set i (some v)) H') S r (hf.bind.imp fun v c1 S1 E1 hf1 u ru => by
                  have hf2 := Fit.bind hf1
                  simp only [Ev.evTg, Ev.bindP] at hf2
                  obtain ⟨st1, q, hf3⟩ := Fit.opt hf2
                  cases q
                  exact (hf3.ok S1).ok S1 _ ((r.mono S E1).set ru))
                exact rdS.unlock (rdS.of (ps_setLc (i := i) k.calm k.nd' hi hxl (by rw [swaps_lc, q]) pi_rd ok p1 p2 p3 hs) rd)
            | _ => simp [isLC] at h4
        | _ => simp [chkTg] at h
      | t ps =>
        cases tg with
        | Tuple ts kt pt =>
          simp only [chkTg, Bool.and_eq_true, Bool.or_eq_true, Bool.not_eq_true'] at h
          obtain ⟨⟨⟨h1, h2⟩, h3⟩, h4⟩ := h
          rcases h4 with h4 | h4
          · have hw : swappedStores [.Tuple ts kt pt] e X.env = pure none := by cases e <;> first | rfl | (simp [isTupE] at h4; done)
            have hp : chkP s (.t ps) (.Tuple ts kt pt) = true := h1
            refine rdS.of (ps_asg pe_rd pg_rd (swaps_plain h3 _ _ _) hw rfl) (he s e h2 X k c st σ _ S r (hf.bind.imp fun v c1 S1 E1 hf1 u ru => ?_))
            have hf2 := Fit.bind hf1
            simp only [Ev.evTg] at hf2
            obtain ⟨st1, q, hf3⟩ := Fit.opt hf2
            exact (soundP k (.t ps) _ v u st st1 σ hp q S1 ru (r.mono S E1)).imp fun σ' H' ⟨e1, r', _⟩ => by rw [e1]; exact (hf3.ok S1).ok S1 _ r'
          · unfold chkPar at h4
            split at h4
            · rename_i a b x y k2 p2
              obtain ⟨ha, hb⟩ := htup a b rfl
              simp only [chkE, chkEl, Bool.and_eq_true] at h2
              obtain ⟨h2, h3', _⟩ := h2
              rcases ts with _ | ⟨t1, _ | ⟨t2, _ | ⟨_, _⟩⟩⟩ <;> first | (simp [sw2] at h4; done) | skip
              cases t1 <;> first | (simp [sw2] at h4; done) | skip
              cases t2 <;> first | (simp [sw2] at h4; done) | skip
              rename_i x1 px1 x2 px2
              simp only [sw2, Bool.and_eq_true, Bool.not_eq_true'] at h4
              obtain ⟨⟨⟨⟨⟨⟨⟨g1, g2⟩, g3⟩, g4⟩, g5⟩, g6⟩, g7⟩, g8⟩ := h4
              have l1 := lookLoc g1
              have l2 := lookLoc g2
              rcases ps with _ | ⟨p1, _ | ⟨p2', _ | ⟨_, _⟩⟩⟩ <;> first | (simp [chkPs] at h1; done) | skip
              simp only [chkPs, Bool.and_eq_true] at h1
              cases p1 <;> first | (simp [chkP] at h1; done) | skip
              cases p2' <;> first | (simp [chkP] at h1; done) | skip
              rename_i i1 i2
              simp only [chkP, Bool.and_eq_true, decide_eq_true_eq] at h1
              obtain ⟨⟨n1, _⟩, ⟨n2, _⟩, _⟩ := h1
              have hne : x1 ≠ x2 := by simpa using g4
              have hij : i1 ≠ i2 := by rintro rfl; rw [n1] at n2; exact hne (Option.some.inj n2)
              have hxl : X.env.scope.names.lookup x1 = some .local := by rw [k.sc]; exact l1
              have hyl : X.env.scope.names.lookup x2 = some .local := by rw [k.sc]; exact l2
              have hbk : (X.env.blockKind != .function) = false := by
                unfold Env.blockKind; rw [k.sc, k.kind]; rfl
              have hw : swappedStores [.Tuple [.Name x1 px1, .Name x2 px2] kt pt] (.Tuple [x, y] k2 p2) X.env = pure (some [x1, x2]) := by
                have k1 : X.env.kindOf x1 = some .local := hxl
                have k2' : X.env.kindOf x2 = some .local := hyl
                have s1 : ([x, y].any fun | .Starred .. => true | _ => false) = false := by
                  cases x <;> cases y <;> first | rfl | (simp [notStar] at g5; done) | (simp [notStar] at g6; done)
                have e1 : ([x1, x2] : List Str).eraseDups = [x1, x2] := by
                  simp [List.eraseDups_cons, hne.symm]
                have g3' : px2.line = px1.line := by simpa using (beq_iff_eq.mp g3).symm
                unfold swappedStores
                simp only [hbk, s1, g7, g8, k1, k2', g3', Expr.pos, List.head?_cons, Option.map_some, Option.getD_some, List.filterMap_cons, List.filterMap_nil, beq_self_eq_true, Bool.and_self, if_true, List.length_cons, List.length_nil, e1]
                cases x <;> cases y <;> first | rfl | (simp [notStar] at g5; done) | (simp [notStar] at g6; done)
              have hs : swapsWithSole [.Tuple [.Name x1 px1, .Name x2 px2] kt pt] (.Tuple [x, y] k2 p2) pos.line X.env = pure false := rfl
              have s2 := star_plain (chkE_ns h3') [] X.env
              have s1 := star_plain (chkE_ns h2) [y] X.env
              refine rdS.of (ps_par (i := i1) (j := i2) k.calm k.nd' (by rw [k.N]; exact n1) (by rw [k.N]; exact n2) hij hxl hyl (pa_cons pe_rd (pa_cons pe_rd pa_nil s2) s1) hw hs) ?_
              simp only [Ev.evE, Ev.evEs, Bool.false_eq_true, if_false] at hf
              have hf := Fit.assoc (Fit.assoc hf)
              refine ha s x h2 X k c st σ _ S r (hf.bind.imp fun v c1 S1 E1 hf1 u ru => ?_)
              have hf1 := Fit.assoc (Fit.assoc hf1)
              refine hb s y h3' X k c1 st σ _ S1 (r.mono S E1) (hf1.bind.imp fun w c2 S2 E2 hf2 z rz => ?_)
              refine ⟨u, z, rfl, ?_⟩
              have hf3 : Fit Z c2 (Ev.R.ok (Ev.Fl.next, (st.set i1 (some v)).set i2 (some w)) c2.h) (SQ Z D) := hf2
              exact hf3.ok S2 _ (((r.mono S (E1.trans E2)).set (ru.mono S1 E2)).set rz)
            · cases h4
        | _ => simp [chkTg] at h
    | sub o i =>
      cases tg with
      | Subscript y z tp =>
        simp only [chkTg, Bool.and_eq_true] at h
        obtain ⟨⟨⟨⟨h1, h2⟩, h3⟩, h4⟩, h5⟩ := h
        obtain ⟨ho, hi⟩ := htg o i rfl
        have ha : ∀ v, assign (.Subscript y z tp) X.env v = (do
            let ov ← holding [v] (eval y X.env)
            let iv ← holding [v, ov] (eval z X.env)
            standAt tp
            holding [v, ov, iv] (setItem ov iv v)
            release [v, ov, iv] []) := fun v => by cases z <;> first | rfl | (simp [notSlice] at h1; done)
        refine rdS.of (ps_asg (pos := pos) (e := e) pe_rd (pg_sub pe_rd pe_rd pset_rd ha) (by rw [swapsWithSole]; exact swaps_plain h5 _ _ _) (by cases e <;> rfl) rfl) (he s e h4 X k c st σ _ S r (hf.bind.imp fun v c1 S1 E1 hf1 u ru => ?_))
        simp only [Ev.evTg] at hf1
        have hf1 := Fit.assoc hf1
        refine ho s y h2 X k c1 st σ _ S1 (r.mono S E1) (hf1.bind.imp fun x2 c2 S2 E2 hf2 u2 ru2 => ?_)
        have hf2 := Fit.assoc hf2
        refine hi s z h3 X k c2 st σ _ S2 (r.mono S (E1.trans E2)) (hf2.bind.imp fun x3 c3 S3 E3 hf3 u3 ru3 => ?_)
        have hf3 := Fit.assoc hf3
        exact sSet k.units S3 (ru2.mono S2 E3) ru3 (ru.mono S1 (E2.trans E3)) (hf3.bind.imp fun _ c4 S4 E4 hf4 => (Fit.bind hf4).ok S4 |>.ok S4 _ (r.mono S (E1.trans (E2.trans (E3.trans E4)))))
      | _ => simp [chkTg] at h
    | attr o f =>
      cases tg with
      | Attribute y n tp =>
        simp only [chkTg, Bool.and_eq_true, decide_eq_true_eq] at h
        obtain ⟨⟨⟨⟨rfl, h2⟩, h3⟩, h4⟩, h5⟩ := h
        have ho := hta o f rfl
        rw [k.nm]
        refine rdS.of (ps_fld pe_rd pe_rd (swaps_plain h5 _ _ _)) (he s e h4 X k c st σ _ S r (hf.bind.imp fun v c1 S1 E1 hf1 u ru => ?_))
        simp only [Ev.evTg] at hf1
        have hf1 := Fit.assoc hf1
        refine ho s y h3 X k c1 st σ _ S1 (r.mono S E1) (hf1.bind.imp fun x2 c2 S2 E2 hf2 u2 ru2 => ?_)
        have hf2 := Fit.assoc hf2
        obtain ⟨a', C', dx', fs', g1, g2, _, g3, g4, g5, c4, S4, E4, g6, g7⟩ := setAttr_ok k S2 ru2 (ru.mono S1 E2) hf2
        refine ⟨a', C', dx', fs', g1, g2, g3, g4, g5, ?_⟩
        rw [← g6]
        exact (Fit.bind g7).ok S4 |>.ok S4 σ (r.mono S ((E1.trans E2).trans E4))
      | _ => simp [chkTg] at h
  | _ => simp [chkS] at h
end
end Sd

set_option Elab.async false
set_option maxRecDepth 100000
set_option maxHeartbeats 4000000
/-! EvD1: displays of dicts -/
namespace Sd
open PySem PySem.Spec PyProof.Rows L2
section
variable {Z : Ab} {M : Gm} {P : Ev.Pg} {F : Ev.Fn} {s : SC} {X : Cx}
/-- something that is being made, none of the own heap's -/
structure MkO (cb c : Cf) (D : Addr) (u : HO) : Prop where
  ext : Ext cb c
  nb : cb.H D = none
  nm : D ∉ c.m
  at_ : c.H D = some u
def flat : HO → Bool
  | .tup _ => false
  | .frz _ _ => false
  | _ => true
theorem MkO.tk {c : Cf} {D : Addr} {u u' : HO} (fl : flat u = true) (h : c.H D = some u) : (∀ b xs, c.H b = some (.tup xs) → upd c.H D u' b = some (.tup xs)) ∧ ∀ b o xs, c.H b = some (.frz o (.tup xs)) → upd c.H D u' b = some (.frz o (.tup xs)) := by
  refine ⟨fun b xs z => ?_, fun b o xs z => ?_⟩ <;> (rw [upd_ne (fun e => by rw [e, h] at z; cases z; cases fl)]; exact z)
theorem MkO.put {cb c : Cf} {D : Addr} {u u' : HO} (fl : flat u = true) (k : MkO cb c D u) (S : Sim Z c) : Sim Z ⟨c.m, c.h, upd c.H D u'⟩ ∧ MkO cb ⟨c.m, c.h, upd c.H D u'⟩ D u' := by
  obtain ⟨t1, t2⟩ := MkO.tk (u' := u') fl k.at_
  have hD : ∀ a, a ∈ c.m → a ≠ D := fun a ha e => k.nm (by rw [← e]; exact ha)
  have hDb : D ∉ cb.m := fun z => by
    obtain ⟨t, q, _⟩ := k.ext.pre
    exact k.nm (by rw [q]; exact List.mem_append_left _ z)
  refine ⟨⟨S.len, S.nd, fun i o a h ha => or_poke t1 t2 (S.ob i o a h ha) (by show upd c.H D _ a = _; rw [upd_ne (hD a (List.mem_of_getElem? ha))])⟩, ⟨⟨k.ext.pre, fun b o hb hm => ?_, fun i o h f => ?_, k.ext.kd⟩, k.nb, k.nm, upd_same⟩⟩
  · show upd c.H D _ b = _
    rw [upd_ne (ne_of_none hb k.nb)]
    exact k.ext.keep b o hb hm
  · obtain ⟨g1, g2⟩ := k.ext.fz i o h f
    refine ⟨g1, fun a ha => ?_⟩
    show upd c.H D _ a = _
    rw [upd_ne (fun e => hDb (by rw [← e]; exact List.mem_of_getElem? ha))]
    exact g2 a ha
theorem MkO.step {cb c c' : Cf} {D : Addr} {u : HO} (k : MkO cb c D u) (E : Ext c c') : MkO cb c' D u := ⟨k.ext.trans E, k.nb, E.notin k.at_ k.nm, E.keep D _ k.at_ k.nm⟩
theorem MkO.ne {cb c : Cf} {D : Addr} {u : HO} (k : MkO cb c D u) {i : Nat} {a : Addr} (h : c.m[i]? = some a) : D ≠ a := fun e => k.nm (by rw [e]; exact List.mem_of_getElem? h)
/-- .. is taken into the own heap -/
theorem MkO.dict {cb c : Cf} {D : Addr} {us : List (Key × V)} {vs : List (Ev.Val × Ev.Val)} (k : MkO cb c D (.dK us)) (S : Sim Z c) (r : KVR Z c.m c.H vs us) : Sim Z ⟨c.m ++ [D], c.h ++ [.dict false vs], c.H⟩ ∧ Ext cb ⟨c.m ++ [D], c.h ++ [.dict false vs], c.H⟩ := by
  have mono : ∀ {v : Ev.Val} {u : V}, VR Z c.m c.H v u → VR Z (c.m ++ [D]) c.H v u := fun {v u} q => VR.rec (Z := Z) (m := c.m) (H := c.H) (motive_1 := fun v u _ => VR Z (c.m ++ [D]) c.H v u) (motive_2 := fun vs us' _ => VRs Z (c.m ++ [D]) c.H vs us')
    .non .bl .int .str (fun hq _ ih => .tup hq ih) (fun h => .ref (by rw [List.getElem?_append_left (List.getElem?_eq_some_iff.mp h).1]; exact h)) .cls .nil (fun _ _ a b => .cons a b) q
  have monos : ∀ {vs : List Ev.Val} {us : List V}, VRs Z c.m c.H vs us → VRs Z (c.m ++ [D]) c.H vs us := fun {vs us} q => by
    induction vs generalizing us with
    | nil => cases q; exact .nil
    | cons v vs ih => cases q with | cons a b => exact .cons (mono a) (ih b)
  have monok : ∀ {vs : List (Ev.Val × Ev.Val)} {us : List (Key × V)}, KVR Z c.m c.H vs us → KVR Z (c.m ++ [D]) c.H vs us := fun {vs us} q => by
    induction q with
    | nil => exact .nil
    | cons a b t ih => exact .cons a (mono b) ih
  have monof : ∀ {vs : List (Nat × Ev.Val)} {us : List (Str × V)}, FR Z c.m c.H vs us → FR Z (c.m ++ [D]) c.H vs us := fun {vs us} q => by
    induction q with
    | nil => exact .nil
    | cons a b t ih => exact .cons a (mono b) ih
  refine ⟨⟨by simp [S.len], ?_, fun i o a h ha => ?_⟩, ?_⟩
  · show (c.m ++ [D]).Nodup
    rw [List.nodup_append]
    refine ⟨S.nd, by simp, fun x hx y hy => ?_⟩
    simp only [List.mem_singleton] at hy
    subst hy
    rintro rfl
    exact k.nm hx
  · by_cases hi : i < c.h.length
    · have h' : c.h[i]? = some o := by rw [← List.getElem?_append_left hi (l₂ := [.dict false vs])]; exact h
      have ha' : c.m[i]? = some a := by rw [← List.getElem?_append_left (by rw [S.len]; exact hi) (l₂ := [D])]; exact ha
      have q := S.ob i o a h' ha'
      cases o with
      | list b vs => cases b with
        | false => obtain ⟨ws, q1, q2⟩ := q; exact ⟨ws, monos q1, q2⟩
        | true => obtain ⟨ws, o, q1, q2⟩ := q; exact ⟨ws, o, monos q1, q2⟩
      | dict b vs => cases b with
        | false => obtain ⟨ws, q1, q2⟩ := q; exact ⟨ws, monok q1, q2⟩
        | true => obtain ⟨ws, o, q1, q2⟩ := q; exact ⟨ws, o, monok q1, q2⟩
      | inst k fs => obtain ⟨C, dx, ws, q0, q1, q2⟩ := q; exact ⟨C, dx, ws, q0, monof q1, q2⟩
    · have hl := (List.getElem?_eq_some_iff.mp h).1
      have hi2 : i = c.h.length := by simp at hl; omega
      subst hi2
      have h2 : (c.h ++ [Ev.Obj.dict false vs])[c.h.length]? = some (.dict false vs) := by simp
      have h3 : (c.m ++ [D])[c.h.length]? = some D := by rw [← S.len]; simp
      have e1 : Ev.Obj.dict false vs = o := Option.some.inj (h2.symm.trans h)
      have e2 : D = a := Option.some.inj (h3.symm.trans ha)
      subst e1 e2
      exact ⟨us, monok r, k.at_⟩
  · obtain ⟨t, q, f⟩ := k.ext.pre
    have hDb : D ∉ cb.m := fun z => k.nm (by rw [q]; exact List.mem_append_left _ z)
    refine ⟨⟨t ++ [D], by show c.m ++ [D] = _; rw [q, List.append_assoc], fun a ha => ?_⟩, k.ext.keep, fun i o h ff => ?_, fun i o h => ?_⟩
    · rcases List.mem_append.mp ha with z | z
      · exact f a z
      · simp only [List.mem_singleton] at z; subst z; exact ⟨k.nb, hDb⟩
    · obtain ⟨g1, g2⟩ := k.ext.fz i o h ff
      exact ⟨by show (c.h ++ _)[i]? = _; rw [List.getElem?_append_left (List.getElem?_eq_some_iff.mp g1).1]; exact g1, g2⟩
    · obtain ⟨o', g1, g2⟩ := k.ext.kd i o h
      exact ⟨o', by show (c.h ++ _)[i]? = _; rw [List.getElem?_append_left (List.getElem?_eq_some_iff.mp g1).1]; exact g1, g2⟩
theorem MkO.begin {c : Cf} {p : Addr} {u : HO} (S : Sim Z c) (n : c.H p = none) : Sim Z ⟨c.m, c.h, upd c.H p u⟩ ∧ MkO c ⟨c.m, c.h, upd c.H p u⟩ p u := by
  obtain ⟨S1, E1⟩ := S.aside (u := u) n
  refine ⟨S1, E1, n, fun z => ?_, upd_same⟩
  obtain ⟨i, hi⟩ := List.mem_iff_getElem?.mp z
  obtain ⟨o, _, r⟩ := S.at hi
  obtain ⟨u', e, _⟩ := r.some
  rw [n] at e; cases e
theorem Ext.fresh {cb c : Cf} (E : Ext cb c) (S : Sim Z c) {r : Addr} (h : c.H r = none) : cb.H r = none := by
  by_cases hm : r ∈ cb.m
  · obtain ⟨t, q, _⟩ := E.pre
    obtain ⟨i, hi⟩ := List.mem_iff_getElem?.mp (show r ∈ c.m by rw [q]; exact List.mem_append_left _ hm)
    obtain ⟨o, _, rr⟩ := S.at hi
    obtain ⟨u', e, _⟩ := rr.some
    rw [h] at e; cases e
  · cases e : cb.H r with
    | none => rfl
    | some o => rw [E.keep r o e hm] at h; cases h
/-- the end of a display -/
theorem MkO.fin {cb c : Cf} {D : Addr} {us us' : List (Key × V)} {vs : List (Ev.Val × Ev.Val)} {Q : VK} (k : MkO cb c D (.dK us)) (S : Sim Z c) (r : KVR Z c.m c.H vs us') (h : Fit Z cb (Ev.alloc (.dict false vs) c.h) (VQ Z Q)) : Q (.ref D) (upd c.H D (.dK us')) := by
  obtain ⟨S1, k1⟩ := k.put (u' := .dK us') rfl S
  obtain ⟨t1, t2⟩ := MkO.tk (u' := .dK us') rfl k.at_
  obtain ⟨S2, E2⟩ := k1.dict S1 (r.poke t1 t2)
  exact h _ _ S2 E2 (.ref D) (.ref (by rw [← S.len]; simp))
variable (X) in
def trsOf : List (Option Expr) → List Expr → List (TE × TE)
  | some k :: ks, v :: vs => (rdE X k, rdE X v) :: trsOf ks vs
  | _, _ => []
theorem pps_of {pos : Pos} : ∀ {ds : Ev.Ds} {ks : List (Option Expr)} {vs : List Expr} {n : Nat}, chkDs M s ds ks vs = true → kvOnly ds = some n → PPs X pos ks vs (trsOf X ks vs) ∧ ks.all (·.isSome) = true ∧ ks.length = n ∧ vs.length = n
  | .nil, ks, vs, n, h, hn => by
    cases ks with
    | cons _ _ => cases vs <;> simp [chkDs] at h
    | nil => cases vs with
      | cons _ _ => simp [chkDs] at h
      | nil => simp only [kvOnly, Option.some.injEq] at hn; subst hn; exact ⟨pps_nil, rfl, rfl, rfl⟩
  | .kv a b ds, ks, vs, n, h, hn => by
    cases ks with
    | nil => cases vs <;> simp [chkDs] at h
    | cons k ks => cases vs with
      | nil => cases k <;> simp [chkDs] at h
      | cons v vs => cases k with
        | none => simp [chkDs] at h
        | some k =>
          simp only [chkDs, Bool.and_eq_true] at h
          simp only [kvOnly, Option.map_eq_some_iff] at hn
          obtain ⟨m, hm, rfl⟩ := hn
          obtain ⟨p1, p2, p3, p4⟩ := pps_of (pos := pos) h.2 hm
          exact ⟨pps_cons pe_rd pe_rd p1, by simpa using p2, by simp [p3], by simp [p4]⟩
  | .star _ _, _, _, _, _, hn => by cases hn
theorem pairs_imp : ∀ {ks : List (Option Expr)} {vs : List Expr} {σ : L2.St} {H : L2.Hp} {Q Q' : List (V × V) → L2.Hp → Prop}, tPairs (trsOf X ks vs) σ H Q → (∀ ps H', Q ps H' → Q' ps H') → tPairs (trsOf X ks vs) σ H Q'
  | some k :: ks, v :: vs, σ, H, Q, Q', h, i => rdE.imp h fun x H1 h1 => rdE.imp h1 fun y H2 h2 => pairs_imp h2 fun ps H3 h3 => i _ _ h3
  | [], _, _, _, _, _, h, i => i _ _ h
  | some _ :: _, [], _, _, _, _, h, i => i _ _ h
  | none :: _, _, _, _, _, _, h, i => i _ _ h
variable (Z M P F) in
def SDs (ds : Ev.Ds) : Prop := ∀ (s : SC) (ks : List (Option Expr)) (vs : List Expr) (n : Nat), chkDs M s ds ks vs = true → kvOnly ds = some n → ∀ X, Ck Z M P F s X → ∀ (c : Cf) (st : Ev.St) (σ : L2.St) (acc : List (Ev.Val × Ev.Val)) (us : List (Key × V)) (K : List (Ev.Val × Ev.Val) → Cf → Prop),
  Sim Z c → SR Z c st σ → KVR Z c.m c.H acc us → Fit Z c (Ev.evDs P F ds acc st c.h) K →
  tPairs (trsOf X ks vs) σ c.H fun ps H2 => ∃ c2 r kvs2, c2.H = H2 ∧ Sim Z c2 ∧ Ext c c2 ∧ ps = kvs2.map (fun kv => (kV kv.1, kv.2)) ∧ kvs2.length = n ∧ KVR Z c2.m c2.H r (mergeK us kvs2) ∧ K r c2
theorem sd_nil : SDs Z M P F .nil := by
  intro s ks vs n h hn X k c st σ acc us K S r ra hf
  simp only [kvOnly, Option.some.injEq] at hn
  subst hn
  cases ks with
  | cons _ _ => cases vs <;> simp [chkDs] at h
  | nil => cases vs with
    | cons _ _ => simp [chkDs] at h
    | nil =>
      simp only [Ev.evDs] at hf
      exact ⟨c, acc, [], rfl, S, Ext.refl c, rfl, rfl, ra, hf.ok S⟩
theorem kr_of {m : List Addr} {H : L2.Hp} {v : Ev.Val} {u : V} (r : VR Z m H v u) (h : Ev.isKey v = true) : ∃ k, KR v k ∧ u = kV k := by
  cases r with
  | int i => exact ⟨.inl i, .int i, rfl⟩
  | str s hs => exact ⟨.inr (asTx s), .str s hs, rfl⟩
  | _ => cases h
theorem sd_kv {a b : Ev.E} {ds : Ev.Ds} (ha : SE Z M P F a) (hb : SE Z M P F b) (hd : SDs Z M P F ds) : SDs Z M P F (.kv a b ds) := by
  intro s ks vs n h hn X k c st σ acc us K S r ra hf
  cases ks with
  | nil => cases vs <;> simp [chkDs] at h
  | cons kk ks => cases vs with
    | nil => cases kk <;> simp [chkDs] at h
    | cons v vs => cases kk with
      | none => simp [chkDs] at h
      | some kk =>
        simp only [chkDs, Bool.and_eq_true] at h
        simp only [kvOnly, Option.map_eq_some_iff] at hn
        obtain ⟨m, hm, rfl⟩ := hn
        simp only [Ev.evDs] at hf
        refine ha s kk h.1.1 X k c st σ _ S r (hf.bind.imp fun v1 c1 S1 E1 hf1 u1 r1 => ?_)
        refine hb s v h.1.2 X k c1 st σ _ S1 (r.mono S E1) (hf1.bind.imp fun v2 c2 S2 E2 hf2 u2 r2 => ?_)
        obtain ⟨g, hf3⟩ := hf2.guard
        simp only [Bool.and_eq_true] at g
        obtain ⟨k', rk, rfl⟩ := kr_of (r1.mono S1 E2) g.1
        refine pairs_imp (hd s ks vs m h.2 hm X k c2 st σ _ _ K S2 ((r.mono S E1).mono S1 E2) (KVR.put rk r2 ((ra.mono S E1).mono S1 E2)) hf3) ?_
        rintro ps H3 ⟨c3, rr, kvs2, eH, S3, E3, ep, el, rk3, hK⟩
        exact ⟨c3, rr, (k', u2) :: kvs2, eH, S3, (E1.trans E2).trans E3, by rw [ep]; rfl, by simp [el], rk3, hK⟩
theorem bind_assoc' {α β γ : Type} (r : Ev.R α) (f : α → Ev.Hp → Ev.R β) (g : β → Ev.Hp → Ev.R γ) : (r.bind f).bind g = r.bind fun a h => (f a h).bind g := by cases r <;> rfl
theorem guard_bind {α β : Type} (b : Bool) (r : Ev.R α) (g : α → Ev.Hp → Ev.R β) : (Ev.guard b r).bind g = Ev.guard b (r.bind g) := by cases b <;> rfl
/-- one star of a display -/
theorem star_at {β : Type} {cb c : Cf} {v : Ev.Val} {u : V} {acc : List (Ev.Val × Ev.Val)} {f : List (Ev.Val × Ev.Val) → Ev.R (List (Ev.Val × Ev.Val))} {g : List (Ev.Val × Ev.Val) → Ev.Hp → Ev.R β} {K : β → Cf → Prop} (S : Sim Z c) (r : VR Z c.m c.H v u)
    (hf : Fit Z cb ((match v with
      | .ref a => match c.h[a]? with
        | some (.dict _ kvs) => Ev.guard (acc.length + kvs.length ≤ Ev.LIM) (f kvs)
        | _ => .stuck
      | _ => .stuck).bind g) K) : ∃ (i : Nat) (a : Addr) (kvs : List (Ev.Val × Ev.Val)) (us : List (Key × V)), c.m[i]? = some a ∧ u = .ref a ∧ KVR Z c.m c.H kvs us ∧ Rd c.H a (.dK us) ∧ acc.length + kvs.length ≤ sizeLine ∧ Fit Z cb ((f kvs).bind g) K := by
  cases r with
  | @ref i a hi =>
    dsimp only at hf
    split at hf
    · rename_i b kvs q
      obtain ⟨us, r1, r2⟩ := S.dictAt q hi
      rw [guard_bind] at hf
      obtain ⟨g, hf⟩ := hf.guard
      exact ⟨i, a, kvs, us, hi, rfl, r1, r2, (by simpa using g : acc.length + kvs.length ≤ Ev.LIM), hf⟩
    · exact hf.elim
  | _ => exact hf.elim
theorem s_dic {ds : Ev.Ds} (hk : ∀ n, kvOnly ds = some n → SDs Z M P F ds) (hss : ∀ a b, ds = .star a (.star b .nil) → SE Z M P F a ∧ SE Z M P F b) (hsk : ∀ a b d, ds = .star a (.kv b d .nil) → SE Z M P F a ∧ SE Z M P F b ∧ SE Z M P F d) : SE Z M P F (.dic ds) := by
  intro s e h X k c st σ Q S r hf
  cases e with
  | Dict ks vs pos =>
    simp only [chkE, Bool.and_eq_true] at h
    simp only [Ev.evE] at hf
    obtain ⟨h1, h2⟩ := h
    unfold okDs at h1
    split at h1
    · -- two stars
      rename_i a b
      obtain ⟨ha, hb⟩ := hss a b rfl
      rcases ks with _ | ⟨_ | k1, _ | ⟨_ | kx, _ | ⟨k3, ks⟩⟩⟩ <;> rcases vs with _ | ⟨v1, _ | ⟨v2, _ | ⟨v3, vs⟩⟩⟩ <;> first | (simp [chkDs] at h2; done) | skip
      simp only [chkDs, Bool.and_eq_true] at h2
      refine rdE.of (pe_ss pe_rd pe_rd) fun p n => ?_
      obtain ⟨S0, k0⟩ := MkO.begin (u := .dK []) S n
      simp only [Ev.evDs, bind_assoc'] at hf
      have r0 := r.mono S k0.ext
      refine ha s v1 h2.1 X k ⟨c.m, c.h, upd c.H p (.dK [])⟩ st σ _ S0 r0 ((Fit.bindB hf).imp fun w1 c1 S1 E1 hf1 u1 r1 => ?_)
      have k1 := k0.step E1
      obtain ⟨i1, a1, kvs1, us1, hm1, rfl, rk1, rd1, z1, hf1⟩ := star_at (acc := []) (f := fun kvs => (Ev.evE P F b st c1.h).bind _) S1 r1 hf1
      refine ⟨k1.at_, a1, us1, rfl, k1.ne hm1, rd1, by rw [← rk1.length]; simpa using z1, ?_⟩
      obtain ⟨t1, t2⟩ := MkO.tk (u' := .dK (mergeK [] us1)) rfl k1.at_
      obtain ⟨S2, k2⟩ := k1.put (u' := .dK (mergeK [] us1)) rfl S1
      have rk2 : KVR Z c1.m (upd c1.H p (.dK (mergeK [] us1))) (Ev.putAll [] kvs1) (mergeK [] us1) := (KVR.merge rk1 .nil).poke t1 t2
      have r2 : SR Z ⟨c1.m, c1.h, upd c1.H p (.dK (mergeK [] us1))⟩ st σ := ⟨r.len, fun i v hv => let ⟨u, g1, g2⟩ := (r0.mono S0 E1).at_ i v hv; ⟨u, g1, g2.poke t1 t2⟩⟩
      rw [bind_assoc'] at hf1
      refine hb s v2 h2.2.1 X k ⟨c1.m, c1.h, upd c1.H p (.dK (mergeK [] us1))⟩ st σ _ S2 r2 ((Fit.bindB hf1).imp fun w3 c3 S3 E3 hf3 u3 r3 => ?_)
      have k3 := k2.step E3
      obtain ⟨i3, a3, kvs3, us3, hm3, rfl, rk3, rd3, z3, hf3⟩ := star_at (acc := Ev.putAll [] kvs1) (f := fun kvs => Ev.R.ok (Ev.putAll (Ev.putAll [] kvs1) kvs) c3.h) S3 r3 hf3
      have rkm := rk2.mono S2 E3
      refine ⟨k3.at_, a3, us3, rfl, k3.ne hm3, rd3, by rw [← rk3.length, ← rkm.length]; exact z3, ?_⟩
      obtain ⟨g, hf4⟩ := hf3.guard
      exact k3.fin S3 (KVR.merge rk3 rkm) hf4
    · -- a star and a pair
      rename_i a b d
      obtain ⟨ha, hb, hd⟩ := hsk a b d rfl
      rcases ks with _ | ⟨_ | k1, _ | ⟨_ | kx, _ | ⟨k3, ks⟩⟩⟩ <;> rcases vs with _ | ⟨v1, _ | ⟨v2, _ | ⟨v3, vs⟩⟩⟩ <;> first | (simp [chkDs] at h2; done) | skip
      simp only [chkDs, Bool.and_eq_true] at h2
      refine rdE.of (pe_sk pe_rd pe_rd pe_rd) fun p n => ?_
      obtain ⟨S0, k0⟩ := MkO.begin (u := .dK []) S n
      simp only [Ev.evDs, bind_assoc'] at hf
      have r0 := r.mono S k0.ext
      refine ha s v1 h2.1 X k ⟨c.m, c.h, upd c.H p (.dK [])⟩ st σ _ S0 r0 ((Fit.bindB hf).imp fun w1 c1 S1 E1 hf1 u1 r1 => ?_)
      have k1 := k0.step E1
      obtain ⟨i1, a1, kvs1, us1, hm1, rfl, rk1, rd1, z1, hf1⟩ := star_at (acc := []) (f := fun kvs => (Ev.evE P F b st c1.h).bind _) S1 r1 hf1
      obtain ⟨t1, t2⟩ := MkO.tk (u' := .dK (mergeK [] us1)) rfl k1.at_
      obtain ⟨S2, k2⟩ := k1.put (u' := .dK (mergeK [] us1)) rfl S1
      have rk2 : KVR Z c1.m (upd c1.H p (.dK (mergeK [] us1))) (Ev.putAll [] kvs1) (mergeK [] us1) := (KVR.merge rk1 .nil).poke t1 t2
      have r2 : SR Z ⟨c1.m, c1.h, upd c1.H p (.dK (mergeK [] us1))⟩ st σ := ⟨r.len, fun i v hv => let ⟨u, g1, g2⟩ := (r0.mono S0 E1).at_ i v hv; ⟨u, g1, g2.poke t1 t2⟩⟩
      simp only [bind_assoc', guard_bind] at hf1
      refine ⟨k1.at_, a1, us1, rfl, k1.ne hm1, rd1, by rw [← rk1.length]; simpa using z1, fun rr hrr => ?_⟩
      obtain ⟨S3, kr⟩ := MkO.begin (u := .dK []) S2 hrr
      refine hb s kx h2.2.1.1 X k _ st σ _ S3 (r2.mono S2 kr.ext) ((Fit.bindB hf1).imp fun w3 c3 S4 E4 hf3 u3 r3 => ?_)
      refine hd s v2 h2.2.1.2 X k c3 st σ _ S4 ((r2.mono S2 kr.ext).mono S3 E4) ((Fit.bindB hf3).imp fun w4 c4 S5 E5 hf4 u4 r4 => ?_)
      obtain ⟨g, hf5⟩ := hf4.guard
      simp only [Bool.and_eq_true, decide_eq_true_eq] at g
      obtain ⟨k', rk, rfl⟩ := kr_of (r3.mono S4 E5) g.1
      have kr5 := (kr.step E4).step E5
      have k5 := ((k2.step kr.ext).step E4).step E5
      have rkm := ((rk2.mono S2 kr.ext).mono S3 E4).mono S4 E5
      have npr : p ≠ rr := fun e => by rw [← e, upd_same] at hrr; cases hrr
      refine ⟨kr5.at_, k5.at_, npr, by rw [← rkm.length]; exact g.2, k', rfl, ?_⟩
      obtain ⟨S6, kr6⟩ := kr5.put (u' := .dK [(k', u4)]) rfl S5
      obtain ⟨t5, t6⟩ := MkO.tk (u' := .dK [(k', u4)]) rfl kr5.at_
      obtain ⟨g2, hf6⟩ := Fit.guard hf5
      have k6 : MkO c ⟨c4.m, c4.h, upd c4.H rr (.dK [(k', u4)])⟩ p (.dK (mergeK [] us1)) := by
        have kq : MkO c c4 rr (.dK []) := ⟨k5.ext, k2.ext.fresh S2 hrr, kr5.nm, kr5.at_⟩
        exact ⟨(kq.put (u' := .dK [(k', u4)]) rfl S5).2.ext, k5.nb, k5.nm, by show upd c4.H rr _ p = _; rw [upd_ne npr]; exact k5.at_⟩
      exact k6.fin S6 (KVR.put rk (r4.poke t5 t6) (rkm.poke t5 t6)) hf6
    · split at h1
      · rename_i n hn
        have hk := hk n hn
        obtain ⟨p1, p2, p3, p4⟩ := pps_of (X := X) (pos := pos) h2 hn
        simp only [decide_eq_true_eq] at h1
        by_cases h0 : n = 0
        · subst h0
          obtain rfl := List.length_eq_zero_iff.mp p3
          obtain rfl := List.length_eq_zero_iff.mp p4
          cases ds with
          | nil =>
            refine rdE.of pe_dnewK fun p n => ?_
            simp only [Ev.evDs] at hf
            obtain ⟨_, hf⟩ := Fit.guard hf
            exact hf.newDict S .nil n
          | kv _ _ _ => simp [chkDs] at h2
          | star _ _ => simp [chkDs] at h2
        · refine rdE.of (pe_disp p1 p2 (p3.trans p4.symm) (fun e => h0 (by rw [← p3, e]; rfl)) (by rw [p3]; exact h1)) fun p n => ?_
          obtain ⟨S0, k0⟩ := MkO.begin (u := .dK []) S n
          refine pairs_imp (hk s ks vs _ h2 hn X k ⟨c.m, c.h, upd c.H p (.dK [])⟩ st σ [] [] _ S0 (r.mono S k0.ext) .nil (Fit.bindB hf)) ?_
          rintro ps H2 ⟨c2, rr, kvs2, rfl, S2, E2, ep, el, rk, hf2⟩
          obtain ⟨_, hf2⟩ := Fit.guard hf2
          have k2 := k0.step E2
          exact ⟨k2.at_, kvs2, ep, by rw [el]; exact h1, k2.fin S2 rk hf2⟩
      · cases h1
  | _ => simp [chkE] at h
end
end Sd

set_option Elab.async false
set_option maxRecDepth 100000
set_option maxHeartbeats 8000000
/-! EvN1: isinstance, f-strings -/
namespace Sd
open PySem PySem.Spec PyProof.Rows L2
section
variable {Z : Ab} {M : Gm} {P : Ev.Pg} {F : Ev.Fn} {s : SC} {X : Cx}
def tyStr : Ev.Ty → String
  | .int => "int" | .bool => "bool" | .str => "str" | .list => "list" | .tuple => "tuple" | .dict => "dict" | .own _ => ""
def noStr : Nat → String
  | 0 => "NoneType" | 1 => "bool" | 2 => "int" | 3 => "str" | 4 => "tuple" | 5 => "list" | _ => "dict"
theorem tyNm_mem {t : Ev.Ty} (h : (tyNm t == "") = false) : tyNm t ∈ biNames := by
  cases t <;> first | decide +kernel | (exact absurd h (by simp [tyNm]))
theorem tyNm_boot {t : Ev.Ty} (h : (tyNm t == "") = false) : bootBuiltins (tyNm t) = some (.type (tyStr t)) := by
  cases t <;> first | decide +kernel | (exact absurd h (by simp [tyNm]))
theorem tyNm_ok {t : Ev.Ty} (h : (tyNm t == "") = false) : tyNm t ≠ "__name__" ∧ (tyNm t == ("__debug__" : Str)) = false := by
  cases t <;> first | exact ⟨by decide +kernel, by decide +kernel⟩ | (exact absurd h (by simp [tyNm]))
theorem tyIs_kit {K : PySem.W.Frag} {t : Ev.Ty} {n : Nat} {b : Bool} (hn : n ≤ 6) (h : Ev.tyIs t n = some b) : PySem.W.kitOne K (.type (noStr n)) (.type (tyStr t)) = some b := by
  apply kit_ty
  have : n = 0 ∨ n = 1 ∨ n = 2 ∨ n = 3 ∨ n = 4 ∨ n = 5 ∨ n = 6 := by omega
  rcases this with rfl | rfl | rfl | rfl | rfl | rfl | rfl <;> cases t <;> first | (cases h; done) | (cases h; decide +kernel)
theorem tyAny_kit {K : PySem.W.Frag} {n : Nat} (hn : n ≤ 6) : ∀ {ts : List Ev.Ty} {b : Bool}, Ev.tyAny n ts = some b → PySem.W.kitAny K (.type (noStr n)) (ts.map fun t => .type (tyStr t)) = some b
  | [], b, h => by cases h; rfl
  | t :: ts, b, h => by
    unfold Ev.tyAny at h
    split at h
    · rename_i q; cases h; exact kitAny_cons (tyIs_kit hn q) (fun z => nomatch z) (fun _ => rfl)
    · rename_i q; exact kitAny_cons (tyIs_kit hn q) (fun _ => tyAny_kit hn h) (fun z => nomatch z)
    · cases h
theorem tyNo_tyX {c : Cf} (S : Sim Z c) {v : Ev.Val} {u : V} {n : Nat} (r : VR Z c.m c.H v u) (h : Ev.tyNo v c.h = some n) : TyX Z.K c.H u (.type (noStr n)) ∧ n ≤ 6 := by
  cases r with
  | non => cases h; exact ⟨.base .non, by decide⟩
  | bl b => cases h; exact ⟨.base (.bl b), by decide⟩
  | int b => cases h; exact ⟨.base (.int b), by decide⟩
  | str b hs => cases h; exact ⟨.base (.str _), by decide⟩
  | tup hq rs =>
    cases h
    refine ⟨?_, by decide⟩
    rcases hq with (q | ⟨o, q⟩) | ⟨o, its, n, q, qc, _⟩
    · exact .base (.tup q)
    · exact .fTuple q
    · exact .kTuple q qc
  | @ref i a ha =>
    obtain ⟨o, ho, _⟩ := S.at ha
    simp only [Ev.tyNo, ho] at h
    cases o with
    | list b vs =>
      cases h
      refine ⟨?_, by decide⟩
      have r := S.ob i _ a ho ha
      cases b with
      | false => obtain ⟨us, _, e⟩ := r; exact .base (.lst e)
      | true => obtain ⟨us, o, _, e⟩ := r; exact .base (.frz e)
    | dict b vs =>
      cases h
      refine ⟨?_, by decide⟩
      have r := S.ob i _ a ho ha
      cases b with
      | false => obtain ⟨us, _, e⟩ := r; exact .base (.dK e)
      | true => obtain ⟨us, o, _, e⟩ := r; exact .fDict e
    | inst k fs => cases h
  | cls hc => cases h
def tysV (ts : List Ev.Ty) : List V := ts.map fun t => .ty (tyStr t)
theorem tysV_cls : ∀ ts : List Ev.Ty, Paired ClsV (tysV ts) (ts.map fun t => .type (tyStr t))
  | [] => .nil
  | _ :: ts => .cons (.ty _) (tysV_cls ts)
theorem tys_rd (k : Ck Z M P F s X) {σ : L2.St} {H : L2.Hp} : ∀ {ts : List Ev.Ty} {xs : List Expr}, chkTys s ts xs = true → rdA X xs σ H fun vs H1 => H1 = H ∧ vs = tysV ts
  | [], [], _ => rdA.of pa_nil ⟨rfl, rfl⟩
  | [], _ :: _, h => by cases h
  | _ :: _, [], h => by cases h
  | t :: ts, x :: xs, h => by
    cases x with
    | Name y p =>
      simp only [chkTys, Bool.and_eq_true, decide_eq_true_eq, Bool.not_eq_true'] at h
      obtain ⟨⟨⟨h1, h2⟩, h3⟩, h4⟩ := h
      subst h1
      obtain ⟨n1, n2⟩ := tyNm_ok h2
      refine rdA.of (pa_cons (pe_bltn (v := .ty (tyStr t)) (k.gl h3) (k.bi _ (tyNm_mem h2)) (tyNm_boot h2) rfl n1 n2) pa_rd rfl) ?_
      intro pos pins s0 I
      exact thn (tys_rd k h4 pos pins s0 I) fun us s1 ⟨vs, H1, I1, r1, e1, e2⟩ => ⟨vs, H1, I1, r1, e1, by rw [e2]; rfl⟩
    | _ => cases h
theorem s_isi {e' : Ev.E} {ts : List Ev.Ty} (he : SE Z M P F e') : SE Z M P F (.isi e' ts) := by
  intro s e h X k c st σ Q S r hf
  cases e with
  | Call fn xs kws pos =>
    cases fn with
    | Name x p =>
      rcases xs with _ | ⟨y, _ | ⟨z, _ | ⟨_, _⟩⟩⟩ <;> first | (simp [chkE] at h; done) | skip
      cases kws with
      | cons _ _ => simp [chkE] at h
      | nil =>
        simp only [chkE, Bool.and_eq_true, decide_eq_true_eq] at h
        obtain ⟨⟨⟨h1, h2⟩, h3⟩, h4⟩ := h
        subst h1
        simp only [Ev.evE] at hf
        have boot : bootBuiltins "isinstance" = some (.builtin "isinstance") := by decide +kernel
        have mg0 : X.mg "isinstance" = none := k.bi _ (by decide +kernel)
        have opt : ∀ {v : Ev.Val} {c1 : Cf}, Fit Z c1 (.some c1.h ((Ev.tyCall ts v c1.h).map .bl)) (VQ Z Q) → ∃ n b, Ev.tyNo v c1.h = some n ∧ Ev.tyAny n ts = some b ∧ Fit Z c1 (.ok (.bl b) c1.h) (VQ Z Q) := by
          intro v c1 hf1
          obtain ⟨w, q, hf1⟩ := hf1.opt
          unfold Ev.tyCall at q
          split at q
          · rename_i n qn
            cases q2 : Ev.tyAny n ts with
            | none => rw [q2] at q; cases q
            | some b => rw [q2] at q; cases q; exact ⟨n, b, qn, q2, hf1⟩
          · cases q
        cases z with
        | Name y2 p2 =>
          rcases ts with _ | ⟨t, _ | ⟨_, _⟩⟩ <;> first | (simp [chkTy] at h4; done) | skip
          simp only [chkTy] at h4
          refine rdE.of (pe_callB call_isi (k.gl h2) mg0 boot (pa_cons pe_rd pa_rd (star_plain (chkE_ns h3) _ X.env)) (he := star_plain (chkE_ns h3) _ X.env)) (he s y h3 X k c st σ _ S r (hf.bind.imp fun v c1 S1 E1 hf1 u ru => ?_))
          obtain ⟨n, b, q1, q2, hf1⟩ := opt hf1
          intro pos pins s0 I
          refine thn (tys_rd k h4 pos pins s0 I) fun us s1 ⟨vs, H1, I1, r1, e1, e2⟩ => ⟨vs, H1, I1, r1, ?_⟩
          subst e1 e2
          obtain ⟨tx, hn⟩ := tyNo_tyX S1 ru q1
          have q3 : Ev.tyIs t n = some b := by
            simp only [Ev.tyAny] at q2
            split at q2 <;> first | (cases q2; assumption) | cases q2
          exact ⟨u, _, _, _, b, rfl, .ty _, by rw [k.K]; exact tx, tyIs_kit hn q3, hf1.val S1 (.bl b)⟩
        | Tuple es cc p2 =>
          have h5 : ts.length ≤ 9 ∧ chkTys s ts es = true := by
            rcases ts with _ | ⟨t, _ | ⟨_, _⟩⟩ <;> simpa only [chkTy, Bool.and_eq_true, decide_eq_true_eq] using h4
          have hl : (tysV ts).length ≤ sizeLine := by
            have e : (tysV ts).length = ts.length := by simp [tysV]
            rw [e]; exact Nat.le_trans h5.1 (by decide)
          refine rdE.of (pe_callB call_isiT (k.gl h2) mg0 boot (pa_cons pe_rd (pa_cons (pe_tup pa_rd) pa_nil rfl) (star_plain (chkE_ns h3) _ X.env)) (he := star_plain (chkE_ns h3) _ X.env)) (he s y h3 X k c st σ _ S r (hf.bind.imp fun v c1 S1 E1 hf1 u ru => ?_))
          obtain ⟨n, b, q1, q2, hf1⟩ := opt hf1
          intro pos pins s0 I
          refine thn (tys_rd k h5.2 pos pins s0 I) fun us s1 ⟨vs, H1, I1, r1, e1, e2⟩ => ⟨vs, H1, I1, r1, ?_⟩
          subst e1 e2
          refine ⟨hl, fun p0 n0 => ?_⟩
          obtain ⟨S2, E2⟩ := S1.aside (u := .tup (tysV ts)) n0
          obtain ⟨tx, hn⟩ := tyNo_tyX S2 (ru.mono S1 E2) q1
          exact ⟨u, p0, tysV ts, _, _, b, rfl, upd_same, tysV_cls ts, by rw [k.K]; exact tx, tyAny_kit hn q2, hf1 _ _ S2 E2 _ (.bl b)⟩
        | _ => rcases ts with _ | ⟨t, _ | ⟨_, _⟩⟩ <;> simp [chkTy] at h4
    | _ => simp [chkE] at h
  | _ => simp [chkE] at h
/-! ### f-strings -/
variable (Z M P F) in
def SF (es' : Ev.Es) : Prop := ∀ (s : SC) (xs : List Expr), chkFs M s es' xs = true → ∀ X, Ck Z M P F s X → ∃ ts, PJ X xs ts ∧ ∀ (c : Cf) (st : Ev.St) (σ : L2.St) (acc : Ev.Tx) (Q : Str → L2.Hp → Prop), Sim Z c → SR Z c st σ → (∀ k ∈ acc, k < 128) →
  Fit Z c (Ev.evFs P F es' acc st c.h) (fun t c' => (∀ k ∈ t, k < 128) → Q (asTx t) c'.H) → tJs ts (asTx acc) σ c.H Q
theorem part_ok {c : Cf} {v : Ev.Val} {u : V} {t : Ev.Tx} (r : VR Z c.m c.H v u) (q : Ev.partTx v = some t) : (∀ k ∈ t, k < 128) ∧ ((u = .str (asTx t) ∧ (asTx t).length ≤ sizeLine) ∨ ∃ i : Int, u = .int i ∧ i.natAbs.log2 < 1920 ∧ Str.ofString (toString i) = asTx t) := by
  cases r with
  | str y hy =>
    simp only [Ev.partTx] at q
    split at q
    · rename_i g
      cases q
      exact ⟨hy, .inl ⟨rfl, by rw [asTx_len]; exact g⟩⟩
    · cases q
  | int i =>
    simp only [Ev.partTx] at q
    split at q
    · rename_i g
      cases q
      exact ⟨decTx_ascii i, .inr ⟨i, rfl, g, decTx_eq i⟩⟩
    · cases q
  | _ => simp [Ev.partTx] at q
theorem sf_nil : SF Z M P F .nil := by
  intro s xs h X k
  cases xs with
  | cons _ _ => simp [chkFs] at h
  | nil =>
    refine ⟨[], .nil, fun c st σ acc Q S r ha hf => ?_⟩
    simp only [Ev.evFs] at hf
    exact hf.ok S ha
theorem sf_cons {b : Bool} {e' : Ev.E} {es' : Ev.Es} (he : SE Z M P F e') (hs : SF Z M P F es') : SF Z M P F (.cons b e' es') := by
  intro s xs h X k
  cases xs with
  | nil => cases b <;> simp [chkFs] at h
  | cons x xs =>
    cases b with
    | true => cases x <;> simp [chkFs] at h
    | false =>
      cases x with
      | Constant cn j p =>
        simp only [chkFs, Bool.and_eq_true] at h
        obtain ⟨⟨h0, h1⟩, h2⟩ := h
        obtain ⟨ts, pj, key⟩ := hs s xs h2 X k
        refine ⟨_, .cons pe_rd pj, fun c st σ acc Q S r ha hf => ?_⟩
        simp only [Ev.evFs] at hf
        cases e' with
        | con v0 =>
          cases v0 with
          | str t0 =>
            refine he s _ h1 X k c st σ _ S r ?_
            intro m' H' S1 E1 u ru
            have hf1 := hf.bind m' H' S1 E1
            dsimp only at hf1
            split at hf1
            · rename_i t q
              obtain ⟨g, hf1⟩ := hf1.guard
              simp only [decide_eq_true_eq] at g
              obtain ⟨ht, ⟨rfl, _⟩ | ⟨i, rfl, hi, e⟩⟩ := part_ok (c := ⟨m', c.h, H'⟩) ru q
              · exact ⟨asTx t, rfl, by rw [asTx_app, asTx_len, List.length_append]; exact g, by rw [asTx_app]; exact key ⟨m', c.h, H'⟩ st σ _ Q S1 (r.mono S E1) (ascii_app ha ht) hf1⟩
              · cases ru
            · exact hf1.elim
          | _ => simp [isTxt] at h0
        | _ => simp [isTxt] at h0
      | FormattedValue y cv spec p =>
        cases spec with
        | some _ => simp [chkFs] at h
        | none =>
          simp only [chkFs, Bool.and_eq_true, decide_eq_true_eq] at h
          obtain ⟨⟨rfl, h1⟩, h2⟩ := h
          obtain ⟨ts, pj, key⟩ := hs s xs h2 X k
          refine ⟨_, .cons (pe_fmt pe_rd) pj, fun c st σ acc Q S r ha hf => ?_⟩
          simp only [Ev.evFs] at hf
          refine he s _ h1 X k c st σ _ S r (hf.bind.imp fun v c1 S1 E1 hf1 u ru => ?_)
          split at hf1
          · rename_i t q
            obtain ⟨g, hf1⟩ := hf1.guard
            simp only [decide_eq_true_eq] at g
            have fin : ∀ z : Str, z = asTx t → ∃ y, (V.str z) = .str y ∧ (asTx acc ++ y).length ≤ sizeLine ∧ tJs ts (asTx acc ++ y) σ c1.H Q := fun z e => by
              subst e
              refine ⟨asTx t, rfl, by rw [asTx_app, asTx_len, List.length_append]; exact g, ?_⟩
              rw [asTx_app]
              exact key c1 st σ _ Q S1 (r.mono S E1) (ascii_app ha (part_ok ru q).1) hf1
            obtain ⟨ht, ⟨rfl, hz⟩ | ⟨i, rfl, hi, e⟩⟩ := part_ok ru q
            · exact .inl ⟨_, rfl, hz, fin _ rfl⟩
            · exact .inr ⟨i, rfl, hi, fin _ e⟩
          · exact hf1.elim
      | _ => simp [chkFs] at h
theorem s_fstr {es : Ev.Es} (hs : SF Z M P F es) : SE Z M P F (.fstr es) := by
  intro s e h X k c st σ Q S r hf
  cases e with
  | JoinedStr xs pos =>
    rcases xs with _ | ⟨x1, _ | ⟨x2, xs⟩⟩ <;> first | (simp [chkE] at h; done) | skip
    simp only [chkE, Bool.and_eq_true] at h
    obtain ⟨ts, pj, key⟩ := hs s _ h.2 X k
    simp only [Ev.evE] at hf
    refine rdE.of (pe_joined pj) (key c st σ [] _ S r (fun _ z => by cases z) (hf.bind.imp fun t c1 S1 E1 hf1 ht => ?_))
    exact hf1.val S1 (.str _ ht)
  | _ => simp [chkE] at h
end
end Sd

set_option Elab.async false
set_option maxRecDepth 100000
set_option maxHeartbeats 8000000
/-! EvS13: all together: the evaluator's answers are the model's -/
namespace Sd
open PySem PySem.Spec PyProof.Rows L2
section
variable {Z : Ab} {M : Gm} {P : Ev.Pg} {F : Ev.Fn} {W : Nat} {s : SC} {X : Cx}
def plainE : Ev.E → Bool
  | .not _ | .and _ _ | .or _ _ | .cmp _ _ _ | .chain _ _ _ _ _ | .ife _ _ _ => false
  | _ => true
theorem plain_is {e' : Ev.E} {e : Expr} (h : chkE M s e' e = true) (hp : plainE e' = true) (env : Env) : ∀ whole, isTrue e env whole = (do let v ← whole; standAt e.pos; holding [v] (truthy v)) := by
  intro whole
  cases e with
  | UnaryOp o x pos =>
    cases o with
    | Not => cases e' <;> first | (simp [chkE] at h; done) | (simp [plainE] at hp; done)
    | _ => rfl
  | BoolOp o x pos => cases e' <;> first | (simp [chkE] at h; done) | (simp [plainE] at hp; done)
  | IfExp a b d pos => cases e' <;> first | (simp [chkE] at h; done) | (simp [plainE] at hp; done)
  | Compare a b d pos => cases e' <;> first | (simp [chkE] at h; done) | (simp [plainE] at hp; done)
  | _ => rfl
theorem both {e' : Ev.E} (h : SE Z M P F e') (hp : plainE e' = true) : SE Z M P F e' ∧ STt Z M P F e' :=
  ⟨h, fun s e hc X k c st σ Q S r hf => plainT h hc k S r hf (plain_is hc hp X.env)⟩
theorem never {e' : Ev.E} (h : ∀ s e, chkE M s e' e = false) : SE Z M P F e' ∧ STt Z M P F e' :=
  ⟨(fun s e hc => by rw [h s e] at hc; cases hc), (fun s e hc => by rw [h s e] at hc; cases hc)⟩
theorem okIfs_of {own : List Nat} {p : Ev.Pat} {it : Ev.It} {ifs : Ev.Es} {elt : Ev.E} {s : SC} {e : Expr} (h : chkE M s (.lc own p it ifs elt) e = true) : okIfs ifs = true := by
  cases e with
  | ListComp x gens scope pos =>
    rcases gens with _ | ⟨⟨tg, iter, cs, a⟩, _ | ⟨_, _⟩⟩ <;> first | (simp [chkE] at h; done) | skip
    simp only [chkE, Bool.and_eq_true] at h
    exact h.1.1.1.1.1.1.1.2
  | _ => simp [chkE] at h
mutual
theorem allE : ∀ e' : Ev.E, SE Z M P F e' ∧ STt Z M P F e'
  | .var i => both (s_var i) rfl
  | .con v => both (s_con v) rfl
  | .glob g => both (s_glob g) rfl
  | .bin _ a b => both (s_bin (allE a).1 (allE b).1) rfl
  | .neg a => both (s_neg (allE a).1) rfl
  | .not a => ⟨s_not (allE a).1, t_not (allE a).2⟩
  | .and a b => ⟨s_and (allE a).1 (allE b).1, t_and (allE a).2 (allE b).2⟩
  | .or a b => ⟨s_or (allE a).1 (allE b).1, t_or (allE a).2 (allE b).2⟩
  | .cmp _ a b => s_cmp (allE a).1 (allE b).1
  | .chain _ _ a b d => s_chain (allE a).1 (allE b).1 (allE d).1
  | .ife t a b => ⟨s_ife (allE t).2 (allE a).1 (allE b).1, t_ife (allE t).2 (allE a).2 (allE b).2⟩
  | .tup es => both (s_tup (allEs es).2.1) rfl
  | .lst es => both (s_lst (allEs es).2.1) rfl
  | .dic ds => both (s_dic (fun n h => allDs ds n h)
      (fun a b e => by subst e; exact ⟨(allE a).1, (allE b).1⟩) (fun a b d e => by subst e; exact ⟨(allE a).1, (allE b).1, (allE d).1⟩)) rfl
  | .lc own p it ifs elt => both (fun s e h => s_lc (allIt it) ((allEs ifs).2.2 (okIfs_of h)) (allE elt).1 s e h) rfl
  | .lc2 _ _ _ _ _ _ _ _ _ => never fun s e => by cases e <;> simp [chkE]
  | .dc _ _ _ _ _ _ => never fun s e => by cases e <;> simp [chkE]
  | .sub a b => both (s_sub (allE a).1 (allE b).1) rfl
  | .slc a lo hi => both (s_slc (allE a).1 (allOe lo) (allOe hi)) rfl
  | .attr o f => both (s_attr (allE o).1) rfl
  | .call _ as => both (s_call (allEs as).1) rfl
  | .new _ as => both (s_new (allEs as).1) rfl
  | .meth o _ as => both (s_meth (allE o).1 (allEs as).1) rfl
  | .bi _ as => both (s_bi (allEs as).1) rfl
  | .isi e _ => both (s_isi (allE e).1) rfl
  | .bm _ o as => both (s_bm (allE o).1 (allEs as).1) rfl
  | .fstr es => both (s_fstr (allFs es)) rfl
  | .listIt _ => never fun s e => by cases e <;> simp [chkE]
  | .dictIt _ => never fun s e => by cases e <;> simp [chkE]
theorem allEs : ∀ as : Ev.Es, SEs Z M P F as ∧ SEl Z M P F as ∧ (okIfs as = true → SIf Z M P F as)
  | .nil => ⟨s_anil, s_lnil, fun _ => .inl rfl⟩
  | .cons b e es => ⟨s_acons (allE e).1 (allEs es).1, s_lcons (allE e).1 (allEs es).2.1, fun h => by
      cases b with
      | true => simp [okIfs] at h
      | false => cases es with
        | cons _ _ _ => simp [okIfs] at h
        | nil => exact .inr ⟨e, rfl, (allE e).2⟩⟩
theorem allFs : ∀ es : Ev.Es, SF Z M P F es
  | .nil => sf_nil
  | .cons _ e es => sf_cons (allE e).1 (allFs es)
theorem allDs : ∀ (ds : Ev.Ds) (n : Nat), kvOnly ds = some n → SDs Z M P F ds
  | .nil, _, _ => sd_nil
  | .kv a b ds, n, h => by
    cases q : kvOnly ds with
    | none => simp [kvOnly, q] at h
    | some m => exact sd_kv (allE a).1 (allE b).1 (allDs ds m q)
  | .star _ _, _, h => by cases h
theorem allOe : ∀ o : Ev.Oe, SO Z M P F o
  | .none => s_onone
  | .some e => s_osome (allE e).1
theorem allIt : ∀ it : Ev.It, SI Z M P F it
  | .ex e => si_ex (allE e).1
  | .range1 e => si_range1 (allE e).1
  | .range2 a b => si_range2 (allE a).1 (allE b).1
  | .enum e => si_enum (allE e).1
  | .zip a b => si_zip (allE a).1 (allE b).1
  | .items e => si_items (allE e).1
end
theorem asgAll (t : Ev.Tg) (e' : Ev.E) : SS Z M P F W (.asg t e') := by
  intro s x h X k
  refine s_asg (allE e').1 ?_ (fun o i _ => ⟨(allE o).1, (allE i).1⟩) (fun o f _ => (allE o).1) (fun a b _ => ⟨(allE a).1, (allE b).1⟩) s x h X k
  rintro own p it ifs elt rfl
  refine ⟨allIt it, (allEs ifs).2.2 ?_, (allE elt).1⟩
  -- the checker has looked at the tests
  cases x with
  | Assign tgs e pos =>
    rcases tgs with _ | ⟨tg, _ | ⟨_, _⟩⟩ <;> first | (simp [chkS] at h; done) | skip
    simp only [chkS] at h
    have : chkE M s (.lc own p it ifs elt) e = true := by
      unfold chkTg at h
      split at h
      · simp only [Bool.and_eq_true] at h; exact h.1.2
      · simp only [Bool.and_eq_true] at h; exact h.1.1.2
      · simp only [Bool.and_eq_true] at h; exact h.1.2
      · simp only [Bool.and_eq_true] at h; exact h.1.2
      · cases h
    exact okIfs_of this
  | _ => simp [chkS] at h
mutual
theorem allS : ∀ x : Ev.S, SS Z M P F W x
  | .expr e => s_expr (allE e).1
  | .asg t e => asgAll t e
  | .aug _ _ e => s_aug (allE e).1
  | .augAttr o _ _ e => s_augAttr (allE o).1 (allE e).1
  | .ret e => s_ret (allE e).1
  | .retN => s_retN
  | .pass => s_pass
  | .brk => s_brk
  | .cnt => s_cnt
  | .ite k a b => s_ite (allE k).2 (allSs a) (allSs b)
  | .whl k b => s_whl (allE k).2 (allSs b)
  | .for_ p it b => s_for (allIt it) (allSs b)
  | .raise _ _ => s_raise
theorem allSs : ∀ xs : Ev.Ss, SSs Z M P F W xs
  | .nil => ss_nil
  | .cons x xs => ss_cons (allS x) (allSs xs)
end
/-! ### defs -/
/-- what is known of a def of the text at an address -/
def DefFactE (M : Gm) (K : PySem.W.Frag) (d : Ev.Df) (a : Addr) (fd : FuncData) (ps : List Str) : Prop := ∃ (x qual : Str) (params : Arguments) (body : List Stmt) (scope : Scope) (dvs : List V) (N : List Str),
  FunD K x qual params body scope dvs [] a fd ∧ FnScope N ps scope ∧ N.length = d.ns ∧ ps.length = d.np ∧ chkSs M ⟨scope, fun _ => true, N⟩ d.body body = true ∧ L2.Binds K fd ps []
def DefFact (M : Gm) (K : PySem.W.Frag) (d : Ev.Df) (a : Addr) : Prop := ∃ fd ps, DefFactE M K d a fd ps
structure Wd (Z : Ab) (M : Gm) (P : Ev.Pg) (D : Nat → Option Ev.Df) (K : PySem.W.Frag) (mg : Str → Option Value) : Prop where
  kEq : K = Z.K
  nm : M.fnm = Z.fnm
  nf : M.nf = Z.nf
  bi : ∀ x ∈ biNames, mg x = none
  con : ∀ g x v, M.gk g = some x → P.consts[g]? = some v → ∃ u w, mg x = some u ∧ RelV w u ∧ ∀ m H, VR Z m H v w
  fun_ : ∀ f x, M.gf f = some x → ∃ a d, mg x = some (.ref a) ∧ PySem.W.keepIn K (.ref a) = true ∧ D f = some d ∧ DefFact M K d a
  cls : ∀ k Cl C, P.cls[k]? = some Cl → Z.cAd k = some C → Cls K C ∧ (∀ f, Cl.flds.contains f = true → NoAttr K C (Z.fnm f) ∧ f < Z.nf) ∧
    (∀ m g, Cl.meths.lookup m = some g → m < Z.nf ∧ ∃ a d, Meth K C (Z.fnm m) a ∧ D g = some d ∧ DefFact M K d a) ∧ (∀ f g, Cl.props.lookup f = some g → f < Z.nf ∧ ∃ p a d, PropOf K C (Z.fnm f) p a ∧ D g = some d ∧ DefFact M K d a)
  new : ∀ k x Cl g, M.gc k = some x → P.cls[k]? = some Cl → Cl.init = some g → ∃ C a d, Z.cAd k = some C ∧ mg x = some (.ref C) ∧ Mk K C a ∧ D g = some d ∧ DefFact M K d a
theorem startOk {c : Cf} {N : List Str} {ns : Nat} {args : List Ev.Val} {vs : List V} (hN : N.length = ns) (r : VRs Z c.m c.H args vs) : SR Z c (Ev.startSt ns args) (L2.start N vs) := by
  refine ⟨by simp [Ev.startSt, L2.start, r.length, hN], fun i v h => ?_⟩
  unfold Ev.startSt at h
  by_cases hi : i < args.length
  · rw [List.getElem?_append_left (by simpa using hi), List.getElem?_map] at h
    cases q : args[i]? with
    | none => rw [q] at h; cases h
    | some v' =>
      rw [q] at h
      cases h
      obtain ⟨u, h1, h2⟩ := r.get q
      refine ⟨u, ?_, h2⟩
      unfold L2.start
      rw [List.getElem?_append_left (by rw [List.length_map, ← r.length]; exact hi), List.getElem?_map, h1]
      rfl
  · rw [List.getElem?_append_right (by simpa using hi)] at h
    rw [List.getElem?_replicate] at h
    split at h <;> cases h
theorem fnOk {D : Nat → Option Ev.Df} {K : PySem.W.Frag} {mg : Str → Option Value} {Pr : Program} {w : World} {base : Heap} (wd : Wd Z M P D K mg) : ∀ (k : Nat) (f : Nat) (d : Ev.Df) (a : Addr) (fd : FuncData) (ps : List Str), D f = some d → DefFactE M K d a fd ps →
    L2.Binds K fd ps [] ∧ FnOk Pr w K mg base CX0 (2 * k + 1) a fd ps (spF Z (Ev.calls P D W k) f) := by
  intro k
  induction k with
  | zero =>
    rintro f d a fd ps hd ⟨x, qual, params, body, scope, dvs, N, FD, FS, hN, hp, hc, hb⟩
    refine ⟨hb, FD.ok FS (fun vs H Q E h => ?_) fun cdv A outer s H vs Q E hr h => ?_⟩
    · obtain ⟨c, args, _, _, _, z⟩ := h; exact z.elim
    · obtain ⟨c, args, _, _, _, z⟩ := h; exact z.elim
  | succ k ih =>
    rintro f d a fd ps hd ⟨x, qual, params, body, scope, dvs, N, FD, FS, hN, hp, hc, hb⟩
    have e2 : 2 * (k + 1) + 1 = (2 * k + 2) + 1 := by omega
    rw [e2]
    refine ⟨hb, FD.ok FS (fun vs H Q E h => ?_) fun cdv A outer s H vs Q E hr h => ?_⟩
    · obtain ⟨c, args, _, _, r, z⟩ := h
      simp only [Ev.calls, hd] at z
      obtain ⟨g, _⟩ := z.guard
      rw [← r.length, hp]
      simpa using g
    · refine ⟨_, PSs.nox pss_rd, ?_⟩
      obtain ⟨c, args, S, rfl, r, z⟩ := h
      simp only [Ev.calls, hd] at z
      obtain ⟨g, z⟩ := z.guard
      have ck : Ck Z M P (Ev.calls P D W k) ⟨scope, fun _ => true, N⟩ (cxOf CX0 Pr w K mg base N qual scope a cdv A outer s c.H E).nox := by
        refine ⟨wd.kEq, wd.nm, wd.nf, rfl, FS.kind, fun _ _ => rfl, rfl, FS.nd, rfl, hr.mono (by omega), rfl, wd.bi, wd.con, fun f' x' hx' => ?_, fun kk Cl C h1 h2 => ?_, fun kk x' Cl g' h1 h2 h3 => ?_⟩
        · obtain ⟨a', d', m1, m2, m3, fd', ps', m4⟩ := wd.fun_ f' x' hx'
          obtain ⟨b', F'⟩ := ih f' d' a' fd' ps' m3 m4
          exact ⟨a', m1, m2, fd', ps', 2 * k + 1, b', F', hr.mono (by omega)⟩
        · obtain ⟨c1, c2, c3, c4⟩ := wd.cls kk Cl C h1 h2
          refine ⟨c1, c2, fun m g' hm => ?_, fun f' g' hf' => ?_⟩
          · obtain ⟨n1, a', d', m1, m3, fd', ps', m4⟩ := c3 m g' hm
            obtain ⟨b', F'⟩ := ih g' d' a' fd' ps' m3 m4
            exact ⟨n1, a', m1, fd', ps', 2 * k + 1, b', F', hr.mono (by omega)⟩
          · obtain ⟨n1, p, a', d', m1, m3, fd', ps', m4⟩ := c4 f' g' hf'
            obtain ⟨b', F'⟩ := ih g' d' a' fd' ps' m3 m4
            exact ⟨n1, p, a', m1, fd', ps', 2 * k + 1, b', F', hr⟩
        · obtain ⟨C, a', d', m1, m2, m5, m3, fd', ps', m4⟩ := wd.new kk x' Cl g' h1 h2 h3
          obtain ⟨b', F'⟩ := ih g' d' a' fd' ps' m3 m4
          exact ⟨C, a', m1, m2, m5, fd', ps', 2 * k + 1, b', F', hr⟩
      refine allSs d.body ⟨scope, fun _ => true, N⟩ body hc _ ck c (Ev.startSt d.ns args) (L2.start N vs) _ S (startOk hN r) (z.bind.imp fun rr c1 S1 E1 z1 => ?_)
      obtain ⟨fl, st1⟩ := rr
      cases fl with
      | next => exact fun σ' r' => z1.ok S1 _ .non
      | ret v => exact z1.ok S1
      | brk => exact z1.elim
      | cnt => exact z1.elim
/-- the law's own call -/
theorem lawOk {D : Nat → Option Ev.Df} {K : PySem.W.Frag} {H : L2.Hp} {a : Addr} {ns : List Int} (k f : Nat) (hK : K = Z.K) (nl : ∀ b o, K.lookup b = some o → o.cls ≠ .type "list") (hO : Only H) (hS : SqL K H a (ns.map V.int))
    (hev : ∃ h', Ev.calls P D W k f [.ref 0] [.list true (ns.map Ev.Val.int)] = .ok (.bl true) h') : spF Z (Ev.calls P D W k) f [.ref a] H (fun v _ => v = .bl true) fun _ _ _ => False := by
  have hfrz : ∃ o, H a = some (.frz o (.lst (ns.map V.int))) := by
    rcases hS with (z | ⟨o, z⟩) | ⟨o, its, n, z, zc, _⟩
    · rcases hO a with q | ⟨o, xs, q⟩ <;> (rw [z] at q; cases q)
    · exact ⟨o, z⟩
    · exact absurd zc (nl a o z)
  obtain ⟨o, ho⟩ := hfrz
  have vr : ∀ ns : List Int, VRs Z [a] H (ns.map Ev.Val.int) (ns.map V.int) := fun ns => by
    induction ns with
    | nil => exact .nil
    | cons n ns ih => exact .cons (.int n) ih
  refine ⟨⟨[a], [.list true (ns.map Ev.Val.int)], H⟩, [.ref 0], ⟨rfl, by simp, fun i ob b hi hb => ?_⟩, rfl, .cons (.ref rfl) .nil, ?_⟩
  · cases i with
    | zero =>
      cases hi; cases hb
      exact ⟨_, o, vr ns, ho⟩
    | succ i => simp at hi
  · obtain ⟨h', e⟩ := hev
    show Fit Z _ (Ev.calls P D W k f [.ref 0] [.list true (ns.map Ev.Val.int)]) _
    rw [e]
    intro m' H' S' E' u ru
    cases ru; rfl
end
end Sd

set_option Elab.async false
set_option maxRecDepth 100000
set_option maxHeartbeats 4000000
/-! EvH: the head's facts, for a text told by tables -/
namespace Sd
open PySem PySem.Spec PyProof.Rows L2
/-- where a def's function stands -/
inductive Lc where
  | glo (x : Str) | meth (C m : Str) | prop (C f : Str)
  deriving DecidableEq
def pAd (K : PySem.W.Frag) (C f : Str) : Addr := match PySem.W.findIn K (.ref (He.ga K C)) f with
  | some (some (.ref p)) => p
  | _ => 0
def Lc.adr (K : PySem.W.Frag) : Lc → Addr
  | .glo x => He.ga K x
  | .meth C m => He.ma K (He.ga K C) m
  | .prop C f => match PySem.W.recIn K (pAd K C f) "property" with
    | some (.ref g :: _) => g
    | _ => 0
/-- one def of the text: its number, where its function stands, its name, qualified name, its text, how many parameters, the names by slot, its body in the own syntax, its defaults -/
structure En where
  id : Nat
  lc : Lc
  nm : Str
  qual : Str
  st : Stmt
  np : Nat
  N : List Str
  body : Ev.Ss
  dfl : List He.Dv := []
def En.loc (e : En) (K : PySem.W.Frag) : Addr := e.lc.adr K
def En.df (e : En) : Ev.Df := ⟨e.np, e.N.length, e.body⟩
def En.ps (e : En) : List Str := e.N.take e.np
def fnL (K : PySem.W.Frag) (a : Addr) : He.FnW := match K.lookup a with
  | some ⟨_, _, .func fd, _⟩ => some (fd.name, fd.qualname, fd.params, fd.body, fd.scope, fd.globals, fd.closure, fd.builtins)
  | _ => none
def En.val (e : En) : He.FnW := some (e.nm, e.qual, defArgs e.st, .stmts (defBody e.st), defScope e.st, mainGlobals, [], builtinsNs)
def En.dvs (K : PySem.W.Frag) (e : En) : List V := e.dfl.map (He.Dv.v K)
def En.ok (K : PySem.W.Frag) (e : En) : Bool := PySem.W.keepIn K (.ref (e.loc K)) && (match K.lookup (e.loc K) with
  | some ⟨_, _, .func fd, _⟩ => PySem.W.codeIn K fd.code e.qual && He.dflB K fd.defaults (e.dvs K)
  | _ => false)
theorem En.funD {K : PySem.W.Frag} {d : En} (e : fnL K (d.loc K) = d.val) (c : d.ok K = true) : ∃ fd, FunD K d.nm d.qual (defArgs d.st) (defBody d.st) (defScope d.st) (d.dvs K) [] (d.loc K) fd := by
  obtain ⟨kp, c2⟩ := He.ba c
  unfold fnL at e
  cases q : K.lookup (d.loc K) with
  | none =>
    rw [q] at c2
    cases c2
  | some o =>
    obtain ⟨oc, od, dt, osl⟩ := o
    rw [q] at c2 e
    cases dt with
    | func fd =>
      obtain ⟨n1, n2, n3, n4, n5, n6, n7, n8, n9, n10, n11, n12, n13, n14, n15⟩ := fd
      have e2 : (some (n1, n2, n3, n4, n5, n6, n7, n15) : He.FnW) = some (d.nm, d.qual, defArgs d.st, .stmts (defBody d.st), defScope d.st, mainGlobals, [], builtinsNs) := e
      simp only [Option.some.injEq, Prod.mk.injEq] at e2
      obtain ⟨h1, h2, h3, h4, h5, h6, h7, h8⟩ := e2
      subst h1 h2 h3 h4 h5 h6 h7 h8
      have c3 : (PySem.W.codeIn K n13 d.qual && He.dflB K n8 (d.dvs K)) = true := c2
      obtain ⟨k1, k2⟩ := He.ba c3
      exact ⟨_, ⟨oc, od, n8, n9, n10, n11, n12, n13, n14, osl, rfl, q, k1, He.dflB_ok k2, .inl rfl⟩, kp⟩
    | _ => cases c2
/-- what is seen of a def's text alone -/
def nodupB : List Str → Bool
  | [] => true
  | x :: r => !(r.contains x) && nodupB r
theorem nodupB_ok : ∀ {l : List Str}, nodupB l = true → l.Nodup
  | [], _ => List.nodup_nil
  | x :: r, h => by
    simp only [nodupB, Bool.and_eq_true, Bool.not_eq_true'] at h
    refine List.nodup_cons.mpr ⟨(fun z => ?_), nodupB_ok h.2⟩
    have h1 := h.1
    rw [List.contains_iff_mem.mpr z] at h1
    cases h1
def scB (e : En) : Bool := (match (defScope e.st).kind with | .function => true | _ => false) && !(defScope e.st).isCoroutine && !(defScope e.st).isGenerator && nodupB e.N && decide (e.np ≤ e.N.length)
  && e.ps.all (fun x => match (defScope e.st).names.lookup x with | some .local => true | some .cell => true | _ => false) && (defScope e.st).names.all fun y => match y.2 with | .free => false | _ => true
theorem scB_ok {e : En} (h : scB e = true) : FnScope e.N e.ps (defScope e.st) ∧ e.ps.length = e.np := by
  simp only [scB, Bool.and_eq_true, Bool.not_eq_true', decide_eq_true_eq] at h
  obtain ⟨⟨⟨⟨⟨⟨h1, h2⟩, h3⟩, h4⟩, h5⟩, h6⟩, h7⟩ := h
  have hl : e.ps.length = e.np := by unfold En.ps; rw [List.length_take]; omega
  refine ⟨⟨?_, h2, h3, nodupB_ok h4, by rw [hl]; rfl, fun x hx => ?_, fun y hy z => ?_⟩, hl⟩
  · revert h1; cases (defScope e.st).kind <;> first | (intro _; rfl) | (intro z; cases z)
  · have := List.all_eq_true.mp h6 x hx
    revert this
    cases (defScope e.st).names.lookup x with
    | none => intro z; cases z
    | some k => cases k <;> intro z <;> first | exact .inl rfl | exact .inr rfl | cases z
  · have := List.all_eq_true.mp h7 y hy
    rw [z] at this; cases this
def BindOk (e : En) : Prop := e.dfl = [] ∧ ∀ (kV doc pm : Value) (an : Option Addr) (cdv ct : Value) (us : List Value), us.length = e.ps.length → bindArgs (PySem.W.fnOf e.nm e.qual (defArgs e.st) (defBody e.st) (defScope e.st) .none kV doc pm an cdv ct) ⟨us, []⟩ = pure (e.ps.zip us)
def enB (M : Gm) (e : En) : Bool := scB e && chkSs M ⟨defScope e.st, fun _ => true, e.N⟩ e.body (defBody e.st)
theorem En.fact {K : PySem.W.Frag} {M : Gm} {e : En} (h1 : fnL K (e.loc K) = e.val) (h2 : e.ok K = true) (h3 : enB M e = true) (h4 : BindOk e) : ∃ fd, DefFactE M K e.df (e.loc K) fd e.ps ∧ ∀ (s : Shared) (us : List Value), us.length = e.ps.length → BindsTo s fd ⟨us, []⟩ (e.ps.zip us) := by
  obtain ⟨fd, F⟩ := En.funD h1 h2
  simp only [enB, Bool.and_eq_true] at h3
  obtain ⟨s1, s2⟩ := scB_ok h3.1
  refine ⟨fd, ⟨_, _, _, _, _, _, e.N, F, s1, rfl, s2, h3.2, ?_⟩, fun s us hl => ?_⟩
  rotate_left
  · have e0 : e.dvs K = [] := by unfold En.dvs; rw [h4.1]; rfl
    rw [e0] at F
    exact F.bindsA h4.2 s us hl
  have e0 : e.dvs K = [] := by unfold En.dvs; rw [h4.1]; rfl
  rw [e0] at F
  exact F.bindsN h4.2
def valX (fn : List En) : He.AlD := (true, fn.map En.val)
def obsX (ck : PySem.W.Frag → Bool) (fn : List En) (K : PySem.W.Frag) : He.AlD := (ck K && fn.all fun d => d.ok K, fn.map fun d => fnL K (d.loc K))
def SaysX (ck : PySem.W.Frag → Bool) (fn : List En) (K : PySem.W.Frag) : Prop := obsX ck fn K = valX fn
def obsXG (n : Nat) (ck : PySem.W.Frag → Bool) (fn : List En) (g : Addr → Option Obj) : He.AlD := obsX ck fn (He.frG g (He.asD g n))
def hookX (n : Nat) (ck : PySem.W.Frag → Bool) (fn : List En) : PySem.W.Hook where
  α := He.AlD
  obs := fun s => obsXG n ck fn s.heap.get?
  val := fun _ => valX fn
  says := fun _ h => ∃ K : PySem.W.Frag, K.In h ∧ SaysX ck fn K
  of := fun _ _ e => ⟨_, He.frG_in, e⟩
  keeps := fun _ _ _ ⟨K, hK, c⟩ k => ⟨K, PySem.W.Frag.In.keeps hK k, c⟩
theorem obsXG_eq {n : Nat} {ck : PySem.W.Frag → Bool} {fn : List En} {g : Addr → Option Obj} {s : Shared} (h : ∀ a, g a = s.heap.get? a) : obsXG n ck fn g = (hookX n ck fn).obs s := by
  have e : g = s.heap.get? := funext h
  rw [e] <;> rfl
theorem SaysX.ck {ck : PySem.W.Frag → Bool} {fn : List En} {K : PySem.W.Frag} (c : SaysX ck fn K) : ck K = true :=
  (He.ba (show (ck K && fn.all fun d => d.ok K) = true from congrArg (fun z : He.AlD => z.1) c)).1
theorem SaysX.def_ {ck : PySem.W.Frag → Bool} {fn : List En} {K : PySem.W.Frag} (c : SaysX ck fn K) {d : En} (h : d ∈ fn) : fnL K (d.loc K) = d.val ∧ d.ok K = true := by
  have c2 := (He.ba (show (ck K && fn.all fun d => d.ok K) = true from congrArg (fun z : He.AlD => z.1) c)).2
  have e : fn.map (fun d => fnL K (d.loc K)) = fn.map En.val := congrArg (fun z : He.AlD => z.2) c
  obtain ⟨i, hi⟩ := List.mem_iff_getElem?.mp h
  have e2 : (fn.map fun d => fnL K (d.loc K))[i]? = (fn.map En.val)[i]? := by rw [e]
  rw [List.getElem?_map, List.getElem?_map, hi] at e2
  exact ⟨Option.some.inj e2, List.all_eq_true.mp c2 d h⟩
/-! ### the tables of a text -/
structure Tb where
  fns : List (Nat × Str)
  cn : List (Option Str)
  con : List (Option Str)
  nms : List Str
  pg : Ev.Pg
  ens : List En
def Tb.gm (T : Tb) : Gm := ⟨fun f => T.fns.lookup f, fun k => T.cn[k]?.join, fun g => T.con[g]?.join, fun i => T.nms.getD i "", T.nms.length⟩
def Tb.find (T : Tb) (f : Nat) : Option En := T.ens.find? fun e => e.id == f
def Tb.D (T : Tb) (f : Nat) : Option Ev.Df := (T.find f).map En.df
def Tb.cad (T : Tb) (K : PySem.W.Frag) (k : Nat) : Option Addr := T.cn[k]?.join.map (He.ga K)
theorem nodup_get {l : List Str} (h : nodupB l = true) {i j : Nat} (hi : i < l.length) (hj : j < l.length) (e : l.getD i "" = l.getD j "") : i = j := by
  have h' := nodupB_ok h
  simp only [List.getD_eq_getElem?_getD, List.getElem?_eq_getElem hi, List.getElem?_eq_getElem hj, Option.getD_some] at e
  have p := List.pairwise_iff_getElem.mp h'
  rcases Nat.lt_trichotomy i j with z | z | z
  · exact absurd e (p i j hi hj z)
  · exact z
  · exact absurd e.symm (p j i hj hi z)
/-- classes stand at addresses of their own -/
def cadB (T : Tb) (K : PySem.W.Frag) : Bool := (List.range T.cn.length).all fun i => (List.range T.cn.length).all fun j => decide (i = j) || (match T.cad K i, T.cad K j with
  | some a, some b => !(a == b)
  | _, _ => true)
theorem cad_lt {T : Tb} {K : PySem.W.Frag} {i : Nat} {C : Addr} (h : T.cad K i = some C) : i < T.cn.length := by
  rcases Nat.lt_or_ge i T.cn.length with z | z
  · exact z
  · unfold Tb.cad at h
    rw [List.getElem?_eq_none z] at h; cases h
theorem cadB_ok {T : Tb} {K : PySem.W.Frag} (h : cadB T K = true) (i j : Nat) (C : Addr) (hi : T.cad K i = some C) (hj : T.cad K j = some C) : i = j := by
  have h1 := List.all_eq_true.mp (List.all_eq_true.mp h i (List.mem_range.mpr (cad_lt hi))) j (List.mem_range.mpr (cad_lt hj))
  rw [hi, hj] at h1
  simpa using h1
def Tb.ab (T : Tb) (K : PySem.W.Frag) (h1 : nodupB T.nms = true) (h2 : cadB T K = true) : Ab :=
  ⟨K, T.cad K, fun i => T.nms.getD i "", T.nms.length, fun i j hi hj e => nodup_get h1 hi hj e, cadB_ok h2⟩
/-- what is seen of the tables alone -/
def enAt (T : Tb) (f : Nat) (l : Lc) : Bool := match T.find f with
  | some e => decide (e.lc = l)
  | none => false
def clB (T : Tb) (C : Str) (Cl : Ev.Cl) : Bool := Cl.flds.all (fun f => decide (f < T.nms.length)) && Cl.meths.all (fun p => decide (p.1 < T.nms.length) && enAt T p.2 (.meth C (T.nms.getD p.1 ""))) && Cl.props.all (fun p => decide (p.1 < T.nms.length) && enAt T p.2 (.prop C (T.nms.getD p.1 "")))
  && (match Cl.init with | some g => enAt T g (.meth C "__init__") | none => true)
def tbB (T : Tb) : Bool := nodupB T.nms && T.fns.all (fun p => enAt T p.1 (.glo p.2)) && (List.range T.cn.length).all (fun k => match T.cn[k]?.join, T.pg.cls[k]? with
  | some C, some Cl => clB T C Cl
  | _, _ => true) && T.ens.all (enB T.gm)
/-- constants -/
def conV : Value → V
  | .bool b => .bl b
  | .int i _ => .int i
  | .str x _ => .str x
  | .ref a => .ref a
  | _ => .non
def conB (K : PySem.W.Frag) : Nat → Ev.Val → Value → Bool
  | 0, _, _ => false
  | n + 1, v, u => match v, u with
    | .non, .none => true
    | .bl a, .bool b => a == b
    | .int i, .int j _ => decide (i = j)
    | .str s, .str y _ => decide (asTx s = y) && s.all (· < 128)
    | .tup vs, .ref a => (match K.lookup a with
      | some ⟨.type c, _, .seq its _, _⟩ => decide (c = "tuple") && decide (its.size ≤ sizeLine) && decide (vs.length = its.size) && (vs.zip its.toList).all fun p => conB K n p.1 p.2
      | _ => false)
    | _, _ => false
theorem conB_ok {Z : Ab} : ∀ (n : Nat) (v : Ev.Val) (u : Value), conB Z.K n v u = true → RelV (conV u) u ∧ ∀ m H, VR Z m H v (conV u)
  | 0, _, _, h => by cases h
  | n + 1, v, u, h => by
    unfold conB at h
    split at h
    · exact ⟨rfl, fun _ _ => .non⟩
    · rename_i a b
      have e : a = b := eq_of_beq h
      subst e
      exact ⟨rfl, fun _ _ => .bl _⟩
    · rename_i i j t
      have e : i = j := of_decide_eq_true h
      subst e
      exact ⟨⟨t, rfl⟩, fun _ _ => .int _⟩
    · rename_i s y t
      obtain ⟨h1, h2⟩ := He.ba h
      have e : asTx s = y := of_decide_eq_true h1
      subst e
      refine ⟨⟨t, rfl⟩, fun _ _ => .str _ fun c hc => ?_⟩
      have := List.all_eq_true.mp h2 c hc
      simpa using this
    · rename_i vs a
      split at h
      · rename_i c od its ep osl q
        simp only [Bool.and_eq_true, decide_eq_true_eq] at h
        obtain ⟨⟨⟨h1, h2⟩, h3⟩, h4⟩ := h
        refine ⟨rfl, fun m H => ?_⟩
        have key : ∀ (vs : List Ev.Val) (us : List Value), vs.length = us.length → (vs.zip us).all (fun p => conB Z.K n p.1 p.2) = true → Vals (us.map conV) us ∧ VRs Z m H vs (us.map conV) := by
          intro vs
          induction vs with
          | nil => intro us hl _; cases us with
            | nil => exact ⟨.nil, .nil⟩
            | cons _ _ => cases hl
          | cons v vs ih => intro us hl ha; cases us with
            | nil => cases hl
            | cons u us =>
              simp only [List.zip_cons_cons, List.all_cons, Bool.and_eq_true] at ha
              obtain ⟨r1, r2⟩ := conB_ok n v u ha.1
              obtain ⟨q1, q2⟩ := ih us (by simpa using hl) ha.2
              exact ⟨.cons r1 q1, .cons (r2 m H) q2⟩
        obtain ⟨k1, k2⟩ := key vs its.toList (by simpa using h3) h4
        exact .tup (.inr ⟨_, its, ep, q, congrArg Value.type h1, rfl, h2, k1⟩) k2
      · cases h
    · cases h
end Sd

set_option Elab.async false
set_option maxRecDepth 100000
set_option maxHeartbeats 4000000
/-! EvH2: what the head sees gives the world's facts -/
namespace Sd
open PySem PySem.Spec PyProof.Rows L2
def propB (K : PySem.W.Frag) (C f : Str) : Bool := He.eqO (PySem.W.findIn K (.ref (He.ga K C)) f) (some (some (.ref (pAd K C f)))) && He.eqO (PySem.W.specialIn K (.ref (pAd K C f)) "__get__") (some (some (.builtin "property.__get__")))
  && decide (PySem.W.takesIn K (.ref (pAd K C f)) = some true) && (match PySem.W.recIn K (pAd K C f) "property" with
    | some (.ref _ :: _) => true
    | _ => false)
theorem propB_ok {K : PySem.W.Frag} {C f : Str} (h : propB K C f = true) : PropOf K (He.ga K C) f (pAd K C f) ((Lc.prop C f).adr K) := by
  simp only [propB, Bool.and_eq_true, decide_eq_true_eq] at h
  obtain ⟨⟨⟨h1, h2⟩, h3⟩, h4⟩ := h
  refine ⟨He.eqO_ok h1, He.eqO_ok h2, h3, ?_⟩
  show ∃ rest, PySem.W.recIn K (pAd K C f) "property" = some (.ref (match PySem.W.recIn K (pAd K C f) "property" with | some (.ref g :: _) => g | _ => 0) :: rest)
  split at h4
  · rename_i g r q
    rw [q]; exact ⟨r, rfl⟩
  · cases h4
def clK (T : Tb) (K : PySem.W.Frag) (C : Str) (Cl : Ev.Cl) : Bool := (He.Fa.glo C).ok K && (He.Fa.cls C).ok K && Cl.flds.all (fun f => (He.Fa.noat C (T.nms.getD f "")).ok K) && Cl.meths.all (fun p => (He.Fa.meth C (T.nms.getD p.1 "")).ok K)
  && Cl.props.all (fun p => propB K C (T.nms.getD p.1 "")) && (match Cl.init with | some _ => (He.Fa.mkr C).ok K | none => true)
def noList (K : PySem.W.Frag) : Bool := K.all fun p => match p.2.cls with | .type c => !(c == "list") | _ => true
def ckB (T : Tb) (K : PySem.W.Frag) : Bool := biNames.all (fun x => (He.Fa.free x).ok K) && T.fns.all (fun p => (He.Fa.glo p.2).ok K) && (List.range T.cn.length).all (fun k => match T.cn[k]?.join, T.pg.cls[k]? with
  | some C, some Cl => clK T K C Cl
  | _, _ => true) && (List.range T.con.length).all (fun g => match T.con[g]?.join, T.pg.consts[g]? with
  | some x, some v => (match PySem.W.nsIn K mainGlobals x with
    | some (some u) => conB K 8 v u
    | _ => false)
  | _, _ => true) && cadB T K && noList K
theorem lookup_mem {f : Nat} {x : Str} : ∀ {l : List (Nat × Str)}, l.lookup f = some x → (f, x) ∈ l
  | [], h => by cases h
  | (g, y) :: r, h => by
    rw [List.lookup_cons] at h
    split at h
    · rename_i e
      cases h
      rw [eq_of_beq e]
      exact List.mem_cons_self
    · exact List.mem_cons_of_mem _ (lookup_mem h)
theorem lookup_memN {f g : Nat} : ∀ {l : List (Nat × Nat)}, l.lookup f = some g → (f, g) ∈ l
  | [], h => by cases h
  | (k, y) :: r, h => by
    rw [List.lookup_cons] at h
    split at h
    · rename_i e
      cases h
      rw [eq_of_beq e]
      exact List.mem_cons_self
    · exact List.mem_cons_of_mem _ (lookup_memN h)
theorem enAt_ok {T : Tb} {f : Nat} {l : Lc} (h : enAt T f l = true) : ∃ e ∈ T.ens, T.find f = some e ∧ e.lc = l := by
  unfold enAt at h
  split at h
  · rename_i e q
    exact ⟨e, List.mem_of_find?_eq_some q, q, of_decide_eq_true h⟩
  · cases h
theorem noList_ok {K : PySem.W.Frag} (h : noList K = true) (b : Addr) (o : Obj) (hb : K.lookup b = some o) : o.cls ≠ .type "list" := by
  intro e
  have hm : (b, o) ∈ K := by
    clear h e
    induction K with
    | nil => cases hb
    | cons p r ih =>
      obtain ⟨a, q⟩ := p
      have hb' : (match b == a with | true => some q | false => r.lookup b) = some o := hb
      cases z : b == a with
      | true => rw [z] at hb'; cases hb'; rw [eq_of_beq z]; exact List.mem_cons_self
      | false => rw [z] at hb'; exact List.mem_cons_of_mem _ (ih hb')
  have := List.all_eq_true.mp h _ hm
  simp only [e] at this
  simp at this
theorem wdOf {T : Tb} {K : PySem.W.Frag} {h : Heap} {mg : Str → Option Value} (X : K.In h) (G : h.Ns mainGlobals mg) (tb : tbB T = true) (c : SaysX (ckB T) T.ens K) (hb : ∀ e ∈ T.ens, BindOk e) (h1 : nodupB T.nms = true) (h2 : cadB T K = true) :
    Wd (T.ab K h1 h2) T.gm T.pg T.D K mg := by
  have ck := c.ck
  simp only [ckB, Bool.and_eq_true] at ck
  obtain ⟨⟨⟨⟨⟨k1, k2⟩, k3⟩, k4⟩, k5⟩, k6⟩ := ck
  simp only [tbB, Bool.and_eq_true] at tb
  obtain ⟨⟨⟨t1, t2⟩, t3⟩, t4⟩ := tb
  have fact : ∀ e ∈ T.ens, DefFact T.gm K e.df (e.loc K) := fun e he => by
    obtain ⟨d1, d2⟩ := c.def_ he
    obtain ⟨fd, F, _⟩ := En.fact d1 d2 (List.all_eq_true.mp t4 e he) (hb e he)
    exact ⟨fd, _, F⟩
  have dOf : ∀ {f : Nat} {e : En}, T.find f = some e → T.D f = some e.df := fun q => by unfold Tb.D; rw [q]; rfl
  have cl : ∀ k C Cl, T.cn[k]?.join = some C → T.pg.cls[k]? = some Cl → clK T K C Cl = true ∧ clB T C Cl = true := fun k C Cl q1 q2 => by
    have hk : k < T.cn.length := by
      rcases Nat.lt_or_ge k T.cn.length with z | z
      · exact z
      · rw [List.getElem?_eq_none z] at q1; cases q1
    have a1 := List.all_eq_true.mp k3 k (List.mem_range.mpr hk)
    have a2 := List.all_eq_true.mp t3 k (List.mem_range.mpr hk)
    rw [q1, q2] at a1 a2
    exact ⟨a1, a2⟩
  refine ⟨rfl, rfl, rfl, fun x hx => He.free_ok X G (List.all_eq_true.mp k1 x hx), fun g x v hx hv => ?_, fun f x hx => ?_, fun k Cl C hk hC => ?_, fun k x Cl g hx hk hi => ?_⟩
  · have hx' : T.con[g]?.join = some x := hx
    have hg : g < T.con.length := by
      rcases Nat.lt_or_ge g T.con.length with z | z
      · exact z
      · rw [List.getElem?_eq_none z] at hx'; cases hx'
    have a := List.all_eq_true.mp k4 g (List.mem_range.mpr hg)
    rw [hx', hv] at a
    dsimp only at a
    split at a
    · rename_i u q
      obtain ⟨r1, r2⟩ := conB_ok (Z := T.ab K h1 h2) 8 v u a
      exact ⟨u, conV u, PySem.W.mg_of X G q, r1, r2⟩
    · cases a
  · have hm := lookup_mem (show T.fns.lookup f = some x from hx)
    obtain ⟨e, he, q, ql⟩ := enAt_ok (List.all_eq_true.mp t2 _ hm)
    have hl : e.loc K = He.ga K x := by unfold En.loc; rw [ql]; rfl
    have g1 := He.glo_ok X G (List.all_eq_true.mp k2 _ hm)
    refine ⟨He.ga K x, e.df, g1, ?_, dOf q, ?_⟩
    · have := (He.ba (c.def_ he).2).1
      rw [hl] at this; exact this
    · rw [← hl]; exact fact e he
  · have hC' : T.cn[k]?.join.map (He.ga K) = some C := hC
    cases qC : T.cn[k]?.join with
    | none => rw [qC] at hC'; cases hC'
    | some Cn =>
      rw [qC] at hC'
      cases hC'
      obtain ⟨a1, a2⟩ := cl k Cn Cl qC hk
      simp only [clK, Bool.and_eq_true] at a1
      obtain ⟨⟨⟨⟨⟨b1, b2⟩, b3⟩, b4⟩, b5⟩, b6⟩ := a1
      simp only [clB, Bool.and_eq_true] at a2
      obtain ⟨⟨⟨e1, e2⟩, e3⟩, e4⟩ := a2
      refine ⟨He.cls_ok b2, fun f hf => ?_, fun m g hm => ?_, fun f g hf => ?_⟩
      · have hf' := List.contains_iff_mem.mp hf
        exact ⟨He.noat_ok (List.all_eq_true.mp b3 f hf'), of_decide_eq_true (List.all_eq_true.mp e1 f hf')⟩
      · have hm' := lookup_memN hm
        have z := List.all_eq_true.mp e2 _ hm'
        simp only [Bool.and_eq_true, decide_eq_true_eq] at z
        obtain ⟨e, he, q, ql⟩ := enAt_ok z.2
        refine ⟨z.1, _, e.df, He.meth_ok (List.all_eq_true.mp b4 _ hm'), dOf q, ?_⟩
        have hl : e.loc K = He.ma K (He.ga K Cn) (T.nms.getD m "") := by unfold En.loc; rw [ql]; rfl
        have z2 := fact e he
        rw [hl] at z2; exact z2
      · have hf' := lookup_memN hf
        have z := List.all_eq_true.mp e3 _ hf'
        simp only [Bool.and_eq_true, decide_eq_true_eq] at z
        obtain ⟨e, he, q, ql⟩ := enAt_ok z.2
        refine ⟨z.1, _, _, e.df, propB_ok (List.all_eq_true.mp b5 _ hf'), dOf q, ?_⟩
        have hl : e.loc K = (Lc.prop Cn (T.nms.getD f "")).adr K := by unfold En.loc; rw [ql]
        have z2 := fact e he
        rw [hl] at z2; exact z2
  · have hx' : T.cn[k]?.join = some x := hx
    obtain ⟨a1, a2⟩ := cl k x Cl hx' hk
    simp only [clK, Bool.and_eq_true] at a1
    obtain ⟨⟨⟨⟨⟨b1, b2⟩, b3⟩, b4⟩, b5⟩, b6⟩ := a1
    simp only [clB, Bool.and_eq_true] at a2
    obtain ⟨⟨⟨e1, e2⟩, e3⟩, e4⟩ := a2
    rw [hi] at b6 e4
    obtain ⟨e, he, q, ql⟩ := enAt_ok e4
    refine ⟨He.ga K x, _, e.df, ?_, He.glo_ok X G b1, He.mkr_ok b6, dOf q, ?_⟩
    · show T.cn[k]?.join.map (He.ga K) = _
      rw [hx']; rfl
    · have hl : e.loc K = He.ma K (He.ga K x) "__init__" := by unfold En.loc; rw [ql]; rfl
      rw [← hl]; exact fact e he
/-- the law's def: what the head's end asks -/
theorem lawFacts {T : Tb} {K : PySem.W.Frag} {h : Heap} {mg : Str → Option Value} {Pr : Program} {w : World} {W f x : _} {fa : Addr} (k : Nat) (X : K.In h) (G : h.Ns mainGlobals mg) (tb : tbB T = true) (c : SaysX (ckB T) T.ens K) (hb : ∀ e ∈ T.ens, BindOk e)
    {e : En} (he : T.find f = some e) (hl : e.lc = .glo "law") (hp : e.ps = [x]) (hg : T.fns.lookup f = some "law") (hmg : mg ("law" : Str) = some (.ref fa))
    (n : Nat) (hev : ∀ ns : List Int, ns.length ≤ n → ∃ h', Ev.calls T.pg T.D W k f [.ref 0] [.list true (ns.map Ev.Val.int)] = .ok (.bl true) h') :
    ∃ (fd : FuncData) (sp : Sp), (∀ (s : Shared) (u : Value), BindsTo s fd ⟨[u], []⟩ [(x, u)]) ∧
      (∀ (H : L2.Hp) (a : Addr) (ns : List Int), ns.length ≤ n → Only H → SqL K H a (ns.map V.int) → sp [.ref a] H (fun v _ => v = .bl true) fun _ _ _ => False) ∧
      ∀ base : Heap, FnOk Pr w K mg base CX0 (2 * k + 1) fa fd [x] sp := by
  have ck := c.ck
  simp only [ckB, Bool.and_eq_true] at ck
  obtain ⟨⟨⟨⟨⟨k1, k2⟩, k3⟩, k4⟩, k5⟩, k6⟩ := ck
  have tb' := tb
  simp only [tbB, Bool.and_eq_true] at tb'
  obtain ⟨⟨⟨t1, t2⟩, t3⟩, t4⟩ := tb'
  have wd := wdOf X G tb c hb t1 k5
  have hm := List.mem_of_find?_eq_some he
  obtain ⟨d1, d2⟩ := c.def_ hm
  obtain ⟨fd, F, B⟩ := En.fact d1 d2 (List.all_eq_true.mp t4 e hm) (hb e hm)
  have hloc : e.loc K = He.ga K "law" := by unfold En.loc; rw [hl]; rfl
  have hfa : fa = He.ga K "law" := by
    have g1 := He.glo_ok X G (List.all_eq_true.mp k2 _ (lookup_mem hg))
    rw [hmg] at g1
    cases g1; rfl
  have hD : T.D f = some e.df := by unfold Tb.D; rw [he]; rfl
  rw [hloc, ← hfa, hp] at F
  refine ⟨fd, spF (T.ab K t1 k5) (Ev.calls T.pg T.D W k) f, fun s u => ?_, fun H a ns hn hO hS => lawOk k f rfl (noList_ok k6) hO hS (hev ns hn), fun base => (fnOk wd k f e.df fa fd [x] hD F).2⟩
  have := B s [u] (by rw [hp]; rfl)
  rw [hp] at this
  exact this
theorem roomA {a b k : Nat} (h : k ≤ 100) (e : a + 3 * 201 + 5 < b) : a + 3 * (2 * k + 1) + 5 < b := by omega
theorem roomB {a b k : Nat} (h : k ≤ 100) (e : a + 16 * 201 + 200 < b) : a + 16 * (2 * k + 1) + 200 < b := by omega
theorem roomK {k : Nat} (h : k ≤ 100) : Room (2 * k + 1) callerA := ⟨rfl, roomA h (by decide +kernel), roomB h (by decide +kernel)⟩
end Sd

/-! EvW: what a run of the own evaluator answers: rules by construct -/
namespace Ev
def wp {α : Type} (r : R α) (Q : α → Hp → Prop) : Prop := match r with
  | .ok a h => Q a h
  | _ => False

@[irreducible] def wevE (P : Pg) (F : Fn) (e : E) (st : St) (h : Hp) (Q : Val → Hp → Prop) : Prop := wp (evE P F e st h) Q
@[irreducible] def wevEs (P : Pg) (F : Fn) (e : Es) (st : St) (h : Hp) (Q : List Val → Hp → Prop) : Prop := wp (evEs P F e st h) Q
@[irreducible] def wevFs (P : Pg) (F : Fn) (e : Es) (acc : Tx) (st : St) (h : Hp) (Q : Tx → Hp → Prop) : Prop := wp (evFs P F e acc st h) Q
@[irreducible] def wevDs (P : Pg) (F : Fn) (e : Ds) (acc : List (Val × Val)) (st : St) (h : Hp) (Q : List (Val × Val) → Hp → Prop) : Prop := wp (evDs P F e acc st h) Q
@[irreducible] def wevOe (P : Pg) (F : Fn) (e : Oe) (st : St) (h : Hp) (Q : Option Int → Hp → Prop) : Prop := wp (evOe P F e st h) Q
@[irreducible] def wevIfs (P : Pg) (F : Fn) (e : Es) (st : St) (h : Hp) (Q : Bool → Hp → Prop) : Prop := wp (evIfs P F e st h) Q
@[irreducible] def wevIt (P : Pg) (F : Fn) (e : It) (st : St) (h : Hp) (Q : Walk → Hp → Prop) : Prop := wp (evIt P F e st h) Q
@[irreducible] def wevTg (P : Pg) (F : Fn) (t : Tg) (v : Val) (st : St) (h : Hp) (Q : St → Hp → Prop) : Prop := wp (evTg P F t v st h) Q
@[irreducible] def wevS (P : Pg) (F : Fn) (W : Nat) (s : S) (st : St) (h : Hp) (Q : Fl × St → Hp → Prop) : Prop := wp (evS P F W s st h) Q
@[irreducible] def wevSs (P : Pg) (F : Fn) (W : Nat) (s : Ss) (st : St) (h : Hp) (Q : Fl × St → Hp → Prop) : Prop := wp (evSs P F W s st h) Q
@[irreducible] def wF (F : Fn) (f : Nat) (vs : List Val) (h : Hp) (Q : Val → Hp → Prop) : Prop := wp (F f vs h) Q
@[irreducible] def wbinCall (op : Bop) (x y : Val) (h : Hp) (Q : Val → Hp → Prop) : Prop := wp (binCall op x y h) Q
@[irreducible] def waugCall (op : Bop) (x y : Val) (h : Hp) (Q : Val → Hp → Prop) : Prop := wp (augCall op x y h) Q
@[irreducible] def wsubCall (x y : Val) (h : Hp) (Q : Val → Hp → Prop) : Prop := wp (subCall x y h) Q
@[irreducible] def wslcCall (x : Val) (l u : Option Int) (h : Hp) (Q : Val → Hp → Prop) : Prop := wp (slcCall x l u h) Q
@[irreducible] def wattrCall (P : Pg) (F : Fn) (x : Val) (f : Nat) (h : Hp) (Q : Val → Hp → Prop) : Prop := wp (attrCall P F x f h) Q
@[irreducible] def wnewCall (P : Pg) (F : Fn) (c : Nat) (vs : List Val) (h : Hp) (Q : Val → Hp → Prop) : Prop := wp (newCall P F c vs h) Q
@[irreducible] def wbiCall (b : Bi) (vs : List Val) (h : Hp) (Q : Val → Hp → Prop) : Prop := wp (biCall b vs h) Q
@[irreducible] def wbmCall (m : Bm) (x : Val) (vs : List Val) (h : Hp) (Q : Val → Hp → Prop) : Prop := wp (bmCall m x vs h) Q
@[irreducible] def wsetCall (o i v : Val) (h : Hp) (Q : Unit → Hp → Prop) : Prop := wp (setCall o i v h) Q
@[irreducible] def wsetAttr (P : Pg) (o : Val) (f : Nat) (v : Val) (h : Hp) (Q : Unit → Hp → Prop) : Prop := wp (setAttr P o f v h) Q
@[irreducible] def wwalkOf (v : Val) (h : Hp) (Q : Walk → Hp → Prop) : Prop := wp (walkOf v h) Q
section
variable {α β : Type} {P : Pg} {F : Fn} {W : Nat} {st : St} {h : Hp}
theorem wok {r : R α} {a : α} {h : Hp} {Q : α → Hp → Prop} (e : r = .ok a h) (q : Q a h) : wp r Q := by rw [e]; exact q
theorem wbind {r : R α} {f : α → Hp → R β} {Q : β → Hp → Prop} (q : wp r fun a h => wp (f a h) Q) : wp (r.bind f) Q := by
  cases r with
  | ok a h => exact q
  | exc x h => exact q.elim
  | stuck => exact q.elim
theorem wmono {r : R α} {Q Q' : α → Hp → Prop} (q : wp r Q) (k : ∀ a h, Q a h → Q' a h) : wp r Q' := by
  cases r with
  | ok a h => exact k a h q
  | exc x h => exact q.elim
  | stuck => exact q.elim
theorem wget {r : R α} {Q : α → Hp → Prop} (q : wp r Q) : ∃ a h, r = .ok a h ∧ Q a h := by
  cases r with
  | ok a h => exact ⟨a, h, rfl, q⟩
  | exc x h => exact q.elim
  | stuck => exact q.elim
theorem wcalm {r : R α} {Q : α → Hp → Prop} (q : wp r Q) : wp r.calm Q := by
  cases r with
  | ok a h => exact q
  | exc x h => exact q.elim
  | stuck => exact q.elim
theorem wguard {b : Bool} {r : R α} {Q : α → Hp → Prop} (hb : b = true) (q : wp r Q) : wp (guard b r) Q := by subst hb; exact q
theorem wsome {o : Option α} {a : α} {Q : α → Hp → Prop} (e : o = some a) (q : Q a h) : wp (R.some h o) Q := by subst e; exact q
theorem wite {b : Bool} {x y : R α} {Q : α → Hp → Prop} (t : b = true → wp x Q) (e : b = false → wp y Q) : wp (if b = true then x else y) Q := by
  cases b with
  | true => exact t rfl
  | false => exact e rfl
/-! ### expressions -/
variable {Q : Val → Hp → Prop}
theorem w_var {i : Nat} {v : Val} (e : st[i]? = some (some v)) (q : Q v h) : wevE P F (.var i) st h Q := by
  (try simp only [wevE, wevEs, wevFs, wevDs, wevOe, wevIfs, wevIt, wevTg, wevS, wevSs, wF, wbinCall, waugCall, wsubCall, wslcCall, wattrCall, wnewCall, wbiCall, wbmCall, wsetCall, wsetAttr, wwalkOf] at *)
  simp only [evE, e]; exact q
theorem w_glob {g : Nat} {v : Val} (e : P.consts[g]? = some v) (q : Q v h) : wevE P F (.glob g) st h Q := by
  (try simp only [wevE, wevEs, wevFs, wevDs, wevOe, wevIfs, wevIt, wevTg, wevS, wevSs, wF, wbinCall, waugCall, wsubCall, wslcCall, wattrCall, wnewCall, wbiCall, wbmCall, wsetCall, wsetAttr, wwalkOf] at *)
  simp only [evE]; exact wsome e q
theorem w_con {v : Val} (q : Q v h) : wevE P F (.con v) st h Q := by
  (try simp only [wevE] at *)
  exact q
theorem w_bin {op : Bop} {a b : E} (q : wevE P F a st h fun x h => wevE P F b st h fun y h => wbinCall op x y h Q) : wevE P F (.bin op a b) st h Q := by
  (try simp only [wevE, wevEs, wevFs, wevDs, wevOe, wevIfs, wevIt, wevTg, wevS, wevSs, wF, wbinCall, waugCall, wsubCall, wslcCall, wattrCall, wnewCall, wbiCall, wbmCall, wsetCall, wsetAttr, wwalkOf] at *)
  simp only [evE]; exact wbind (wmono q fun _ _ q => wbind q)
theorem w_not {a : E} (q : wevE P F a st h fun x h => ∃ b, x = .bl b ∧ Q (.bl (!b)) h) : wevE P F (.not a) st h Q := by
  (try simp only [wevE, wevEs, wevFs, wevDs, wevOe, wevIfs, wevIt, wevTg, wevS, wevSs, wF, wbinCall, waugCall, wsubCall, wslcCall, wattrCall, wnewCall, wbiCall, wbmCall, wsetCall, wsetAttr, wwalkOf] at *)
  simp only [evE]; refine wbind (wmono q fun x h ⟨b, e, q⟩ => ?_); subst e; exact q
theorem w_neg {a : E} (q : wevE P F a st h fun x h => ∃ i, x = .int i ∧ Q (.int (-i)) h) : wevE P F (.neg a) st h Q := by
  (try simp only [wevE, wevEs, wevFs, wevDs, wevOe, wevIfs, wevIt, wevTg, wevS, wevSs, wF, wbinCall, waugCall, wsubCall, wslcCall, wattrCall, wnewCall, wbiCall, wbmCall, wsetCall, wsetAttr, wwalkOf] at *)
  simp only [evE]; refine wbind (wmono q fun x h ⟨b, e, q⟩ => ?_); subst e; exact q
theorem w_and {a b : E} (q : wevE P F a st h fun x h => ∃ c, x = .bl c ∧ (c = true → wevE P F b st h Q) ∧ (c = false → Q (.bl false) h)) : wevE P F (.and a b) st h Q := by
  (try simp only [wevE, wevEs, wevFs, wevDs, wevOe, wevIfs, wevIt, wevTg, wevS, wevSs, wF, wbinCall, waugCall, wsubCall, wslcCall, wattrCall, wnewCall, wbiCall, wbmCall, wsetCall, wsetAttr, wwalkOf] at *)
  simp only [evE]; refine wbind (wmono q fun x h ⟨c, e, q1, q2⟩ => ?_); subst e
  cases c with
  | true => exact q1 rfl
  | false => exact q2 rfl
theorem w_or {a b : E} (q : wevE P F a st h fun x h => ∃ c, x = .bl c ∧ (c = true → Q (.bl true) h) ∧ (c = false → wevE P F b st h Q)) : wevE P F (.or a b) st h Q := by
  (try simp only [wevE, wevEs, wevFs, wevDs, wevOe, wevIfs, wevIt, wevTg, wevS, wevSs, wF, wbinCall, waugCall, wsubCall, wslcCall, wattrCall, wnewCall, wbiCall, wbmCall, wsetCall, wsetAttr, wwalkOf] at *)
  simp only [evE]; refine wbind (wmono q fun x h ⟨c, e, q1, q2⟩ => ?_); subst e
  cases c with
  | true => exact q1 rfl
  | false => exact q2 rfl
theorem w_cmp {op : Cop} {a b : E} (q : wevE P F a st h fun x h => wevE P F b st h fun y h => ∃ c, cmpCall op x y h = some c ∧ Q (.bl c) h) : wevE P F (.cmp op a b) st h Q := by
  (try simp only [wevE, wevEs, wevFs, wevDs, wevOe, wevIfs, wevIt, wevTg, wevS, wevSs, wF, wbinCall, waugCall, wsubCall, wslcCall, wattrCall, wnewCall, wbiCall, wbmCall, wsetCall, wsetAttr, wwalkOf] at *)
  simp only [evE]; refine wbind (wmono q fun _ _ q => wbind (wmono q fun _ _ ⟨c, e, q⟩ => ?_)); rw [e]; exact q
theorem w_chain {o1 o2 : Cop} {a b c : E} (q : wevE P F a st h fun x h => wevE P F b st h fun y h => ∃ t, cmpCall o1 x y h = some t ∧ (t = true → wevE P F c st h fun z h => ∃ u, cmpCall o2 y z h = some u ∧ Q (.bl u) h) ∧ (t = false → Q (.bl false) h)) : wevE P F (.chain o1 o2 a b c) st h Q := by
  (try simp only [wevE, wevEs, wevFs, wevDs, wevOe, wevIfs, wevIt, wevTg, wevS, wevSs, wF, wbinCall, waugCall, wsubCall, wslcCall, wattrCall, wnewCall, wbiCall, wbmCall, wsetCall, wsetAttr, wwalkOf] at *)
  simp only [evE]; refine wbind (wmono q fun _ _ q => wbind (wmono q fun _ _ ⟨c, e, q1, q2⟩ => ?_)); rw [e]
  cases c with
  | true => exact wbind (wmono (q1 rfl) fun _ _ ⟨c, e, q⟩ => by rw [e]; exact q)
  | false => exact q2 rfl
theorem w_ife {c a b : E} (q : wevE P F c st h fun x h => ∃ t, x = .bl t ∧ (t = true → wevE P F a st h Q) ∧ (t = false → wevE P F b st h Q)) : wevE P F (.ife c a b) st h Q := by
  (try simp only [wevE, wevEs, wevFs, wevDs, wevOe, wevIfs, wevIt, wevTg, wevS, wevSs, wF, wbinCall, waugCall, wsubCall, wslcCall, wattrCall, wnewCall, wbiCall, wbmCall, wsetCall, wsetAttr, wwalkOf] at *)
  simp only [evE]; refine wbind (wmono q fun x h ⟨c, e, q1, q2⟩ => ?_); subst e
  cases c with
  | true => exact q1 rfl
  | false => exact q2 rfl
theorem w_tup {es : Es} (q : wevEs P F es st h fun vs h => (decide (vs.length ≤ LIM)) = true ∧ Q (.tup vs) h) : wevE P F (.tup es) st h Q := by
  (try simp only [wevE, wevEs, wevFs, wevDs, wevOe, wevIfs, wevIt, wevTg, wevS, wevSs, wF, wbinCall, waugCall, wsubCall, wslcCall, wattrCall, wnewCall, wbiCall, wbmCall, wsetCall, wsetAttr, wwalkOf] at *)
  simp only [evE]; exact wbind (wmono q fun _ _ ⟨g, q⟩ => wguard g q)
theorem w_lst {es : Es} (q : wevEs P F es st h fun vs h => (decide (vs.length ≤ LIM)) = true ∧ Q (.ref h.length) (h ++ [.list false vs])) : wevE P F (.lst es) st h Q := by
  (try simp only [wevE, wevEs, wevFs, wevDs, wevOe, wevIfs, wevIt, wevTg, wevS, wevSs, wF, wbinCall, waugCall, wsubCall, wslcCall, wattrCall, wnewCall, wbiCall, wbmCall, wsetCall, wsetAttr, wwalkOf] at *)
  simp only [evE]; exact wbind (wmono q fun _ _ ⟨g, q⟩ => wguard g q)
theorem w_dic {ds : Ds} (q : wevDs P F ds [] st h fun vs h => (decide (vs.length < LIM)) = true ∧ Q (.ref h.length) (h ++ [.dict false vs])) : wevE P F (.dic ds) st h Q := by
  (try simp only [wevE, wevEs, wevFs, wevDs, wevOe, wevIfs, wevIt, wevTg, wevS, wevSs, wF, wbinCall, waugCall, wsubCall, wslcCall, wattrCall, wnewCall, wbiCall, wbmCall, wsetCall, wsetAttr, wwalkOf] at *)
  simp only [evE]; exact wbind (wmono q fun _ _ ⟨g, q⟩ => wguard g q)
theorem w_sub {a b : E} (q : wevE P F a st h fun x h => wevE P F b st h fun y h => wsubCall x y h Q) : wevE P F (.sub a b) st h Q := by
  (try simp only [wevE, wevEs, wevFs, wevDs, wevOe, wevIfs, wevIt, wevTg, wevS, wevSs, wF, wbinCall, waugCall, wsubCall, wslcCall, wattrCall, wnewCall, wbiCall, wbmCall, wsetCall, wsetAttr, wwalkOf] at *)
  simp only [evE]; exact wbind (wmono q fun _ _ q => wbind q)
theorem w_slc {a : E} {lo hi : Oe} (q : wevE P F a st h fun x h => wevOe P F lo st h fun l h => wevOe P F hi st h fun u h => wslcCall x l u h Q) : wevE P F (.slc a lo hi) st h Q := by
  (try simp only [wevE, wevEs, wevFs, wevDs, wevOe, wevIfs, wevIt, wevTg, wevS, wevSs, wF, wbinCall, waugCall, wsubCall, wslcCall, wattrCall, wnewCall, wbiCall, wbmCall, wsetCall, wsetAttr, wwalkOf] at *)
  simp only [evE]; exact wbind (wmono q fun _ _ q => wbind (wmono q fun _ _ q => wbind q))
theorem w_onone {Q : Option Int → Hp → Prop} (q : Q none h) : wevOe P F .none st h Q := by
  (try simp only [wevE, wevEs, wevFs, wevDs, wevOe, wevIfs, wevIt, wevTg, wevS, wevSs, wF, wbinCall, waugCall, wsubCall, wslcCall, wattrCall, wnewCall, wbiCall, wbmCall, wsetCall, wsetAttr, wwalkOf] at *)
  simp only [evOe]; exact q
theorem w_osome {e : E} {Q : Option Int → Hp → Prop} (q : wevE P F e st h fun x h => ∃ i, x = .int i ∧ Q (some i) h) : wevOe P F (.some e) st h Q := by
  (try simp only [wevE, wevEs, wevFs, wevDs, wevOe, wevIfs, wevIt, wevTg, wevS, wevSs, wF, wbinCall, waugCall, wsubCall, wslcCall, wattrCall, wnewCall, wbiCall, wbmCall, wsetCall, wsetAttr, wwalkOf] at *)
  simp only [evOe]; refine wbind (wmono q fun x h ⟨b, e, q⟩ => ?_); subst e; exact q
theorem w_attr {o : E} {f : Nat} (q : wevE P F o st h fun x h => wattrCall P F x f h Q) : wevE P F (.attr o f) st h Q := by
  (try simp only [wevE, wevEs, wevFs, wevDs, wevOe, wevIfs, wevIt, wevTg, wevS, wevSs, wF, wbinCall, waugCall, wsubCall, wslcCall, wattrCall, wnewCall, wbiCall, wbmCall, wsetCall, wsetAttr, wwalkOf] at *)
  simp only [evE]; exact wbind q
theorem w_call {f : Nat} {as : Es} (q : wevEs P F as st h fun vs h => wF F f vs h Q) : wevE P F (.call f as) st h Q := by
  (try simp only [wevE, wevEs, wevFs, wevDs, wevOe, wevIfs, wevIt, wevTg, wevS, wevSs, wF, wbinCall, waugCall, wsubCall, wslcCall, wattrCall, wnewCall, wbiCall, wbmCall, wsetCall, wsetAttr, wwalkOf] at *)
  simp only [evE]; exact wbind q
theorem w_new {c : Nat} {as : Es} (q : wevEs P F as st h fun vs h => wnewCall P F c vs h Q) : wevE P F (.new c as) st h Q := by
  (try simp only [wevE, wevEs, wevFs, wevDs, wevOe, wevIfs, wevIt, wevTg, wevS, wevSs, wF, wbinCall, waugCall, wsubCall, wslcCall, wattrCall, wnewCall, wbiCall, wbmCall, wsetCall, wsetAttr, wwalkOf] at *)
  simp only [evE]; exact wbind q
theorem w_meth {o : E} {m : Nat} {as : Es} (q : wevE P F o st h fun x h => ∃ g, methOf P x m h = some g ∧ wevEs P F as st h fun vs h => wF F g (x :: vs) h Q) : wevE P F (.meth o m as) st h Q := by
  (try simp only [wevE, wevEs, wevFs, wevDs, wevOe, wevIfs, wevIt, wevTg, wevS, wevSs, wF, wbinCall, waugCall, wsubCall, wslcCall, wattrCall, wnewCall, wbiCall, wbmCall, wsetCall, wsetAttr, wwalkOf] at *)
  simp only [evE]; refine wbind (wmono q fun x h ⟨g, e, q⟩ => ?_); rw [e]; exact wbind q
theorem w_bi {b : Bi} {as : Es} (q : wevEs P F as st h fun vs h => wbiCall b vs h Q) : wevE P F (.bi b as) st h Q := by
  (try simp only [wevE, wevEs, wevFs, wevDs, wevOe, wevIfs, wevIt, wevTg, wevS, wevSs, wF, wbinCall, waugCall, wsubCall, wslcCall, wattrCall, wnewCall, wbiCall, wbmCall, wsetCall, wsetAttr, wwalkOf] at *)
  simp only [evE]; exact wbind q
theorem w_isi {e : E} {ts : List Ty} (q : wevE P F e st h fun x h => ∃ c, tyCall ts x h = some c ∧ Q (.bl c) h) : wevE P F (.isi e ts) st h Q := by
  (try simp only [wevE, wevEs, wevFs, wevDs, wevOe, wevIfs, wevIt, wevTg, wevS, wevSs, wF, wbinCall, waugCall, wsubCall, wslcCall, wattrCall, wnewCall, wbiCall, wbmCall, wsetCall, wsetAttr, wwalkOf] at *)
  simp only [evE]; refine wbind (wmono q fun x h ⟨c, e, q⟩ => ?_); rw [e]; exact q
theorem w_bm {m : Bm} {o : E} {as : Es} (q : wevE P F o st h fun x h => bmPre m x h = true ∧ wevEs P F as st h fun vs h => wbmCall m x vs h Q) : wevE P F (.bm m o as) st h Q := by
  (try simp only [wevE, wevEs, wevFs, wevDs, wevOe, wevIfs, wevIt, wevTg, wevS, wevSs, wF, wbinCall, waugCall, wsubCall, wslcCall, wattrCall, wnewCall, wbiCall, wbmCall, wsetCall, wsetAttr, wwalkOf] at *)
  simp only [evE]; refine wbind (wmono q fun x h ⟨g, q⟩ => wguard g (wbind q))
theorem w_fstr {es : Es} (q : wevFs P F es [] st h fun t h => Q (.str t) h) : wevE P F (.fstr es) st h Q := by
  (try simp only [wevE, wevEs, wevFs, wevDs, wevOe, wevIfs, wevIt, wevTg, wevS, wevSs, wF, wbinCall, waugCall, wsubCall, wslcCall, wattrCall, wnewCall, wbiCall, wbmCall, wsetCall, wsetAttr, wwalkOf] at *)
  simp only [evE]; exact wbind (wmono q fun _ _ q => q)
theorem w_fnil {acc : Tx} {Q : Tx → Hp → Prop} (q : Q acc h) : wevFs P F .nil acc st h Q := by
  (try simp only [wevE, wevEs, wevFs, wevDs, wevOe, wevIfs, wevIt, wevTg, wevS, wevSs, wF, wbinCall, waugCall, wsubCall, wslcCall, wattrCall, wnewCall, wbiCall, wbmCall, wsetCall, wsetAttr, wwalkOf] at *)
  simp only [evFs]; exact q
theorem w_fcons {b : Bool} {e : E} {es : Es} {acc : Tx} {Q : Tx → Hp → Prop} (q : wevE P F e st h fun x h => ∃ t, partTx x = some t ∧ decide (acc.length + t.length ≤ LIM) = true ∧ wevFs P F es (acc ++ t) st h Q) : wevFs P F (.cons b e es) acc st h Q := by
  (try simp only [wevE, wevEs, wevFs, wevDs, wevOe, wevIfs, wevIt, wevTg, wevS, wevSs, wF, wbinCall, waugCall, wsubCall, wslcCall, wattrCall, wnewCall, wbiCall, wbmCall, wsetCall, wsetAttr, wwalkOf] at *)
  simp only [evFs]; refine wbind (wmono q fun x h ⟨t, e, g, q⟩ => ?_); rw [e]; exact wguard g q
theorem w_anil {Q : List Val → Hp → Prop} (q : Q [] h) : wevEs P F .nil st h Q := by
  (try simp only [wevE, wevEs, wevFs, wevDs, wevOe, wevIfs, wevIt, wevTg, wevS, wevSs, wF, wbinCall, waugCall, wsubCall, wslcCall, wattrCall, wnewCall, wbiCall, wbmCall, wsetCall, wsetAttr, wwalkOf] at *)
  simp only [evEs]; exact q
theorem w_acons {e : E} {es : Es} {Q : List Val → Hp → Prop} (q : wevE P F e st h fun x h => wevEs P F es st h fun vs h => Q (x :: vs) h) : wevEs P F (.cons false e es) st h Q := by
  (try simp only [wevE, wevEs, wevFs, wevDs, wevOe, wevIfs, wevIt, wevTg, wevS, wevSs, wF, wbinCall, waugCall, wsubCall, wslcCall, wattrCall, wnewCall, wbiCall, wbmCall, wsetCall, wsetAttr, wwalkOf] at *)
  simp only [evEs]; exact wbind (wmono q fun _ _ q => wbind (wmono q fun _ _ q => q))
theorem w_astar {e : E} {es : Es} {Q : List Val → Hp → Prop} (q : wevE P F e st h fun x h => ∃ ws, seqOf h x = some ws ∧ wevEs P F es st h fun vs h => Q (ws ++ vs) h) : wevEs P F (.cons true e es) st h Q := by
  (try simp only [wevE, wevEs, wevFs, wevDs, wevOe, wevIfs, wevIt, wevTg, wevS, wevSs, wF, wbinCall, waugCall, wsubCall, wslcCall, wattrCall, wnewCall, wbiCall, wbmCall, wsetCall, wsetAttr, wwalkOf] at *)
  simp only [evEs]; refine wbind (wmono q fun x h ⟨ws, e, q⟩ => ?_); simp only [if_true, e]; exact wbind (wmono q fun _ _ q => q)
theorem w_dnil {acc : List (Val × Val)} {Q : List (Val × Val) → Hp → Prop} (q : Q acc h) : wevDs P F .nil acc st h Q := by
  (try simp only [wevE, wevEs, wevFs, wevDs, wevOe, wevIfs, wevIt, wevTg, wevS, wevSs, wF, wbinCall, waugCall, wsubCall, wslcCall, wattrCall, wnewCall, wbiCall, wbmCall, wsetCall, wsetAttr, wwalkOf] at *)
  simp only [evDs]; exact q
theorem w_dkv {k v : E} {ds : Ds} {acc : List (Val × Val)} {Q : List (Val × Val) → Hp → Prop} (q : wevE P F k st h fun kk h => wevE P F v st h fun vv h => (isKey kk && decide (acc.length < LIM)) = true ∧ wevDs P F ds (put acc kk vv) st h Q) : wevDs P F (.kv k v ds) acc st h Q := by
  (try simp only [wevE, wevEs, wevFs, wevDs, wevOe, wevIfs, wevIt, wevTg, wevS, wevSs, wF, wbinCall, waugCall, wsubCall, wslcCall, wattrCall, wnewCall, wbiCall, wbmCall, wsetCall, wsetAttr, wwalkOf] at *)
  simp only [evDs]; exact wbind (wmono q fun _ _ q => wbind (wmono q fun _ _ ⟨g, q⟩ => wguard g q))
theorem w_dstar {e : E} {ds : Ds} {acc : List (Val × Val)} {Q : List (Val × Val) → Hp → Prop} (q : wevE P F e st h fun x h => ∃ a fr kvs, x = .ref a ∧ h[a]? = some (.dict fr kvs) ∧ decide (acc.length + kvs.length ≤ LIM) = true ∧ wevDs P F ds (putAll acc kvs) st h Q) : wevDs P F (.star e ds) acc st h Q := by
  (try simp only [wevE, wevEs, wevFs, wevDs, wevOe, wevIfs, wevIt, wevTg, wevS, wevSs, wF, wbinCall, waugCall, wsubCall, wslcCall, wattrCall, wnewCall, wbiCall, wbmCall, wsetCall, wsetAttr, wwalkOf] at *)
  simp only [evDs]; refine wbind (wmono q fun _ _ ⟨a, fr, kvs, e, e2, g, q⟩ => ?_); subst e; simp only [e2]; exact wguard g q
/-! ### statements -/
variable {R : Fl × St → Hp → Prop}
theorem w_expr {e : E} (q : wevE P F e st h fun _ h => R (.next, st) h) : wevS P F W (.expr e) st h R := by
  (try simp only [wevE, wevEs, wevFs, wevDs, wevOe, wevIfs, wevIt, wevTg, wevS, wevSs, wF, wbinCall, waugCall, wsubCall, wslcCall, wattrCall, wnewCall, wbiCall, wbmCall, wsetCall, wsetAttr, wwalkOf] at *)
  simp only [evS]; exact wbind (wmono q fun _ _ q => q)
theorem w_asg {t : Tg} {e : E} (q : wevE P F e st h fun x h => wevTg P F t x st h fun st h => R (.next, st) h) : wevS P F W (.asg t e) st h R := by
  (try simp only [wevE, wevEs, wevFs, wevDs, wevOe, wevIfs, wevIt, wevTg, wevS, wevSs, wF, wbinCall, waugCall, wsubCall, wslcCall, wattrCall, wnewCall, wbiCall, wbmCall, wsetCall, wsetAttr, wwalkOf] at *)
  simp only [evS]; exact wbind (wmono q fun _ _ q => wbind (wmono q fun _ _ q => q))
theorem w_tpat {p : Pat} {v : Val} {st' : St} {Q : St → Hp → Prop} (e : bindP p v st = some st') (q : Q st' h) : wevTg P F (.pat p) v st h Q := by
  (try simp only [wevE, wevEs, wevFs, wevDs, wevOe, wevIfs, wevIt, wevTg, wevS, wevSs, wF, wbinCall, waugCall, wsubCall, wslcCall, wattrCall, wnewCall, wbiCall, wbmCall, wsetCall, wsetAttr, wwalkOf] at *)
  simp only [evTg, e]; exact q
theorem w_tsub {o i : E} {v : Val} {Q : St → Hp → Prop} (q : wevE P F o st h fun x h => wevE P F i st h fun y h => wsetCall x y v h fun _ h => Q st h) : wevTg P F (.sub o i) v st h Q := by
  (try simp only [wevE, wevEs, wevFs, wevDs, wevOe, wevIfs, wevIt, wevTg, wevS, wevSs, wF, wbinCall, waugCall, wsubCall, wslcCall, wattrCall, wnewCall, wbiCall, wbmCall, wsetCall, wsetAttr, wwalkOf] at *)
  simp only [evTg]; exact wbind (wmono q fun _ _ q => wbind (wmono q fun _ _ q => wbind (wmono q fun _ _ q => q)))
theorem w_tattr {o : E} {f : Nat} {v : Val} {Q : St → Hp → Prop} (q : wevE P F o st h fun x h => wsetAttr P x f v h fun _ h => Q st h) : wevTg P F (.attr o f) v st h Q := by
  (try simp only [wevE, wevEs, wevFs, wevDs, wevOe, wevIfs, wevIt, wevTg, wevS, wevSs, wF, wbinCall, waugCall, wsubCall, wslcCall, wattrCall, wnewCall, wbiCall, wbmCall, wsetCall, wsetAttr, wwalkOf] at *)
  simp only [evTg]; exact wbind (wmono q fun _ _ q => wbind (wmono q fun _ _ q => q))
theorem w_aug {i : Nat} {op : Bop} {e : E} {x : Val} (hx : st[i]? = some (some x)) (q : wevE P F e st h fun y h => waugCall op x y h fun z h => R (.next, st.set i (some z)) h) : wevS P F W (.aug i op e) st h R := by
  (try simp only [wevE, wevEs, wevFs, wevDs, wevOe, wevIfs, wevIt, wevTg, wevS, wevSs, wF, wbinCall, waugCall, wsubCall, wslcCall, wattrCall, wnewCall, wbiCall, wbmCall, wsetCall, wsetAttr, wwalkOf] at *)
  simp only [evS, hx]; exact wbind (wmono q fun _ _ q => wbind (wmono q fun _ _ q => q))
theorem w_augAttr {o : E} {f : Nat} {op : Bop} {e : E} (q : wevE P F o st h fun x h => ∃ v, fldOf P x f h = some v ∧ wevE P F e st h fun y h => waugCall op v y h fun z h => wsetAttr P x f z h fun _ h => R (.next, st) h) : wevS P F W (.augAttr o f op e) st h R := by
  (try simp only [wevE, wevEs, wevFs, wevDs, wevOe, wevIfs, wevIt, wevTg, wevS, wevSs, wF, wbinCall, waugCall, wsubCall, wslcCall, wattrCall, wnewCall, wbiCall, wbmCall, wsetCall, wsetAttr, wwalkOf] at *)
  simp only [evS]; refine wbind (wmono q fun _ _ ⟨v, e, q⟩ => ?_); rw [e]; exact wbind (wmono q fun _ _ q => wbind (wmono q fun _ _ q => wbind (wmono q fun _ _ q => q)))
theorem w_ret {e : E} (q : wevE P F e st h fun x h => R (.ret x, st) h) : wevS P F W (.ret e) st h R := by
  (try simp only [wevE, wevEs, wevFs, wevDs, wevOe, wevIfs, wevIt, wevTg, wevS, wevSs, wF, wbinCall, waugCall, wsubCall, wslcCall, wattrCall, wnewCall, wbiCall, wbmCall, wsetCall, wsetAttr, wwalkOf] at *)
  simp only [evS]; exact wbind (wmono q fun _ _ q => q)
theorem w_if {c : E} {a b : Ss} (q : wevE P F c st h fun x h => ∃ t, x = .bl t ∧ (t = true → wevSs P F W a st h R) ∧ (t = false → wevSs P F W b st h R)) : wevS P F W (.ite c a b) st h R := by
  (try simp only [wevE, wevEs, wevFs, wevDs, wevOe, wevIfs, wevIt, wevTg, wevS, wevSs, wF, wbinCall, waugCall, wsubCall, wslcCall, wattrCall, wnewCall, wbiCall, wbmCall, wsetCall, wsetAttr, wwalkOf] at *)
  simp only [evS]; refine wbind (wbind (wmono q fun x h ⟨t, e, q1, q2⟩ => ?_)); subst e
  cases t with
  | true => exact q1 rfl
  | false => exact q2 rfl
theorem w_snil (q : R (.next, st) h) : wevSs P F W .nil st h R := by
  (try simp only [wevE, wevEs, wevFs, wevDs, wevOe, wevIfs, wevIt, wevTg, wevS, wevSs, wF, wbinCall, waugCall, wsubCall, wslcCall, wattrCall, wnewCall, wbiCall, wbmCall, wsetCall, wsetAttr, wwalkOf] at *)
  simp only [evSs]; exact q
/-- what is wished of a statement ahead of others -/
@[irreducible] def thenQ (P : Pg) (F : Fn) (W : Nat) (ss : Ss) (R : Fl × St → Hp → Prop) : Fl × St → Hp → Prop
  | (.next, st), h => wevSs P F W ss st h R
  | r, h => R r h
theorem q_next {ss : Ss} (q : wevSs P F W ss st h R) : thenQ P F W ss R (.next, st) h := by unfold thenQ; exact q
theorem q_ret {ss : Ss} {v : Val} (q : R (.ret v, st) h) : thenQ P F W ss R (.ret v, st) h := by unfold thenQ; exact q
theorem q_brk {ss : Ss} (q : R (.brk, st) h) : thenQ P F W ss R (.brk, st) h := by unfold thenQ; exact q
theorem q_cnt {ss : Ss} (q : R (.cnt, st) h) : thenQ P F W ss R (.cnt, st) h := by unfold thenQ; exact q
theorem w_scons {s : S} {ss : Ss} (q : wevS P F W s st h (thenQ P F W ss R)) : wevSs P F W (.cons s ss) st h R := by
  (try simp only [wevE, wevEs, wevFs, wevDs, wevOe, wevIfs, wevIt, wevTg, wevS, wevSs, wF, wbinCall, waugCall, wsubCall, wslcCall, wattrCall, wnewCall, wbiCall, wbmCall, wsetCall, wsetAttr, wwalkOf] at *)
  simp only [evSs]; refine wbind (wmono q fun r h q => ?_)
  obtain ⟨fl, st⟩ := r
  unfold thenQ at q
  (try unfold wevSs at q)
  cases fl <;> exact q
end
/-- .. of a def's body -/
@[irreducible] def endQ (Q : Val → Hp → Prop) : Fl × St → Hp → Prop
  | (.ret v, _), h => Q v h
  | (.next, _), h => Q .non h
  | _, _ => False
theorem e_ret {Q : Val → Hp → Prop} {v : Val} {st : St} {h : Hp} (q : Q v h) : endQ Q (.ret v, st) h := by unfold endQ; exact q
theorem e_next {Q : Val → Hp → Prop} {st : St} {h : Hp} (q : Q .non h) : endQ Q (.next, st) h := by unfold endQ; exact q
/-- .. of a loop's body -/
@[irreducible] def loopQ (I : St → Hp → Prop) (Q : Fl × St → Hp → Prop) : Fl × St → Hp → Prop
  | (.next, st), h => I st h
  | (.cnt, st), h => I st h
  | (.brk, st), h => Q (.next, st) h
  | (.ret x, st), h => Q (.ret x, st) h
section
variable {I : St → Hp → Prop} {Q : Fl × St → Hp → Prop} {st : St} {h : Hp}
theorem o_next (q : I st h) : loopQ I Q (.next, st) h := by unfold loopQ; exact q
theorem o_cnt (q : I st h) : loopQ I Q (.cnt, st) h := by unfold loopQ; exact q
theorem o_brk (q : Q (.next, st) h) : loopQ I Q (.brk, st) h := by unfold loopQ; exact q
theorem o_ret {v : Val} (q : Q (.ret v, st) h) : loopQ I Q (.ret v, st) h := by unfold loopQ; exact q
end
theorem w_def {P : Pg} {D : Nat → Option Df} {W k f : Nat} {vs : List Val} {h : Hp} {d : Df} {Q : Val → Hp → Prop} (hd : D f = some d) (hl : (vs.length == d.np) = true)
    (q : wevSs P (calls P D W k) W d.body (startSt d.ns vs) h (endQ Q)) : wF (calls P D W (k + 1)) f vs h Q := by
  simp only [wF, wevSs] at *
  simp only [calls, hd]
  refine wguard hl (wbind (wmono q fun r h q => ?_))
  obtain ⟨fl, st⟩ := r
  unfold endQ at q
  cases fl <;> exact q
end Ev

/-! EvL: loops of the own evaluator by invariants; what a heap keeps -/
namespace Ev
/-- what stood in h0 outside ws stands in h -/
structure Kp (ws : List Nat) (h0 h : Hp) : Prop where
  len : h0.length ≤ h.length
  at_ : ∀ i o, h0[i]? = some o → i ∉ ws → h[i]? = some o
theorem Kp.refl (ws : List Nat) (h : Hp) : Kp ws h h := ⟨Nat.le_refl _, fun _ _ e _ => e⟩
theorem Kp.trans {ws : List Nat} {a b c : Hp} (x : Kp ws a b) (y : Kp ws b c) : Kp ws a c := ⟨Nat.le_trans x.len y.len, fun i o e n => y.at_ i o (x.at_ i o e n) n⟩
theorem Kp.sub {ws ws' : List Nat} {a b : Hp} (s : ∀ i ∈ ws, i ∈ ws') (x : Kp ws a b) : Kp ws' a b := ⟨x.len, fun i o e n => x.at_ i o e fun m => n (s i m)⟩
theorem Kp.nil {ws : List Nat} {a b : Hp} (x : Kp [] a b) : Kp ws a b := x.sub fun i m => absurd m (by simp)
theorem Kp.push {ws : List Nat} {a b : Hp} (x : Kp ws a b) (o : Obj) : Kp ws a (b ++ [o]) := ⟨by have := x.len; simp; omega, fun i u e n => by
  have q := x.at_ i u e n
  rw [List.getElem?_append_left (List.getElem?_eq_some_iff.mp q).1]; exact q⟩
theorem Kp.set {ws : List Nat} {a b : Hp} {i : Nat} (x : Kp ws a b) (hi : a.length ≤ i ∨ i ∈ ws) (o : Obj) : Kp ws a (b.set i o) := ⟨by simpa using x.len, fun j u e n => by
  have q := x.at_ j u e n
  have hne : i ≠ j := by
    rintro rfl
    rcases hi with z | z
    · have := (List.getElem?_eq_some_iff.mp e).1; omega
    · exact n z
  rw [List.getElem?_set_ne hne]; exact q⟩
/-- two steps of which the second one writes only what is new for the first one -/
theorem Kp.over {ws ws' : List Nat} {a b c : Hp} (x : Kp ws a b) (y : Kp ws' b c) (s : ∀ i ∈ ws', i ∈ ws ∨ a.length ≤ i) : Kp ws a c := ⟨Nat.le_trans x.len y.len, fun i o e n => y.at_ i o (x.at_ i o e n) fun m => by
  rcases s i m with z | z
  · exact n z
  · have := (List.getElem?_eq_some_iff.mp e).1; omega⟩
theorem get_new {h : Hp} {o : Obj} : (h ++ [o])[h.length]? = some o := by simp
theorem set_get {h : Hp} {i : Nat} {o u : Obj} (e : h[i]? = some u) : (h.set i o)[i]? = some o := List.getElem?_set_self (List.getElem?_eq_some_iff.mp e).1
theorem set_ne {h : Hp} {i j : Nat} {o : Obj} (n : i ≠ j) : (h.set i o)[j]? = h[j]? := List.getElem?_set_ne n
theorem push_get {h : Hp} {i : Nat} {o u : Obj} (e : h[i]? = some u) : (h ++ [o])[i]? = some u := by
  rw [List.getElem?_append_left (List.getElem?_eq_some_iff.mp e).1]; exact e
theorem get_lt {h : Hp} {i : Nat} {u : Obj} (e : h[i]? = some u) : i < h.length := (List.getElem?_eq_some_iff.mp e).1
/-! ### loops -/
theorem w_comp {α : Type} {turn : Val → α → Hp → R α} {sr : Sr} {Q : α → Hp → Prop} (vs : List Val) (I : Nat → α → Hp → Prop) (hat : ∀ i acc h, I i acc h → sr.at h i = some vs[i]?)
    (step : ∀ i v acc h, vs[i]? = some v → I i acc h → wp (turn v acc h) (I (i + 1))) (fin : ∀ acc h, I vs.length acc h → Q acc h) :
    ∀ (n i : Nat) (acc : α) (h : Hp), I i acc h → i ≤ vs.length → vs.length < n + i → wp (compGo turn sr n i acc h) Q
  | 0, i, acc, h, hi, h1, h2 => by omega
  | n + 1, i, acc, h, hi, h1, h2 => by
    simp only [compGo, hat i acc h hi]
    cases e : vs[i]? with
    | none =>
      have : i = vs.length := by have := List.getElem?_eq_none_iff.mp e; omega
      subst this
      exact fin acc h hi
    | some v =>
      have := (List.getElem?_eq_some_iff.mp e).1
      exact wbind (wmono (step i v acc h e hi) fun acc2 h2 q => w_comp vs I hat step fin n (i + 1) acc2 h2 q (by omega) (by omega))
theorem w_for {bind : Val → St → Option St} {body : St → Hp → R (Fl × St)} {sr : Sr} {Q : Fl × St → Hp → Prop} (vs : List Val) (I : Nat → St → Hp → Prop) (hat : ∀ i st h, I i st h → sr.at h i = some vs[i]?)
    (step : ∀ i v st h, vs[i]? = some v → I i st h → ∃ st1, bind v st = some st1 ∧ wp (body st1 h) (loopQ (I (i + 1)) Q)) (fin : ∀ st h, I vs.length st h → Q (.next, st) h) :
    ∀ (n i : Nat) (st : St) (h : Hp), I i st h → i ≤ vs.length → vs.length < n + i → wp (forGo bind body sr n i st h) Q
  | 0, i, st, h, hi, h1, h2 => by omega
  | n + 1, i, st, h, hi, h1, h2 => by
    simp only [forGo, hat i st h hi]
    cases e : vs[i]? with
    | none =>
      have : i = vs.length := by have := List.getElem?_eq_none_iff.mp e; omega
      subst this
      exact fin st h hi
    | some v =>
      have := (List.getElem?_eq_some_iff.mp e).1
      obtain ⟨st1, e1, q⟩ := step i v st h e hi
      simp only [e1]
      refine wbind (wmono q fun r h2 q => ?_)
      obtain ⟨fl, st2⟩ := r
      unfold loopQ at q
      cases fl with
      | next => exact w_for vs I hat step fin n (i + 1) st2 h2 q (by omega) (by omega)
      | cnt => exact w_for vs I hat step fin n (i + 1) st2 h2 q (by omega) (by omega)
      | brk => exact q
      | ret x => exact q
theorem w_while {test : St → Hp → R Bool} {body : St → Hp → R (Fl × St)} {Q : Fl × St → Hp → Prop} (I : Nat → St → Hp → Prop)
    (step : ∀ m st h, I m st h → wp (test st h) fun b h1 => (b = true → wp (body st h1) (loopQ (fun st2 h2 => ∃ m', m' < m ∧ I m' st2 h2) Q)) ∧ (b = false → Q (.next, st) h1)) :
    ∀ (n m : Nat) (st : St) (h : Hp), I m st h → m < n → wp (whileGo test body n st h) Q
  | 0, m, st, h, hi, h1 => by omega
  | n + 1, m, st, h, hi, h1 => by
    simp only [whileGo]
    refine wbind (wmono (step m st h hi) fun b h1 ⟨q1, q2⟩ => ?_)
    cases b with
    | false => exact q2 rfl
    | true =>
      refine wbind (wmono (q1 rfl) fun r h2 q => ?_)
      obtain ⟨fl, st2⟩ := r
      unfold loopQ at q
      cases fl with
      | next => obtain ⟨m', hm, q⟩ := q; exact w_while I step n m' st2 h2 q (by omega)
      | cnt => obtain ⟨m', hm, q⟩ := q; exact w_while I step n m' st2 h2 q (by omega)
      | brk => exact q
      | ret x => exact q
section
variable {P : Pg} {F : Fn} {W : Nat} {st : St} {h : Hp}
theorem w_whl {c : E} {b : Ss} {Q : Fl × St → Hp → Prop} (I : Nat → St → Hp → Prop) (m : Nat) (hm : m < W) (h0 : I m st h)
    (step : ∀ m st h, I m st h → wevE P F c st h fun x h1 => ∃ t, x = .bl t ∧ (t = true → wevSs P F W b st h1 (loopQ (fun st2 h2 => ∃ m', m' < m ∧ I m' st2 h2) Q)) ∧ (t = false → Q (.next, st) h1)) : wevS P F W (.whl c b) st h Q := by
  (try simp only [wevE, wevEs, wevFs, wevDs, wevOe, wevIfs, wevIt, wevTg, wevS, wevSs, wF, wbinCall, waugCall, wsubCall, wslcCall, wattrCall, wnewCall, wbiCall, wbmCall, wsetCall, wsetAttr, wwalkOf] at *)
  simp only [evS]
  refine w_while I (fun m st h hi => ?_) W m st h h0 hm
  exact wbind (wmono (step m st h hi) fun x h1 ⟨t, e, q1, q2⟩ => by subst e; exact ⟨q1, q2⟩)
/-- for over values that no turn changes -/
theorem w_forV {p : Pat} {it : It} {b : Ss} {Q : Fl × St → Hp → Prop} (vs : List Val) (I : Nat → St → Hp → Prop)
    (hit : wevIt P F it st h fun w h1 => w.2 = none ∧ w.1.len h1 = vs.length ∧ I 0 st h1 ∧ ∀ i st h, I i st h → w.1.at h i = some vs[i]?)
    (step : ∀ i v st h, vs[i]? = some v → I i st h → ∃ st1, bindP p v st = some st1 ∧ wevSs P F W b st1 h (loopQ (I (i + 1)) Q)) (fin : ∀ st h, I vs.length st h → Q (.next, st) h) : wevS P F W (.for_ p it b) st h Q := by
  (try simp only [wevE, wevEs, wevFs, wevDs, wevOe, wevIfs, wevIt, wevTg, wevS, wevSs, wF, wbinCall, waugCall, wsubCall, wslcCall, wattrCall, wnewCall, wbiCall, wbmCall, wsetCall, wsetAttr, wwalkOf] at *)
  simp only [evS]
  refine wbind (wmono hit fun w h1 ⟨e1, e2, e3, e4⟩ => ?_)
  obtain ⟨sr, l⟩ := w
  simp only at e1 e2 e4
  subst e1
  refine wbind (wmono (w_for vs I e4 step fin _ 0 st h1 e3 (Nat.zero_le _) (by rw [e2]; omega)) fun r h q => q)
/-- a list comprehension over values that no turn changes, each giving at most one item -/
theorem w_lcV {own : List Nat} {p : Pat} {it : It} {ifs : Es} {elt : E} {Q : Val → Hp → Prop} (vs : List Val) (I : Nat → List Val → Hp → Prop)
    (hit : wevIt P F it st h fun w h1 => w.2 = none ∧ w.1.len h1 = vs.length ∧ I 0 [] h1 ∧ ∀ i acc h, I i acc h → w.1.at h i = some vs[i]?)
    (step : ∀ i v acc h, vs[i]? = some v → I i acc h → ∃ st1, bindP p v (wipe st own) = some st1 ∧ wevIfs P F ifs st1 h fun b h => (b = true → wevE P F elt st1 h fun x h => acc.length < LIM ∧ I (i + 1) (acc ++ [x]) h) ∧ (b = false → I (i + 1) acc h))
    (fin : ∀ acc h, I vs.length acc h → Q (.ref h.length) (h ++ [.list false acc])) : wevE P F (.lc own p it ifs elt) st h Q := by
  (try simp only [wevE, wevEs, wevFs, wevDs, wevOe, wevIfs, wevIt, wevTg, wevS, wevSs, wF, wbinCall, waugCall, wsubCall, wslcCall, wattrCall, wnewCall, wbiCall, wbmCall, wsetCall, wsetAttr, wwalkOf] at *)
  simp only [evE]
  refine wbind (wmono hit fun w h1 ⟨e1, e2, e3, e4⟩ => ?_)
  obtain ⟨sr, l⟩ := w
  simp only at e1 e2 e4
  subst e1
  refine wbind (wcalm (w_comp vs I e4 (fun i v acc h hv hi => ?_) fin _ 0 [] h1 e3 (Nat.zero_le _) (by rw [e2]; omega)))
  obtain ⟨st1, e, q⟩ := step i v acc h hv hi
  simp only [e]
  refine wbind (wmono q fun b h ⟨q1, q2⟩ => wite (fun t => wbind (wmono (q1 t) fun x h ⟨g, q⟩ => wguard (by simpa using g) q)) q2)
/-- a list comprehension without tests that writes nothing of h: the items told ahead -/
theorem w_lcMap {own : List Nat} {p : Pat} {it : It} {elt : E} {Q : Val → Hp → Prop} (vs us : List Val) (ws : List Nat) (hl : us.length = vs.length) (hm : vs.length ≤ LIM)
    (hit : wevIt P F it st h fun w h1 => w.2 = none ∧ w.1.len h1 = vs.length ∧ Kp ws h h1 ∧ ∀ (i : Nat) (h' : Hp), Kp ws h h' → w.1.at h' i = some vs[i]?)
    (step : ∀ (i : Nat) (v u : Val) (h' : Hp), vs[i]? = some v → us[i]? = some u → Kp ws h h' → ∃ st1, bindP p v (wipe st own) = some st1 ∧ wevE P F elt st1 h' fun x h'' => x = u ∧ Kp ws h' h'')
    (fin : ∀ h', Kp ws h h' → Q (.ref h'.length) (h' ++ [.list false us])) : wevE P F (.lc own p it .nil elt) st h Q := by
  refine w_lcV vs (fun i acc h' => Kp ws h h' ∧ acc = us.take i) ?_ ?_ ?_
  · unfold wevIt at hit ⊢
    exact wmono hit fun w h1 ⟨e1, e2, e3, e4⟩ => ⟨e1, e2, ⟨e3, rfl⟩, fun i acc h' ⟨k, _⟩ => e4 i h' k⟩
  · rintro i v acc h' hv ⟨k, rfl⟩
    have hi := (List.getElem?_eq_some_iff.mp hv).1
    have hu : us[i]? = some us[i] := List.getElem?_eq_getElem (by omega)
    obtain ⟨st1, e, q⟩ := step i v _ h' hv hu k
    refine ⟨st1, e, ?_⟩
    unfold wevIfs
    simp only [evIfs]
    refine ⟨fun _ => ?_, fun z => absurd z (by decide)⟩
    unfold wevE at q ⊢
    refine wmono q fun x h2 ⟨e1, k2⟩ => ⟨by rw [List.length_take]; omega, k.trans k2, ?_⟩
    rw [List.take_add_one, hu, e1]; rfl
  · rintro acc h' ⟨k, rfl⟩
    rw [← hl, List.take_length]
    exact fin h' k
theorem w_inil {Q : Bool → Hp → Prop} (q : Q true h) : wevIfs P F .nil st h Q := by
  (try simp only [wevE, wevEs, wevFs, wevDs, wevOe, wevIfs, wevIt, wevTg, wevS, wevSs, wF, wbinCall, waugCall, wsubCall, wslcCall, wattrCall, wnewCall, wbiCall, wbmCall, wsetCall, wsetAttr, wwalkOf] at *)
  simp only [evIfs]; exact q
theorem w_icons {b : Bool} {e : E} {es : Es} {Q : Bool → Hp → Prop} (q : wevE P F e st h fun x h => ∃ t, x = .bl t ∧ (t = true → wevIfs P F es st h Q) ∧ (t = false → Q false h)) : wevIfs P F (.cons b e es) st h Q := by
  (try simp only [wevE, wevEs, wevFs, wevDs, wevOe, wevIfs, wevIt, wevTg, wevS, wevSs, wF, wbinCall, waugCall, wsubCall, wslcCall, wattrCall, wnewCall, wbiCall, wbmCall, wsetCall, wsetAttr, wwalkOf] at *)
  simp only [evIfs]; refine wbind (wmono q fun x h ⟨t, e, q1, q2⟩ => ?_); subst e
  cases t with
  | true => exact q1 rfl
  | false => exact q2 rfl
theorem w_iex {e : E} {Q : Walk → Hp → Prop} (q : wevE P F e st h fun x h => wwalkOf x h Q) : wevIt P F (.ex e) st h Q := by
  (try simp only [wevE, wevEs, wevFs, wevDs, wevOe, wevIfs, wevIt, wevTg, wevS, wevSs, wF, wbinCall, waugCall, wsubCall, wslcCall, wattrCall, wnewCall, wbiCall, wbmCall, wsetCall, wsetAttr, wwalkOf] at *)
  simp only [evIt]; exact wbind q
theorem w_irange1 {e : E} {Q : Walk → Hp → Prop} (q : wevE P F e st h fun x h => ∃ j, x = .int j ∧ (decide (-(2 ^ 62) ≤ j) && decide (j < 2 ^ 62)) = true ∧ Q (.rng 0 j.toNat, none) h) : wevIt P F (.range1 e) st h Q := by
  (try simp only [wevE, wevEs, wevFs, wevDs, wevOe, wevIfs, wevIt, wevTg, wevS, wevSs, wF, wbinCall, waugCall, wsubCall, wslcCall, wattrCall, wnewCall, wbiCall, wbmCall, wsetCall, wsetAttr, wwalkOf] at *)
  simp only [evIt]; refine wbind (wmono q fun x h ⟨j, e, g, q⟩ => ?_); subst e; exact wguard g q
end
theorem w_lenS {s : Tx} {h : Hp} {Q : Val → Hp → Prop} (hl : s.length ≤ LIM) (q : Q (.int s.length) h) : wbiCall .len [.str s] h Q := by
  (try simp only [wevE, wevEs, wevFs, wevDs, wevOe, wevIfs, wevIt, wevTg, wevS, wevSs, wF, wbinCall, waugCall, wsubCall, wslcCall, wattrCall, wnewCall, wbiCall, wbmCall, wsetCall, wsetAttr, wwalkOf] at *)
  exact wguard (by simpa using hl) q
/-- the values of a range -/
def rngV (lo : Int) (n : Nat) : List Val := (List.range n).map fun i : Nat => .int (lo + (i : Int))
theorem rngV_len {lo : Int} {n : Nat} : (rngV lo n).length = n := by simp [rngV]
theorem rngV_at {lo : Int} {n : Nat} (h : Hp) (i : Nat) : (Sr.rng lo n).at h i = some (rngV lo n)[i]? := by
  simp only [Sr.at, rngV, List.getElem?_map, List.getElem?_range]
  split <;> rename_i hi
  · rw [List.getElem?_range hi]; rfl
  · rw [List.getElem?_eq_none (by simpa using hi)]; rfl
end Ev

/-! EvF: what built-in operations answer, by rules for a search -/
namespace Ev
section
variable {h : Hp} {Q : Val → Hp → Prop} {i j : Int} {s t : Tx} {a b : Nat}
theorem b_add (q : Q (.int (i + j)) h) : wbinCall .add (.int i) (.int j) h Q := by
  (try simp only [wevE, wevEs, wevFs, wevDs, wevOe, wevIfs, wevIt, wevTg, wevS, wevSs, wF, wbinCall, waugCall, wsubCall, wslcCall, wattrCall, wnewCall, wbiCall, wbmCall, wsetCall, wsetAttr, wwalkOf] at *)
  exact q
theorem b_sub (q : Q (.int (i - j)) h) : wbinCall .sub (.int i) (.int j) h Q := by
  (try simp only [wevE, wevEs, wevFs, wevDs, wevOe, wevIfs, wevIt, wevTg, wevS, wevSs, wF, wbinCall, waugCall, wsubCall, wslcCall, wattrCall, wnewCall, wbiCall, wbmCall, wsetCall, wsetAttr, wwalkOf] at *)
  exact q
theorem b_adds (g : s.length + t.length ≤ LIM) (q : Q (.str (s ++ t)) h) : wbinCall .add (.str s) (.str t) h Q := by
  (try simp only [wevE, wevEs, wevFs, wevDs, wevOe, wevIfs, wevIt, wevTg, wevS, wevSs, wF, wbinCall, waugCall, wsubCall, wslcCall, wattrCall, wnewCall, wbiCall, wbmCall, wsetCall, wsetAttr, wwalkOf] at *)
  exact wguard (by simpa using g) q
theorem b_mulc (hj : mulOk i j = true) (q : Q (.int (i * j)) h) : wbinCall .mul (.int i) (.int j) h Q := by
  (try simp only [wevE, wevEs, wevFs, wevDs, wevOe, wevIfs, wevIt, wevTg, wevS, wevSs, wF, wbinCall, waugCall, wsubCall, wslcCall, wattrCall, wnewCall, wbiCall, wbmCall, wsetCall, wsetAttr, wwalkOf] at *)
  exact wguard hj q
theorem b_mod (hj : 0 < j) (q : Q (.int (i % j)) h) : wbinCall .mod (.int i) (.int j) h Q := by
  (try simp only [wevE, wevEs, wevFs, wevDs, wevOe, wevIfs, wevIt, wevTg, wevS, wevSs, wF, wbinCall, waugCall, wsubCall, wslcCall, wattrCall, wnewCall, wbiCall, wbmCall, wsetCall, wsetAttr, wwalkOf] at *)
  exact wguard (by simpa using hj) q
theorem b_fdiv (hj : 0 < j) (hk : j < 1073741824) (q : Q (.int (i / j)) h) : wbinCall .fdiv (.int i) (.int j) h Q := by
  (try simp only [wevE, wevEs, wevFs, wevDs, wevOe, wevIfs, wevIt, wevTg, wevS, wevSs, wF, wbinCall, waugCall, wsubCall, wslcCall, wattrCall, wnewCall, wbiCall, wbmCall, wsetCall, wsetAttr, wwalkOf] at *)
  exact wguard (by simp [hj, hk]) q
theorem b_pow (g : (decide (0 ≤ j) && decide (j ≤ 1000000) && decide (i.natAbs < 2 ^ 64)) = true) (q : Q (.int (i ^ j.toNat)) h) : wbinCall .pow (.int i) (.int j) h Q := by
  unfold wbinCall
  exact wguard g q
theorem b_addl {vs ws : List Val} (ha : h[a]? = some (.list false vs)) (hb : h[b]? = some (.list false ws)) (g : vs.length + ws.length ≤ LIM) (q : Q (.ref h.length) (h ++ [.list false (vs ++ ws)])) : wbinCall .add (.ref a) (.ref b) h Q := by
  (try simp only [wevE, wevEs, wevFs, wevDs, wevOe, wevIfs, wevIt, wevTg, wevS, wevSs, wF, wbinCall, waugCall, wsubCall, wslcCall, wattrCall, wnewCall, wbiCall, wbmCall, wsetCall, wsetAttr, wwalkOf] at *)
  simp only [binCall, ha, hb]; exact wguard (by simpa using g) q
theorem mulOk_r (h1 : -(2 ^ 64) < j) (h2 : j < 2 ^ 64) : mulOk i j = true := by
  have e1 : decide (-(2 ^ 64) < j) = true := decide_eq_true h1
  have e2 : decide (j < 2 ^ 64) = true := decide_eq_true h2
  unfold mulOk; rw [e1, e2]; simp
theorem mulOk_l (h1 : -(2 ^ 64) < i) (h2 : i < 2 ^ 64) : mulOk i j = true := by
  have e1 : decide (-(2 ^ 64) < i) = true := decide_eq_true h1
  have e2 : decide (i < 2 ^ 64) = true := decide_eq_true h2
  unfold mulOk; rw [e1, e2]; simp
theorem a_add (q : Q (.int (i + j)) h) : waugCall .add (.int i) (.int j) h Q := by
  (try simp only [wevE, wevEs, wevFs, wevDs, wevOe, wevIfs, wevIt, wevTg, wevS, wevSs, wF, wbinCall, waugCall, wsubCall, wslcCall, wattrCall, wnewCall, wbiCall, wbmCall, wsetCall, wsetAttr, wwalkOf] at *)
  exact q
theorem a_sub (q : Q (.int (i - j)) h) : waugCall .sub (.int i) (.int j) h Q := by
  (try simp only [wevE, wevEs, wevFs, wevDs, wevOe, wevIfs, wevIt, wevTg, wevS, wevSs, wF, wbinCall, waugCall, wsubCall, wslcCall, wattrCall, wnewCall, wbiCall, wbmCall, wsetCall, wsetAttr, wwalkOf] at *)
  exact q
theorem c_lt : cmpCall .lt (.int i) (.int j) h = some (decide (i < j)) := rfl
theorem c_le : cmpCall .le (.int i) (.int j) h = some (decide (i ≤ j)) := rfl
theorem c_gt : cmpCall .gt (.int i) (.int j) h = some (decide (j < i)) := rfl
theorem c_ge : cmpCall .ge (.int i) (.int j) h = some (decide (j ≤ i)) := rfl
theorem c_eqs : cmpCall .eq (.str s) (.str t) h = some (s == t) := rfl
theorem c_nes : cmpCall .ne (.str s) (.str t) h = some (!(s == t)) := rfl
theorem c_eqi : cmpCall .eq (.int i) (.int j) h = some (i == j) := rfl
theorem c_nei : cmpCall .ne (.int i) (.int j) h = some (!(i == j)) := rfl
theorem c_eqb {x y : Bool} : cmpCall .eq (.bl x) (.bl y) h = some (x == y) := rfl
theorem c_neb {x y : Bool} : cmpCall .ne (.bl x) (.bl y) h = some (!(x == y)) := rfl
theorem c_isn {x : Val} : cmpCall .is x .non h = some (isNon x) := rfl
theorem c_isnn {x : Val} : cmpCall .isnot x .non h = some (!isNon x) := rfl
theorem c_inT {x : Val} {vs : List Val} (g : (isScal x && vs.all isScal) = true) : cmpCall .in_ x (.tup vs) h = some (vs.any fun y => eqS y x) := by
  simp only [cmpCall]
  unfold inCall
  split
  · rename_i h1 h2; cases h2
  · rename_i h1 h2; cases h2; unfold memS; rw [if_pos g]
  · rename_i h1 h2; cases h2
  · rename_i h1 h2 h3 h4; first | exact (h2 _ rfl).elim | exact (h3 _ rfl).elim | exact (h4 _ rfl).elim
theorem c_ninT {x : Val} {vs : List Val} (g : (isScal x && vs.all isScal) = true) : cmpCall .notin x (.tup vs) h = some (!(vs.any fun y => eqS y x)) := by
  have := c_inT (h := h) g
  simp only [cmpCall] at this ⊢
  rw [this]; rfl
theorem c_inS {c : Nat} : cmpCall .in_ (.str [c]) (.str t) h = some (t.contains c) := rfl
theorem inRef {x : Val} : inCall x (.ref a) h = match h[a]? with
    | some (.list _ vs) => memS x vs
    | some (.dict _ kvs) => if isKey x then some (look kvs x).isSome else none
    | _ => none := by
  unfold inCall
  split
  · rename_i h1 h2; cases h2
  · rename_i h1 h2; cases h2
  · rename_i h1 h2; cases h2; rfl
  · rename_i h1 h2 h3 h4; first | exact (h2 _ rfl).elim | exact (h3 _ rfl).elim | exact (h4 _ rfl).elim
theorem c_inD {x : Val} {fr : Bool} {kvs : List (Val × Val)} (e : h[a]? = some (.dict fr kvs)) (g : isKey x = true) : cmpCall .in_ x (.ref a) h = some (look kvs x).isSome := by
  simp only [cmpCall]; rw [inRef, e]; simp only [g, if_true]
theorem c_ninD {x : Val} {fr : Bool} {kvs : List (Val × Val)} (e : h[a]? = some (.dict fr kvs)) (g : isKey x = true) : cmpCall .notin x (.ref a) h = some (!(look kvs x).isSome) := by
  simp only [cmpCall]; rw [inRef, e]; simp only [g, if_true]; rfl
theorem c_inL {x : Val} {fr : Bool} {vs : List Val} (e : h[a]? = some (.list fr vs)) (g : (isScal x && vs.all isScal) = true) : cmpCall .in_ x (.ref a) h = some (vs.any fun y => eqS y x) := by
  simp only [cmpCall]; rw [inRef, e]; simp only [memS, g, if_true]
theorem c_ninL {x : Val} {fr : Bool} {vs : List Val} (e : h[a]? = some (.list fr vs)) (g : (isScal x && vs.all isScal) = true) : cmpCall .notin x (.ref a) h = some (!(vs.any fun y => eqS y x)) := by
  simp only [cmpCall]; rw [inRef, e]; simp only [memS, g, if_true]; rfl
/-! subscripts -/
theorem s_t0 {x : Val} {r : List Val} (q : Q x h) : wsubCall (.tup (x :: r)) (.int 0) h Q := by
  (try simp only [wevE, wevEs, wevFs, wevDs, wevOe, wevIfs, wevIt, wevTg, wevS, wevSs, wF, wbinCall, waugCall, wsubCall, wslcCall, wattrCall, wnewCall, wbiCall, wbmCall, wsetCall, wsetAttr, wwalkOf] at *)
  have e : ixOf (x :: r).length 0 = some 0 := by unfold ixOf; simp
  simp only [subCall, e]; exact q
theorem s_t1 {x y : Val} {r : List Val} (q : Q y h) : wsubCall (.tup (x :: y :: r)) (.int 1) h Q := by
  (try simp only [wevE, wevEs, wevFs, wevDs, wevOe, wevIfs, wevIt, wevTg, wevS, wevSs, wF, wbinCall, waugCall, wsubCall, wslcCall, wattrCall, wnewCall, wbiCall, wbmCall, wsetCall, wsetAttr, wwalkOf] at *)
  have e : ixOf (x :: y :: r).length 1 = some 1 := by unfold ixOf; simp; omega
  simp only [subCall, e]; exact q
theorem s_t2 {x y z : Val} {r : List Val} (q : Q z h) : wsubCall (.tup (x :: y :: z :: r)) (.int 2) h Q := by
  (try simp only [wevE, wevEs, wevFs, wevDs, wevOe, wevIfs, wevIt, wevTg, wevS, wevSs, wF, wbinCall, waugCall, wsubCall, wslcCall, wattrCall, wnewCall, wbiCall, wbmCall, wsetCall, wsetAttr, wwalkOf] at *)
  have e : ixOf (x :: y :: z :: r).length 2 = some 2 := by unfold ixOf; simp; omega
  simp only [subCall, e]; exact q
theorem ixOf_nat {n k : Nat} (g : k < n) : ixOf n (k : Int) = some k := by
  unfold ixOf; rw [if_pos (by omega), if_pos (by omega)]; simp
theorem s_tn {vs : List Val} {x : Val} {k : Nat} (e : vs[k]? = some x) (q : Q x h) : wsubCall (.tup vs) (.int (k : Int)) h Q := by
  (try simp only [wevE, wevEs, wevFs, wevDs, wevOe, wevIfs, wevIt, wevTg, wevS, wevSs, wF, wbinCall, waugCall, wsubCall, wslcCall, wattrCall, wnewCall, wbiCall, wbmCall, wsetCall, wsetAttr, wwalkOf] at *)
  simp only [subCall, ixOf_nat (List.getElem?_eq_some_iff.mp e).1, e]; exact q
theorem s_ln {fr : Bool} {vs : List Val} {x : Val} {k : Nat} (ha : h[a]? = some (.list fr vs)) (e : vs[k]? = some x) (q : Q x h) : wsubCall (.ref a) (.int (k : Int)) h Q := by
  (try simp only [wevE, wevEs, wevFs, wevDs, wevOe, wevIfs, wevIt, wevTg, wevS, wevSs, wF, wbinCall, waugCall, wsubCall, wslcCall, wattrCall, wnewCall, wbiCall, wbmCall, wsetCall, wsetAttr, wwalkOf] at *)
  simp only [subCall, ha, ixOf_nat (List.getElem?_eq_some_iff.mp e).1, e]; exact q
theorem s_ll {fr : Bool} {vs : List Val} {x : Val} (ha : h[a]? = some (.list fr (vs ++ [x]))) (q : Q x h) : wsubCall (.ref a) (.int (-1)) h Q := by
  (try simp only [wevE, wevEs, wevFs, wevDs, wevOe, wevIfs, wevIt, wevTg, wevS, wevSs, wF, wbinCall, waugCall, wsubCall, wslcCall, wattrCall, wnewCall, wbiCall, wbmCall, wsetCall, wsetAttr, wwalkOf] at *)
  have e : ixOf (vs ++ [x]).length (-1) = some vs.length := by unfold ixOf; simp; omega
  simp only [subCall, ha, e]; simp [R.some]; exact q
theorem s_sn {c k : Nat} (g : s.length ≤ LIM) (e : s[k]? = some c) (q : Q (.str [c]) h) : wsubCall (.str s) (.int (k : Int)) h Q := by
  (try simp only [wevE, wevEs, wevFs, wevDs, wevOe, wevIfs, wevIt, wevTg, wevS, wevSs, wF, wbinCall, waugCall, wsubCall, wslcCall, wattrCall, wnewCall, wbiCall, wbmCall, wsetCall, wsetAttr, wwalkOf] at *)
  simp only [subCall, ixOf_nat (List.getElem?_eq_some_iff.mp e).1, e]; exact wguard (by simpa using g) q
theorem s_dk {fr : Bool} {kvs : List (Val × Val)} {k x : Val} (ha : h[a]? = some (.dict fr kvs)) (g : isKey k = true) (e : look kvs k = some x) (q : Q x h) : wsubCall (.ref a) k h Q := by
  (try simp only [wevE, wevEs, wevFs, wevDs, wevOe, wevIfs, wevIt, wevTg, wevS, wevSs, wF, wbinCall, waugCall, wsubCall, wslcCall, wattrCall, wnewCall, wbiCall, wbmCall, wsetCall, wsetAttr, wwalkOf] at *)
  simp only [subCall, ha, e]; exact wguard g q
theorem l_lenL {fr : Bool} {vs : List Val} (ha : h[a]? = some (.list fr vs)) (q : Q (.int vs.length) h) : wbiCall .len [.ref a] h Q := by
  (try simp only [wevE, wevEs, wevFs, wevDs, wevOe, wevIfs, wevIt, wevTg, wevS, wevSs, wF, wbinCall, waugCall, wsubCall, wslcCall, wattrCall, wnewCall, wbiCall, wbmCall, wsetCall, wsetAttr, wwalkOf] at *)
  simp only [biCall, ha]; exact q
theorem l_lenD {kvs : List (Val × Val)} (ha : h[a]? = some (.dict false kvs)) (q : Q (.int kvs.length) h) : wbiCall .len [.ref a] h Q := by
  (try simp only [wevE, wevEs, wevFs, wevDs, wevOe, wevIfs, wevIt, wevTg, wevS, wevSs, wF, wbinCall, waugCall, wsubCall, wslcCall, wattrCall, wnewCall, wbiCall, wbmCall, wsetCall, wsetAttr, wwalkOf] at *)
  simp only [biCall, ha]; exact q
theorem l_lenT {vs : List Val} (q : Q (.int vs.length) h) : wbiCall .len [.tup vs] h Q := by
  (try simp only [wevE, wevEs, wevFs, wevDs, wevOe, wevIfs, wevIt, wevTg, wevS, wevSs, wF, wbinCall, waugCall, wsubCall, wslcCall, wattrCall, wnewCall, wbiCall, wbmCall, wsetCall, wsetAttr, wwalkOf] at *)
  exact q
theorem l_inti (q : Q (.int i) h) : wbiCall .int [.int i] h Q := by
  (try simp only [wevE, wevEs, wevFs, wevDs, wevOe, wevIfs, wevIt, wevTg, wevS, wevSs, wF, wbinCall, waugCall, wsubCall, wslcCall, wattrCall, wnewCall, wbiCall, wbmCall, wsetCall, wsetAttr, wwalkOf] at *)
  exact q
theorem l_intb {b : Bool} (q : Q (.int (if b then 1 else 0)) h) : wbiCall .int [.bl b] h Q := by
  (try simp only [wevE, wevEs, wevFs, wevDs, wevOe, wevIfs, wevIt, wevTg, wevS, wevSs, wF, wbinCall, waugCall, wsubCall, wslcCall, wattrCall, wnewCall, wbiCall, wbmCall, wsetCall, wsetAttr, wwalkOf] at *)
  exact q
theorem l_abs (q : Q (.int (if i < 0 then -i else i)) h) : wbiCall .abs [.int i] h Q := by
  (try simp only [wevE, wevEs, wevFs, wevDs, wevOe, wevIfs, wevIt, wevTg, wevS, wevSs, wF, wbinCall, waugCall, wsubCall, wslcCall, wattrCall, wnewCall, wbiCall, wbmCall, wsetCall, wsetAttr, wwalkOf] at *)
  exact q
theorem l_max2 (q : Q (.int (if j > i then j else i)) h) : wbiCall .max [.int i, .int j] h Q := by
  (try simp only [wevE, wevEs, wevFs, wevDs, wevOe, wevIfs, wevIt, wevTg, wevS, wevSs, wF, wbinCall, waugCall, wsubCall, wslcCall, wattrCall, wnewCall, wbiCall, wbmCall, wsetCall, wsetAttr, wwalkOf] at *)
  exact q
theorem l_min2 (q : Q (.int (if j < i then j else i)) h) : wbiCall .min [.int i, .int j] h Q := by
  (try simp only [wevE, wevEs, wevFs, wevDs, wevOe, wevIfs, wevIt, wevTg, wevS, wevSs, wF, wbinCall, waugCall, wsubCall, wslcCall, wattrCall, wnewCall, wbiCall, wbmCall, wsetCall, wsetAttr, wwalkOf] at *)
  exact q
theorem l_stri (g : i.natAbs.log2 < 1920) (q : Q (.str (decTx i)) h) : wbiCall .str [.int i] h Q := by
  (try simp only [wevE, wevEs, wevFs, wevDs, wevOe, wevIfs, wevIt, wevTg, wevS, wevSs, wF, wbinCall, waugCall, wsubCall, wslcCall, wattrCall, wnewCall, wbiCall, wbmCall, wsetCall, wsetAttr, wwalkOf] at *)
  exact wguard (by simpa using g) q
theorem l_ints {i : Int} (e : intOf s = some i) (q : Q (.int i) h) : wbiCall .int [.str s] h Q := by
  unfold wbiCall
  simp only [biCall, e]; exact q
theorem l_strs (q : Q (.str s) h) : wbiCall .str [.str s] h Q := by
  (try simp only [wevE, wevEs, wevFs, wevDs, wevOe, wevIfs, wevIt, wevTg, wevS, wevSs, wF, wbinCall, waugCall, wsubCall, wslcCall, wattrCall, wnewCall, wbiCall, wbmCall, wsetCall, wsetAttr, wwalkOf] at *)
  exact q
theorem l_tupL {fr : Bool} {vs : List Val} (ha : h[a]? = some (.list fr vs)) (q : Q (.tup vs) h) : wbiCall .tuple [.ref a] h Q := by
  (try simp only [wevE, wevEs, wevFs, wevDs, wevOe, wevIfs, wevIt, wevTg, wevS, wevSs, wF, wbinCall, waugCall, wsubCall, wslcCall, wattrCall, wnewCall, wbiCall, wbmCall, wsetCall, wsetAttr, wwalkOf] at *)
  simp only [biCall, ha]; exact q
theorem l_tupT {vs : List Val} (q : Q (.tup vs) h) : wbiCall .tuple [.tup vs] h Q := by
  (try simp only [wevE, wevEs, wevFs, wevDs, wevOe, wevIfs, wevIt, wevTg, wevS, wevSs, wF, wbinCall, waugCall, wsubCall, wslcCall, wattrCall, wnewCall, wbiCall, wbmCall, wsetCall, wsetAttr, wwalkOf] at *)
  exact q
theorem l_listL {fr : Bool} {vs : List Val} (ha : h[a]? = some (.list fr vs)) (q : Q (.ref h.length) (h ++ [.list false vs])) : wbiCall .list [.ref a] h Q := by
  (try simp only [wevE, wevEs, wevFs, wevDs, wevOe, wevIfs, wevIt, wevTg, wevS, wevSs, wF, wbinCall, waugCall, wsubCall, wslcCall, wattrCall, wnewCall, wbiCall, wbmCall, wsetCall, wsetAttr, wwalkOf] at *)
  simp only [biCall, ha]; exact q
theorem l_listT {vs : List Val} (q : Q (.ref h.length) (h ++ [.list false vs])) : wbiCall .list [.tup vs] h Q := by
  (try simp only [wevE, wevEs, wevFs, wevDs, wevOe, wevIfs, wevIt, wevTg, wevS, wevSs, wF, wbinCall, waugCall, wsubCall, wslcCall, wattrCall, wnewCall, wbiCall, wbmCall, wsetCall, wsetAttr, wwalkOf] at *)
  exact q
theorem l_dictL {fr : Bool} {vs : List Val} {kvs : List (Val × Val)} (ha : h[a]? = some (.list fr vs)) (e : pairsOf vs = some kvs) (q : Q (.ref h.length) (h ++ [.dict false (putAll [] kvs)])) : wbiCall .dict [.ref a] h Q := by
  unfold wbiCall; simp only [biCall, ha, e]; exact q
theorem l_all {fr : Bool} {vs : List Val} {bs : List Bool} (ha : h[a]? = some (.list fr vs)) (e : allBl vs = some bs) (q : Q (.bl (bs.all id)) h) : wbiCall .all [.ref a] h Q := by
  (try simp only [wevE, wevEs, wevFs, wevDs, wevOe, wevIfs, wevIt, wevTg, wevS, wevSs, wF, wbinCall, waugCall, wsubCall, wslcCall, wattrCall, wnewCall, wbiCall, wbmCall, wsetCall, wsetAttr, wwalkOf] at *)
  simp only [biCall, ha, e]; exact q
theorem l_any {fr : Bool} {vs : List Val} {bs : List Bool} (ha : h[a]? = some (.list fr vs)) (e : allBl vs = some bs) (q : Q (.bl (bs.any id)) h) : wbiCall .any [.ref a] h Q := by
  (try simp only [wevE, wevEs, wevFs, wevDs, wevOe, wevIfs, wevIt, wevTg, wevS, wevSs, wF, wbinCall, waugCall, wsubCall, wslcCall, wattrCall, wnewCall, wbiCall, wbmCall, wsetCall, wsetAttr, wwalkOf] at *)
  simp only [biCall, ha, e]; exact q
theorem cut_tl {α : Type} (x : α) (r : List α) : cut (x :: r) (some 1) none = r := by
  unfold cut bdOf
  simp
theorem w_slcT1 {x : Val} {r : List Val} (q : Q (.tup r) h) : wslcCall (.tup (x :: r)) (some 1) none h Q := by
  unfold wslcCall
  show wp (R.ok (.tup (cut (x :: r) (some 1) none)) h) Q
  rw [cut_tl]
  exact q
theorem w_slcL1 {fr : Bool} {x : Val} {r : List Val} (ha : h[a]? = some (.list fr (x :: r))) (q : Q (.ref h.length) (h ++ [.list false r])) : wslcCall (.ref a) (some 1) none h Q := by
  unfold wslcCall
  simp only [slcCall, ha]
  rw [cut_tl]
  exact q
theorem g_tup {vs : List Val} {Q : Walk → Hp → Prop} (q : Q (.vals vs, none) h) : wwalkOf (.tup vs) h Q := by
  unfold wwalkOf; exact q
theorem g_str {Q : Walk → Hp → Prop} (q : Q (.vals (s.map fun c => .str [c]), none) h) : wwalkOf (.str s) h Q := by
  unfold wwalkOf; exact q
theorem g_lst {fr : Bool} {vs : List Val} {Q : Walk → Hp → Prop} (ha : h[a]? = some (.list fr vs)) (q : Q (.lst a, none) h) : wwalkOf (.ref a) h Q := by
  unfold wwalkOf; simp only [walkOf, ha]; exact q
theorem m_getD {kvs : List (Val × Val)} {k d : Val} (ha : h[a]? = some (.dict false kvs)) (g : isKey k = true) (q : Q ((look kvs k).getD d) h) : wbmCall .get (.ref a) [k, d] h Q := by
  unfold wbmCall; simp only [bmCall, ha]; exact wguard g q
/-! methods -/
theorem m_append {vs : List Val} {v : Val} (ha : h[a]? = some (.list false vs)) (g : vs.length < LIM) (q : Q .non (h.set a (.list false (vs ++ [v])))) : wbmCall .append (.ref a) [v] h Q := by
  (try simp only [wevE, wevEs, wevFs, wevDs, wevOe, wevIfs, wevIt, wevTg, wevS, wevSs, wF, wbinCall, waugCall, wsubCall, wslcCall, wattrCall, wnewCall, wbiCall, wbmCall, wsetCall, wsetAttr, wwalkOf] at *)
  simp only [bmCall, ha]; exact wguard (by simpa using g) q
theorem m_pop {vs : List Val} {v : Val} (ha : h[a]? = some (.list false (vs ++ [v]))) (q : Q v (h.set a (.list false vs))) : wbmCall .pop (.ref a) [] h Q := by
  (try simp only [wevE, wevEs, wevFs, wevDs, wevOe, wevIfs, wevIt, wevTg, wevS, wevSs, wF, wbinCall, waugCall, wsubCall, wslcCall, wattrCall, wnewCall, wbiCall, wbmCall, wsetCall, wsetAttr, wwalkOf] at *)
  simp only [bmCall, ha, List.getLast?_append, List.getLast?_singleton, List.dropLast_concat]; exact q
theorem m_popi {vs : List Val} {v : Val} {k : Nat} (ha : h[a]? = some (.list false vs)) (e : vs[k]? = some v) (g : vs.length ≤ LIM) (q : Q v (h.set a (.list false (vs.eraseIdx k)))) : wbmCall .pop (.ref a) [.int (k : Int)] h Q := by
  (try simp only [wevE, wevEs, wevFs, wevDs, wevOe, wevIfs, wevIt, wevTg, wevS, wevSs, wF, wbinCall, waugCall, wsubCall, wslcCall, wattrCall, wnewCall, wbiCall, wbmCall, wsetCall, wsetAttr, wwalkOf] at *)
  simp only [bmCall, ha, ixOf_nat (List.getElem?_eq_some_iff.mp e).1, e]; exact wguard (by simpa using g) q
theorem m_joinL {vs : List Val} {ss : List Tx} (ha : h[a]? = some (.list false vs)) (e : allStr vs = some ss) (g : sumLen ss + s.length * ss.length ≤ LIM) (q : Q (.str (joinTx s ss)) h) : wbmCall .join (.str s) [.ref a] h Q := by
  (try simp only [wevE, wevEs, wevFs, wevDs, wevOe, wevIfs, wevIt, wevTg, wevS, wevSs, wF, wbinCall, waugCall, wsubCall, wslcCall, wattrCall, wnewCall, wbiCall, wbmCall, wsetCall, wsetAttr, wwalkOf] at *)
  simp only [bmCall, seqOf, ha, e]; exact wguard (by simpa using g) q
theorem p_list {m : Bm} {fr : Bool} {vs : List Val} (ha : h[a]? = some (.list fr vs)) (g : bmOk m 0 = true) : bmPre m (.ref a) h = true := by
  simp only [bmPre, bmKind, ha]; exact g
theorem p_dict {m : Bm} {kvs : List (Val × Val)} (ha : h[a]? = some (.dict false kvs)) (g : bmOk m 1 = true) : bmPre m (.ref a) h = true := by
  simp only [bmPre, bmKind, ha]; exact g
theorem m_partS {c : Nat} {p l r : Tx} (g : s.length ≤ LIM) (e : cutAt (c :: p) s = some (l, r)) (q : Q (.tup [.str l, .str (c :: p), .str r]) h) : wbmCall .partition (.str s) [.str (c :: p)] h Q := by
  unfold wbmCall; simp only [bmCall, e]; exact wguard (by simpa using g) q
theorem m_partN {c : Nat} {p : Tx} (g : s.length ≤ LIM) (e : cutAt (c :: p) s = none) (q : Q (.tup [.str s, .str [], .str []]) h) : wbmCall .partition (.str s) [.str (c :: p)] h Q := by
  unfold wbmCall; simp only [bmCall, e]; exact wguard (by simpa using g) q
theorem m_strip {t : Tx} (e : stripTab s = some t) (q : Q (.str t) h) : wbmCall .strip (.str s) [.str [32]] h Q := by
  unfold wbmCall; simp only [bmCall, e]; exact q
/-! stores -/
theorem t_list {vs : List Val} {v : Val} {k : Nat} {Q : Unit → Hp → Prop} (ha : h[a]? = some (.list false vs)) (g : k < vs.length) (q : Q () (h.set a (.list false (vs.set k v)))) : wsetCall (.ref a) (.int (k : Int)) v h Q := by
  (try simp only [wevE, wevEs, wevFs, wevDs, wevOe, wevIfs, wevIt, wevTg, wevS, wevSs, wF, wbinCall, waugCall, wsubCall, wslcCall, wattrCall, wnewCall, wbiCall, wbmCall, wsetCall, wsetAttr, wwalkOf] at *)
  simp only [setCall, ha, ixOf_nat g]; exact q
theorem t_dict {kvs : List (Val × Val)} {k v : Val} {Q : Unit → Hp → Prop} (ha : h[a]? = some (.dict false kvs)) (g : (isKey k && decide (kvs.length < LIM)) = true) (q : Q () (h.set a (.dict false (put kvs k v)))) : wsetCall (.ref a) k v h Q := by
  (try simp only [wevE, wevEs, wevFs, wevDs, wevOe, wevIfs, wevIt, wevTg, wevS, wevSs, wF, wbinCall, waugCall, wsubCall, wslcCall, wattrCall, wnewCall, wbiCall, wbmCall, wsetCall, wsetAttr, wwalkOf] at *)
  simp only [setCall, ha]; exact wguard g q
end
end Ev

/-! EvR: loops over ranges and lists -/
namespace Ev
section
variable {P : Pg} {F : Fn} {W : Nat} {st : St} {h : Hp}
theorem rngV_get {n i : Nat} {v : Val} (e : (rngV 0 n)[i]? = some v) : i < n ∧ v = .int (i : Int) := by
  have hi : i < n := by have := (List.getElem?_eq_some_iff.mp e).1; rwa [rngV_len] at this
  have := rngV_at (lo := 0) (n := n) [] i
  rw [e] at this
  simp only [Sr.at, hi, if_true, Option.some.injEq] at this
  exact ⟨hi, by rw [← this, Int.zero_add]⟩
/-- for i in range(n) -/
theorem w_forR {p : Pat} {e : E} {b : Ss} {Q : Fl × St → Hp → Prop} (n : Nat) (hn : n < 1000000) (I : Nat → St → Hp → Prop) (he : wevE P F e st h fun x h1 => x = .int (n : Int) ∧ I 0 st h1)
    (step : ∀ i st h, i < n → I i st h → ∃ st1, bindP p (.int (i : Int)) st = some st1 ∧ wevSs P F W b st1 h (loopQ (I (i + 1)) Q)) (fin : ∀ st h, I n st h → Q (.next, st) h) : wevS P F W (.for_ p (.range1 e) b) st h Q := by
  refine w_forV (rngV 0 n) I ?_ ?_ ?_
  · refine w_irange1 ?_
    unfold wevE at he ⊢
    refine wmono he fun x h1 ⟨e1, hI⟩ => ⟨n, e1, ?_, rfl, ?_, hI, fun i st h _ => ?_⟩
    · simp only [Bool.and_eq_true, decide_eq_true_eq]; omega
    · rw [rngV_len]; simp [Sr.len]
    · exact rngV_at h i
  · intro i v st h hv hI
    obtain ⟨hi, rfl⟩ := rngV_get hv
    exact step i st h hi hI
  · intro st h hI
    rw [rngV_len] at hI
    exact fin st h hI
/-- for x in a list that no turn changes -/
theorem w_forL {p : Pat} {e : E} {b : Ss} {Q : Fl × St → Hp → Prop} (vs : List Val) (I : Nat → St → Hp → Prop) (he : wevE P F e st h fun x h1 => ∃ a, x = .ref a ∧ I 0 st h1 ∧ ∀ i st h, I i st h → ∃ fr, h[a]? = some (.list fr vs))
    (step : ∀ i v st h, vs[i]? = some v → I i st h → ∃ st1, bindP p v st = some st1 ∧ wevSs P F W b st1 h (loopQ (I (i + 1)) Q)) (fin : ∀ st h, I vs.length st h → Q (.next, st) h) : wevS P F W (.for_ p (.ex e) b) st h Q := by
  refine w_forV vs I ?_ step fin
  refine w_iex ?_
  unfold wevE at he ⊢
  refine wmono he fun x h1 ⟨a, e1, hI, hL⟩ => ?_
  subst e1
  obtain ⟨fr, ha⟩ := hL 0 st h1 hI
  refine g_lst ha ⟨rfl, by simp only [Sr.len, ha], hI, fun i st h hI => ?_⟩
  obtain ⟨fr, ha⟩ := hL i st h hI
  simp only [Sr.at, ha]
/-- a comprehension over a list that no turn changes -/
theorem w_lcL {own : List Nat} {p : Pat} {e : E} {ifs : Es} {elt : E} {Q : Val → Hp → Prop} (vs : List Val) (I : Nat → List Val → Hp → Prop) (he : wevE P F e st h fun x h1 => ∃ a, x = .ref a ∧ I 0 [] h1 ∧ ∀ i acc h, I i acc h → ∃ fr, h[a]? = some (.list fr vs))
    (step : ∀ i v acc h, vs[i]? = some v → I i acc h → ∃ st1, bindP p v (wipe st own) = some st1 ∧ wevIfs P F ifs st1 h fun b h => (b = true → wevE P F elt st1 h fun x h => acc.length < LIM ∧ I (i + 1) (acc ++ [x]) h) ∧ (b = false → I (i + 1) acc h))
    (fin : ∀ acc h, I vs.length acc h → Q (.ref h.length) (h ++ [.list false acc])) : wevE P F (.lc own p (.ex e) ifs elt) st h Q := by
  refine w_lcV vs I ?_ step fin
  refine w_iex ?_
  unfold wevE at he ⊢
  refine wmono he fun x h1 ⟨a, e1, hI, hL⟩ => ?_
  subst e1
  obtain ⟨fr, ha⟩ := hL 0 [] h1 hI
  refine g_lst ha ⟨rfl, by simp only [Sr.len, ha], hI, fun i st h hI => ?_⟩
  obtain ⟨fr, ha⟩ := hL i st h hI
  simp only [Sr.at, ha]
end
theorem count_ex (m n : Nat) : ∃ k : Nat, k ≤ max 1 m ∧ (if (if (n : Int) < (m : Int) then (n : Int) else (m : Int)) > 1 then (if (n : Int) < (m : Int) then (n : Int) else (m : Int)) else 1) = (k : Int) := by
  by_cases h1 : (n : Int) < (m : Int)
  · rw [if_pos h1]
    by_cases h2 : (n : Int) > 1
    · exact ⟨n, by omega, by rw [if_pos h2]⟩
    · exact ⟨1, by omega, by rw [if_neg h2]; rfl⟩
  · rw [if_neg h1]
    by_cases h2 : (m : Int) > 1
    · exact ⟨m, by omega, by rw [if_pos h2]⟩
    · exact ⟨1, by omega, by rw [if_neg h2]; rfl⟩
end Ev

set_option maxRecDepth 100000
namespace Ev.Pr
open Ev
def d_is_integer : Df := ⟨1, 1,
  (.cons (.ret (.and (.isi (.var 0) [.int]) (.not (.isi (.var 0) [.bool]))))
  .nil)⟩
def d_is_number : Df := ⟨1, 1,
  (.cons (.ret (.and (.call 0 (.cons false (.var 0) .nil)) (.cmp .ge (.var 0) (.con (.int 0)))))
  .nil)⟩
def d_is_sequence : Df := ⟨1, 1,
  (.cons (.ret (.isi (.var 0) [.list, .tuple]))
  .nil)⟩
def d_is_name : Df := ⟨1, 2,
  (.cons (.ite (.or (.not (.isi (.var 0) [.str])) (.or (.not (.chain .le .le (.con (.int 1)) (.bi .len (.cons false (.var 0) .nil)) (.con (.int 4)))) (.cmp .in_ (.var 0) (.glob 2))))
    (.cons (.ret (.con (.bl false)))
  .nil)
    .nil)
  (.cons (.ret (.bi .all (.cons false (.lc [1] (.v 1) (.ex (.var 0)) .nil (.cmp .in_ (.var 1) (.glob 1))) .nil)))
  .nil))⟩
def d_are_unlike_names : Df := ⟨1, 2,
  (.cons (.ite (.or (.not (.call 2 (.cons false (.var 0) .nil))) (.not (.bi .all (.cons false (.lc [1] (.v 1) (.ex (.var 0)) .nil (.call 3 (.cons false (.var 1) .nil))) .nil))))
    (.cons (.ret (.con (.bl false)))
  .nil)
    .nil)
  (.cons (.ret (.cmp .eq (.bi .lenSet (.cons false (.var 0) .nil)) (.bi .len (.cons false (.var 0) .nil))))
  .nil))⟩
def d_number_in : Df := ⟨2, 3,
  (.cons (.ite (.or (.not (.chain .le .le (.con (.int 1)) (.bi .len (.cons false (.var 0) .nil)) (.var 1))) (.not (.bi .all (.cons false (.lc [2] (.v 2) (.ex (.var 0)) .nil (.cmp .in_ (.var 2) (.glob 0))) .nil))))
    (.cons (.ret (.con .non))
  .nil)
    .nil)
  (.cons (.ret (.ife (.and (.cmp .eq (.sub (.var 0) (.con (.int 0))) (.con (.str [48]))) (.cmp .ne (.var 0) (.con (.str [48])))) (.con .non) (.bi .int (.cons false (.var 0) .nil))))
  .nil))⟩
def d_lots_of : Df := ⟨1, 5,
  (.cons (.asg (.pat (.v 1)) (.lst (.cons false (.tup .nil) .nil)))
  (.cons (.for_ (.v 2) (.ex (.bi .sorted (.cons false (.lc [3] (.v 3) (.ex (.var 0)) .nil (.bi .str (.cons false (.var 3) .nil))) .nil)))
    (.cons (.asg (.pat (.v 1)) (.lst (.cons true (.var 1) (.cons true (.lc [4] (.v 4) (.ex (.var 1)) .nil (.tup (.cons true (.var 4) (.cons false (.var 2) .nil)))) .nil))))
  .nil))
  (.cons (.ret (.bi .sortedLists (.cons false (.var 1) .nil)))
  .nil)))⟩
def d_word_at : Df := ⟨2, 3,
  (.cons (.asg (.pat (.v 2)) (.var 1))
  (.cons (.whl (.and (.cmp .lt (.var 2) (.bi .len (.cons false (.var 0) .nil))) (.or (.cmp .in_ (.sub (.var 0) (.var 2)) (.glob 1)) (.cmp .in_ (.sub (.var 0) (.var 2)) (.glob 0))))
    (.cons (.aug 2 .add (.con (.int 1)))
  .nil))
  (.cons (.ret (.slc (.var 0) (.some (.var 1)) (.some (.var 2))))
  .nil)))⟩
def d_single : Df := ⟨1, 2,
  (.cons (.asg (.pat (.v 1)) (.call 5 (.cons false (.var 0) (.cons false (.glob 3) .nil))))
  (.cons (.ite (.cmp .isnot (.var 1) (.con .non))
    (.cons (.ret (.tup (.cons false (.con (.str [110, 117, 109, 98, 101, 114])) (.cons false (.var 1) .nil))))
  .nil)
    .nil)
  (.cons (.ret (.ife (.call 3 (.cons false (.var 0) .nil)) (.tup (.cons false (.con (.str [110, 97, 109, 101])) (.cons false (.var 0) .nil))) (.con .non)))
  .nil)))⟩
def d_opening_at : Df := ⟨2, 4,
  (.cons (.for_ (.t [(.v 2), (.v 3)]) (.ex (.glob 5))
    (.cons (.ite (.cmp .eq (.slc (.var 0) (.some (.var 1)) (.some (.bin .add (.var 1) (.bi .len (.cons false (.var 2) .nil))))) (.var 2))
    (.cons (.ret (.tup (.cons false (.var 2) (.cons false (.var 3) .nil))))
  .nil)
    .nil)
  .nil))
  (.cons (.ret (.con .non))
  .nil))⟩
def d_is_closed : Df := ⟨2, 2,
  (.cons (.ret (.or (.cmp .eq (.bi .len (.cons false (.var 1) .nil)) (.con (.int 2))) (.and (.cmp .eq (.var 0) (.con (.str [109, 97, 120]))) (.cmp .gt (.bi .len (.cons false (.var 1) .nil)) (.con (.int 2))))))
  .nil)⟩
def d_Reader___init__ : Df := ⟨2, 2,
  (.cons (.asg (.attr (.var 0) 0) (.var 1))
  (.cons (.asg (.attr (.var 0) 1) (.con (.int 0)))
  (.cons (.asg (.attr (.var 0) 2) (.lst (.cons false (.tup (.cons false (.con (.str [116, 111, 112])) (.cons false (.lst .nil) .nil))) .nil)))
  (.cons (.asg (.attr (.var 0) 3) (.con (.bl false)))
  .nil))))⟩
def d_Reader_read_part : Df := ⟨1, 4,
  (.cons (.asg (.pat (.v 1)) (.call 9 (.cons false (.attr (.var 0) 0) (.cons false (.attr (.var 0) 1) .nil))))
  (.cons (.whl (.cmp .isnot (.var 1) (.con .non))
    (.cons (.augAttr (.var 0) 1 .add (.bi .len (.cons false (.sub (.var 1) (.con (.int 0))) .nil)))
  (.cons (.expr (.bm .append (.attr (.var 0) 2) (.cons false (.tup (.cons false (.sub (.var 1) (.con (.int 1))) (.cons false (.lst .nil) .nil))) .nil)))
  (.cons (.asg (.pat (.v 1)) (.call 9 (.cons false (.attr (.var 0) 0) (.cons false (.attr (.var 0) 1) .nil))))
  .nil))))
  (.cons (.asg (.pat (.v 2)) (.call 7 (.cons false (.attr (.var 0) 0) (.cons false (.attr (.var 0) 1) .nil))))
  (.cons (.asg (.pat (.v 3)) (.call 8 (.cons false (.var 2) .nil)))
  (.cons (.ite (.cmp .is (.var 3) (.con .non))
    (.cons (.asg (.attr (.var 0) 3) (.con (.bl true)))
  .nil)
    .nil)
  (.cons (.expr (.bm .append (.sub (.sub (.attr (.var 0) 2) (.neg (.con (.int 1)))) (.con (.int 1))) (.cons false (.var 3) .nil)))
  (.cons (.augAttr (.var 0) 1 .add (.bi .len (.cons false (.var 2) .nil)))
  .nil)))))))⟩
def d_Reader_read_more : Df := ⟨1, 5,
  (.cons (.whl (.and (.not (.attr (.var 0) 3)) (.and (.cmp .lt (.attr (.var 0) 1) (.bi .len (.cons false (.attr (.var 0) 0) .nil))) (.cmp .ne (.sub (.attr (.var 0) 0) (.attr (.var 0) 1)) (.con (.str [44])))))
    (.cons (.ite (.cmp .eq (.slc (.attr (.var 0) 0) (.some (.attr (.var 0) 1)) (.some (.bin .add (.attr (.var 0) 1) (.con (.int 3))))) (.con (.str [32, 43, 32])))
    (.cons (.asg (.pat (.v 1)) (.call 7 (.cons false (.attr (.var 0) 0) (.cons false (.bin .add (.attr (.var 0) 1) (.con (.int 3))) .nil))))
  (.cons (.asg (.pat (.v 2)) (.call 5 (.cons false (.var 1) (.cons false (.glob 3) .nil))))
  (.cons (.expr (.bm .append (.sub (.sub (.attr (.var 0) 2) (.neg (.con (.int 1)))) (.con (.int 1))) (.cons false (.tup (.cons false (.con (.str [112, 108, 117, 115])) (.cons false (.bm .pop (.sub (.sub (.attr (.var 0) 2) (.neg (.con (.int 1)))) (.con (.int 1))) .nil) (.cons false (.var 2) .nil)))) .nil)))
  (.cons (.augAttr (.var 0) 1 .add (.bin .add (.con (.int 3)) (.bi .len (.cons false (.var 1) .nil))))
  (.cons (.asg (.attr (.var 0) 3) (.cmp .is (.var 2) (.con .non)))
  .nil)))))
    (.cons (.ite (.and (.cmp .eq (.sub (.attr (.var 0) 0) (.attr (.var 0) 1)) (.con (.str [41]))) (.cmp .gt (.bi .len (.cons false (.attr (.var 0) 2) .nil)) (.con (.int 1))))
    (.cons (.asg (.pat (.t [(.v 3), (.v 4)])) (.bm .pop (.attr (.var 0) 2) .nil))
  (.cons (.expr (.bm .append (.sub (.sub (.attr (.var 0) 2) (.neg (.con (.int 1)))) (.con (.int 1))) (.cons false (.tup (.cons false (.var 3) (.cons true (.var 4) .nil))) .nil)))
  (.cons (.augAttr (.var 0) 1 .add (.con (.int 1)))
  (.cons (.asg (.attr (.var 0) 3) (.not (.call 10 (.cons false (.var 3) (.cons false (.var 4) .nil)))))
  .nil))))
    (.cons (.asg (.attr (.var 0) 3) (.con (.bl true)))
  .nil))
  .nil))
  .nil))
  .nil)⟩
def d_Reader_level : Df := ⟨1, 1,
  (.cons (.expr (.meth (.var 0) 16 .nil))
  (.cons (.expr (.meth (.var 0) 17 .nil))
  (.cons (.whl (.and (.not (.attr (.var 0) 3)) (.cmp .lt (.attr (.var 0) 1) (.bi .len (.cons false (.attr (.var 0) 0) .nil))))
    (.cons (.asg (.attr (.var 0) 3) (.or (.cmp .ne (.slc (.attr (.var 0) 0) (.some (.attr (.var 0) 1)) (.some (.bin .add (.attr (.var 0) 1) (.con (.int 2))))) (.con (.str [44, 32]))) (.cmp .eq (.bi .len (.cons false (.attr (.var 0) 2) .nil)) (.con (.int 1)))))
  (.cons (.augAttr (.var 0) 1 .add (.con (.int 2)))
  (.cons (.ite (.not (.attr (.var 0) 3))
    (.cons (.expr (.meth (.var 0) 16 .nil))
  (.cons (.expr (.meth (.var 0) 17 .nil))
  .nil))
    .nil)
  .nil))))
  (.cons (.ret (.ife (.or (.attr (.var 0) 3) (.cmp .gt (.bi .len (.cons false (.attr (.var 0) 2) .nil)) (.con (.int 1)))) (.con .non) (.sub (.sub (.sub (.attr (.var 0) 2) (.con (.int 0))) (.con (.int 1))) (.con (.int 0)))))
  .nil))))⟩
def d_read_level : Df := ⟨1, 1,
  (.cons (.ret (.ife (.isi (.var 0) [.str]) (.meth (.new 0 (.cons false (.var 0) .nil)) 18 .nil) (.con .non)))
  .nil)⟩
def d_need_level : Df := ⟨1, 2,
  (.cons (.asg (.pat (.v 1)) (.call 15 (.cons false (.var 0) .nil)))
  (.cons (.ite (.cmp .is (.var 1) (.con .non))
    (.cons (.raise 1 .nil)
  .nil)
    .nil)
  (.cons (.ret (.var 1))
  .nil)))⟩
def d_demand_in : Df := ⟨1, 7,
  (.cons (.ite (.not (.isi (.var 0) [.str]))
    (.cons (.ret (.con .non))
  .nil)
    .nil)
  (.cons (.for_ (.v 1) (.ex (.glob 4))
    (.cons (.asg (.pat (.t [(.v 2), (.v 3), (.v 4)])) (.bm .partition (.var 0) (.cons false (.var 1) .nil)))
  (.cons (.ite (.cmp .ne (.var 3) (.con (.str [])))
    (.cons (.asg (.pat (.t [(.v 5), (.v 6)])) (.tup (.cons false (.call 15 (.cons false (.var 2) .nil)) (.cons false (.call 15 (.cons false (.var 4) .nil)) .nil))))
  (.cons (.ret (.ife (.or (.cmp .is (.var 5) (.con .non)) (.cmp .is (.var 6) (.con .non))) (.con .non) (.tup (.cons false (.var 5) (.cons false (.bm .strip (.var 1) (.cons false (.con (.str [32])) .nil)) (.cons false (.var 6) .nil))))))
  .nil))
    .nil)
  .nil)))
  (.cons (.ret (.con .non))
  .nil)))⟩
def d_need_demand : Df := ⟨1, 2,
  (.cons (.asg (.pat (.v 1)) (.call 17 (.cons false (.var 0) .nil)))
  (.cons (.ite (.cmp .is (.var 1) (.con .non))
    (.cons (.raise 2 .nil)
  .nil)
    .nil)
  (.cons (.ret (.var 1))
  .nil)))⟩
def d_names_in : Df := ⟨1, 3,
  (.cons (.ite (.cmp .eq (.sub (.var 0) (.con (.int 0))) (.con (.str [110, 97, 109, 101])))
    (.cons (.ret (.dic (.kv (.sub (.var 0) (.con (.int 1))) (.con (.bl true)) .nil)))
  .nil)
    .nil)
  (.cons (.ite (.cmp .eq (.sub (.var 0) (.con (.int 0))) (.con (.str [110, 117, 109, 98, 101, 114])))
    (.cons (.ret (.dic .nil))
  .nil)
    .nil)
  (.cons (.asg (.pat (.v 1)) (.dic .nil))
  (.cons (.for_ (.v 2) (.ex (.ife (.cmp .eq (.sub (.var 0) (.con (.int 0))) (.con (.str [112, 108, 117, 115]))) (.slc (.var 0) (.some (.con (.int 1))) (.some (.con (.int 2)))) (.slc (.var 0) (.some (.con (.int 1))) .none)))
    (.cons (.asg (.pat (.v 1)) (.dic (.star (.var 1) (.star (.call 19 (.cons false (.var 2) .nil)) .nil))))
  .nil))
  (.cons (.ret (.var 1))
  .nil)))))⟩
def d_has_imax : Df := ⟨1, 3,
  (.cons (.ite (.cmp .in_ (.sub (.var 0) (.con (.int 0))) (.tup (.cons false (.con (.str [110, 117, 109, 98, 101, 114])) (.cons false (.con (.str [110, 97, 109, 101])) .nil))))
    (.cons (.ret (.con (.bl false)))
  .nil)
    .nil)
  (.cons (.asg (.pat (.v 1)) (.ife (.cmp .eq (.sub (.var 0) (.con (.int 0))) (.con (.str [112, 108, 117, 115]))) (.slc (.var 0) (.some (.con (.int 1))) (.some (.con (.int 2)))) (.slc (.var 0) (.some (.con (.int 1))) .none)))
  (.cons (.ret (.or (.cmp .eq (.sub (.var 0) (.con (.int 0))) (.con (.str [105, 109, 97, 120]))) (.bi .any (.cons false (.lc [2] (.v 2) (.ex (.var 1)) .nil (.call 20 (.cons false (.var 2) .nil))) .nil))))
  .nil)))⟩
def d_worth : Df := ⟨2, 5,
  (.cons (.ite (.cmp .eq (.sub (.var 0) (.con (.int 0))) (.con (.str [110, 117, 109, 98, 101, 114])))
    (.cons (.ret (.sub (.var 0) (.con (.int 1))))
  .nil)
    .nil)
  (.cons (.ite (.cmp .eq (.sub (.var 0) (.con (.int 0))) (.con (.str [110, 97, 109, 101])))
    (.cons (.ret (.sub (.var 1) (.sub (.var 0) (.con (.int 1)))))
  .nil)
    .nil)
  (.cons (.ite (.cmp .eq (.sub (.var 0) (.con (.int 0))) (.con (.str [112, 108, 117, 115])))
    (.cons (.ret (.bin .add (.call 21 (.cons false (.sub (.var 0) (.con (.int 1))) (.cons false (.var 1) .nil))) (.sub (.var 0) (.con (.int 2)))))
  .nil)
    .nil)
  (.cons (.asg (.pat (.v 2)) (.lc [3] (.v 3) (.ex (.slc (.var 0) (.some (.con (.int 1))) .none)) .nil (.call 21 (.cons false (.var 3) (.cons false (.var 1) .nil)))))
  (.cons (.ite (.and (.cmp .eq (.sub (.var 0) (.con (.int 0))) (.con (.str [105, 109, 97, 120]))) (.cmp .eq (.sub (.var 2) (.con (.int 1))) (.con (.int 0))))
    (.cons (.ret (.con (.int 0)))
  .nil)
    .nil)
  (.cons (.ret (.bi .max (.cons false (.lc [4] (.v 4) (.ex (.var 2)) .nil (.bi .int (.cons false (.var 4) .nil))) .nil)))
  .nil))))))⟩
def d_written : Df := ⟨2, 3,
  (.cons (.ite (.cmp .eq (.sub (.var 0) (.con (.int 0))) (.con (.str [110, 117, 109, 98, 101, 114])))
    (.cons (.ret (.bi .str (.cons false (.sub (.var 0) (.con (.int 1))) .nil)))
  .nil)
    .nil)
  (.cons (.ite (.cmp .eq (.sub (.var 0) (.con (.int 0))) (.con (.str [110, 97, 109, 101])))
    (.cons (.ret (.bm .get (.var 1) (.cons false (.sub (.var 0) (.con (.int 1))) (.cons false (.sub (.var 0) (.con (.int 1))) .nil))))
  .nil)
    .nil)
  (.cons (.ite (.cmp .eq (.sub (.var 0) (.con (.int 0))) (.con (.str [112, 108, 117, 115])))
    (.cons (.ret (.fstr (.cons false (.call 22 (.cons false (.sub (.var 0) (.con (.int 1))) (.cons false (.var 1) .nil))) (.cons false (.con (.str [32, 43, 32])) (.cons false (.sub (.var 0) (.con (.int 2))) .nil)))))
  .nil)
    .nil)
  (.cons (.ret (.fstr (.cons false (.sub (.var 0) (.con (.int 0))) (.cons false (.con (.str [40])) (.cons false (.bm .join (.con (.str [44, 32])) (.cons false (.lc [2] (.v 2) (.ex (.slc (.var 0) (.some (.con (.int 1))) .none)) .nil (.call 22 (.cons false (.var 2) (.cons false (.var 1) .nil)))) .nil)) (.cons false (.con (.str [41])) .nil))))))
  .nil))))⟩
def d_text_of : Df := ⟨1, 1,
  (.cons (.ret (.call 22 (.cons false (.var 0) (.cons false (.dic .nil) .nil))))
  .nil)⟩
def d_top_of : Df := ⟨1, 2,
  (.cons (.ite (.cmp .in_ (.sub (.var 0) (.con (.int 0))) (.tup (.cons false (.con (.str [110, 117, 109, 98, 101, 114])) (.cons false (.con (.str [110, 97, 109, 101])) .nil))))
    (.cons (.ret (.ife (.cmp .eq (.sub (.var 0) (.con (.int 0))) (.con (.str [110, 117, 109, 98, 101, 114]))) (.sub (.var 0) (.con (.int 1))) (.con (.int 0))))
  .nil)
    .nil)
  (.cons (.ite (.cmp .eq (.sub (.var 0) (.con (.int 0))) (.con (.str [112, 108, 117, 115])))
    (.cons (.ret (.bin .add (.call 24 (.cons false (.sub (.var 0) (.con (.int 1))) .nil)) (.sub (.var 0) (.con (.int 2)))))
  .nil)
    .nil)
  (.cons (.ret (.bi .max (.cons false (.lc [1] (.v 1) (.ex (.slc (.var 0) (.some (.con (.int 1))) .none)) .nil (.bi .int (.cons false (.call 24 (.cons false (.var 1) .nil)) .nil))) .nil)))
  .nil)))⟩
def d_is_nought : Df := ⟨2, 3,
  (.cons (.ite (.cmp .eq (.sub (.var 0) (.con (.int 0))) (.con (.str [110, 117, 109, 98, 101, 114])))
    (.cons (.ret (.cmp .eq (.sub (.var 0) (.con (.int 1))) (.con (.int 0))))
  .nil)
    .nil)
  (.cons (.ite (.cmp .eq (.sub (.var 0) (.con (.int 0))) (.con (.str [110, 97, 109, 101])))
    (.cons (.ret (.cmp .in_ (.sub (.var 0) (.con (.int 1))) (.var 1)))
  .nil)
    .nil)
  (.cons (.ite (.cmp .eq (.sub (.var 0) (.con (.int 0))) (.con (.str [112, 108, 117, 115])))
    (.cons (.ret (.and (.cmp .eq (.sub (.var 0) (.con (.int 2))) (.con (.int 0))) (.call 25 (.cons false (.sub (.var 0) (.con (.int 1))) (.cons false (.var 1) .nil)))))
  .nil)
    .nil)
  (.cons (.ite (.cmp .eq (.sub (.var 0) (.con (.int 0))) (.con (.str [105, 109, 97, 120])))
    (.cons (.ret (.call 25 (.cons false (.sub (.var 0) (.con (.int 2))) (.cons false (.var 1) .nil))))
  .nil)
    .nil)
  (.cons (.ret (.bi .all (.cons false (.lc [2] (.v 2) (.ex (.slc (.var 0) (.some (.con (.int 1))) .none)) .nil (.call 25 (.cons false (.var 2) (.cons false (.var 1) .nil)))) .nil)))
  .nil)))))⟩
def d_parts_of : Df := ⟨2, 6,
  (.cons (.ite (.cmp .eq (.sub (.var 0) (.con (.int 0))) (.con (.str [110, 117, 109, 98, 101, 114])))
    (.cons (.ret (.lst (.cons false (.tup (.cons false (.con (.str [])) (.cons false (.sub (.var 0) (.con (.int 1))) .nil))) .nil)))
  .nil)
    .nil)
  (.cons (.ite (.cmp .eq (.sub (.var 0) (.con (.int 0))) (.con (.str [110, 97, 109, 101])))
    (.cons (.ret (.ife (.cmp .in_ (.sub (.var 0) (.con (.int 1))) (.var 1)) (.lst (.cons false (.tup (.cons false (.con (.str [])) (.cons false (.con (.int 0)) .nil))) .nil)) (.lst (.cons false (.tup (.cons false (.sub (.var 0) (.con (.int 1))) (.cons false (.con (.int 0)) .nil))) .nil))))
  .nil)
    .nil)
  (.cons (.ite (.cmp .eq (.sub (.var 0) (.con (.int 0))) (.con (.str [112, 108, 117, 115])))
    (.cons (.ret (.lc [2, 3] (.t [(.v 2), (.v 3)]) (.ex (.call 26 (.cons false (.sub (.var 0) (.con (.int 1))) (.cons false (.var 1) .nil)))) .nil (.tup (.cons false (.var 2) (.cons false (.bin .add (.var 3) (.sub (.var 0) (.con (.int 2)))) .nil)))))
  .nil)
    .nil)
  (.cons (.ite (.call 25 (.cons false (.var 0) (.cons false (.var 1) .nil)))
    (.cons (.ret (.lst (.cons false (.tup (.cons false (.con (.str [])) (.cons false (.con (.int 0)) .nil))) .nil)))
  .nil)
    .nil)
  (.cons (.asg (.pat (.v 4)) (.lst .nil))
  (.cons (.for_ (.v 5) (.ex (.slc (.var 0) (.some (.con (.int 1))) .none))
    (.cons (.expr (.bm .extend (.var 4) (.cons false (.call 26 (.cons false (.var 5) (.cons false (.var 1) .nil))) .nil)))
  .nil))
  (.cons (.ret (.var 4))
  .nil)))))))⟩
def d_atoms_of : Df := ⟨2, 6,
  (.cons (.asg (.pat (.v 2)) (.dic .nil))
  (.cons (.for_ (.t [(.v 3), (.v 4)]) (.ex (.call 26 (.cons false (.var 0) (.cons false (.var 1) .nil))))
    (.cons (.asg (.sub (.var 2) (.var 3)) (.bi .max (.cons false (.bi .int (.cons false (.var 4) .nil)) (.cons false (.bi .int (.cons false (.bm .get (.var 2) (.cons false (.var 3) (.cons false (.con (.int 0)) .nil))) .nil)) .nil))))
  .nil))
  (.cons (.asg (.pat (.v 5)) (.bi .max (.cons false (.lst (.cons false (.neg (.con (.int 1))) (.cons true (.lc [3, 4] (.t [(.v 3), (.v 4)]) (.items (.var 2)) (.cons false (.cmp .ne (.var 3) (.con (.str []))) .nil) (.bi .int (.cons false (.var 4) .nil))) .nil))) .nil)))
  (.cons (.ite (.and (.cmp .in_ (.con (.str [])) (.var 2)) (.and (.cmp .le (.con (.int 0)) (.var 5)) (.cmp .le (.sub (.var 2) (.con (.str []))) (.bin .add (.var 5) (.con (.int 1))))))
    (.cons (.expr (.bm .pop (.var 2) (.cons false (.con (.str [])) .nil)))
  .nil)
    .nil)
  (.cons (.ret (.bi .tuple (.cons false (.lc [3] (.v 3) (.ex (.bi .sorted (.cons false (.lc [3] (.v 3) (.ex (.var 2)) .nil (.bi .str (.cons false (.var 3) .nil))) .nil))) .nil (.tup (.cons false (.var 3) (.cons false (.sub (.var 2) (.var 3)) .nil)))) .nil)))
  .nil)))))⟩
def d_names_of : Df := ⟨1, 2,
  (.cons (.ret (.bi .tuple (.cons false (.bi .sorted (.cons false (.lc [1] (.v 1) (.ex (.call 19 (.cons false (.call 16 (.cons false (.var 0) .nil)) .nil))) .nil (.bi .str (.cons false (.var 1) .nil))) .nil)) .nil)))
  .nil)⟩
def d_value : Df := ⟨2, 4,
  (.cons (.asg (.pat (.v 2)) (.call 16 (.cons false (.var 0) .nil)))
  (.cons (.for_ (.v 3) (.ex (.call 28 (.cons false (.var 0) .nil)))
    (.cons (.ite (.cmp .notin (.var 3) (.var 1))
    (.cons (.raise 11 .nil)
  .nil)
    .nil)
  .nil))
  (.cons (.ret (.call 21 (.cons false (.var 2) (.cons false (.var 1) .nil))))
  .nil)))⟩
def d_put_for : Df := ⟨2, 2,
  (.cons (.ret (.call 22 (.cons false (.call 16 (.cons false (.var 0) .nil)) (.cons false (.var 1) .nil))))
  .nil)⟩
def d_atoms : Df := ⟨2, 2,
  (.cons (.ret (.call 27 (.cons false (.call 16 (.cons false (.var 0) .nil)) (.cons false (.var 1) .nil))))
  .nil)⟩
def d_is_below : Df := ⟨2, 6,
  (.cons (.asg (.pat (.v 2)) (.bi .dict (.cons false (.var 1) .nil)))
  (.cons (.asg (.pat (.v 3)) (.bi .max (.cons false (.lst (.cons false (.bm .get (.var 2) (.cons false (.con (.str [])) (.cons false (.con (.int 0)) .nil))) (.cons true (.lc [4, 5] (.t [(.v 4), (.v 5)]) (.ex (.var 1)) (.cons false (.cmp .ne (.var 4) (.con (.str []))) .nil) (.bin .add (.var 5) (.con (.int 1)))) .nil))) .nil)))
  (.cons (.for_ (.t [(.v 4), (.v 5)]) (.ex (.var 0))
    (.cons (.ite (.or (.and (.cmp .eq (.var 4) (.con (.str []))) (.cmp .gt (.var 5) (.var 3))) (.and (.cmp .ne (.var 4) (.con (.str []))) (.cmp .gt (.var 5) (.bm .get (.var 2) (.cons false (.var 4) (.cons false (.neg (.con (.int 1))) .nil))))))
    (.cons (.ret (.con (.bl false)))
  .nil)
    .nil)
  .nil))
  (.cons (.ret (.con (.bl true)))
  .nil))))⟩
def d_cases : Df := ⟨2, 4,
  (.cons (.asg (.pat (.v 2)) (.dic (.star (.call 19 (.cons false (.var 0) .nil)) (.star (.call 19 (.cons false (.var 1) .nil)) .nil))))
  (.cons (.ret (.lc [3] (.v 3) (.ex (.call 6 (.cons false (.var 2) .nil))) .nil (.tup (.cons false (.call 27 (.cons false (.var 0) (.cons false (.var 3) .nil))) (.cons false (.call 27 (.cons false (.var 1) (.cons false (.var 3) .nil))) .nil)))))
  .nil))⟩
def d_never_above : Df := ⟨2, 4,
  (.cons (.ret (.bi .all (.cons false (.lc [2, 3] (.t [(.v 2), (.v 3)]) (.ex (.call 33 (.cons false (.call 16 (.cons false (.var 0) .nil)) (.cons false (.call 16 (.cons false (.var 1) .nil)) .nil)))) .nil (.call 32 (.cons false (.var 2) (.cons false (.var 3) .nil)))) .nil)))
  .nil)⟩
def d_alike : Df := ⟨2, 4,
  (.cons (.ret (.bi .all (.cons false (.lc [2, 3] (.t [(.v 2), (.v 3)]) (.ex (.call 33 (.cons false (.call 16 (.cons false (.var 0) .nil)) (.cons false (.call 16 (.cons false (.var 1) .nil)) .nil)))) .nil (.cmp .eq (.var 2) (.var 3))) .nil)))
  .nil)⟩
def d_trials : Df := ⟨3, 5,
  (.cons (.asg (.pat (.v 3)) (.dc [4] (.v 4) (.ex (.var 0)) .nil (.var 4) (.bi .int (.cons false (.cmp .notin (.var 4) (.var 1)) .nil))))
  (.cons (.ret (.lst (.cons false (.var 3) (.cons true (.lc [4] (.v 4) (.ex (.var 0)) (.cons false (.cmp .notin (.var 4) (.var 1)) .nil) (.dic (.star (.var 3) (.kv (.var 4) (.var 2) .nil)))) .nil))))
  .nil))⟩
def d_parting : Df := ⟨2, 12,
  (.cons (.asg (.pat (.t [(.v 2), (.v 3)])) (.tup (.cons false (.call 16 (.cons false (.var 0) .nil)) (.cons false (.call 16 (.cons false (.var 1) .nil)) .nil))))
  (.cons (.asg (.pat (.v 4)) (.bi .sorted (.cons false (.lc [5] (.v 5) (.ex (.dic (.star (.call 19 (.cons false (.var 2) .nil)) (.star (.call 19 (.cons false (.var 3) .nil)) .nil)))) .nil (.bi .str (.cons false (.var 5) .nil))) .nil)))
  (.cons (.asg (.pat (.v 6)) (.dc [5] (.v 5) (.ex (.var 4)) .nil (.var 5) (.con (.int 0))))
  (.cons (.for_ (.v 7) (.ex (.call 6 (.cons false (.var 4) .nil)))
    (.cons (.asg (.pat (.v 8)) (.lst (.cons true (.call 27 (.cons false (.var 2) (.cons false (.var 7) .nil))) (.cons true (.call 27 (.cons false (.var 3) (.cons false (.var 7) .nil))) .nil))))
  (.cons (.asg (.pat (.v 9)) (.bin .add (.con (.int 3)) (.bi .max (.cons false (.lc [5, 10] (.t [(.v 5), (.v 10)]) (.ex (.var 8)) .nil (.bi .int (.cons false (.var 10) .nil))) .nil))))
  (.cons (.for_ (.v 11) (.ex (.lst (.cons false (.var 6) (.cons true (.call 36 (.cons false (.var 4) (.cons false (.var 7) (.cons false (.var 9) .nil)))) .nil))))
    (.cons (.ite (.cmp .ne (.call 21 (.cons false (.var 2) (.cons false (.var 11) .nil))) (.call 21 (.cons false (.var 3) (.cons false (.var 11) .nil))))
    (.cons (.ret (.var 11))
  .nil)
    .nil)
  .nil))
  .nil))))
  (.cons (.ret (.con .non))
  .nil)))))⟩
def d_is_within : Df := ⟨2, 3,
  (.cons (.ret (.and (.cmp .isnot (.var 1) (.con .non)) (.bi .all (.cons false (.lc [2] (.v 2) (.ex (.dic (.star (.call 19 (.cons false (.sub (.var 1) (.con (.int 0))) .nil)) (.star (.call 19 (.cons false (.sub (.var 1) (.con (.int 2))) .nil)) .nil)))) .nil (.cmp .in_ (.var 2) (.var 0))) .nil))))
  .nil)⟩
def d_is_true : Df := ⟨2, 4,
  (.cons (.asg (.pat (.t [(.v 2), (.v 3)])) (.tup (.cons false (.call 21 (.cons false (.sub (.var 0) (.con (.int 0))) (.cons false (.var 1) .nil))) (.cons false (.call 21 (.cons false (.sub (.var 0) (.con (.int 2))) (.cons false (.var 1) .nil))) .nil))))
  (.cons (.ite (.cmp .eq (.sub (.var 0) (.con (.int 1))) (.con (.str [61])))
    (.cons (.ret (.cmp .eq (.var 2) (.var 3)))
  .nil)
    .nil)
  (.cons (.ret (.ife (.cmp .eq (.sub (.var 0) (.con (.int 1))) (.con (.str [60]))) (.cmp .lt (.var 2) (.var 3)) (.cmp .le (.var 2) (.var 3))))
  .nil)))⟩
def d_reach_of_books : Df := ⟨2, 7,
  (.cons (.asg (.pat (.v 2)) (.lst (.cons false (.con (.int 0)) .nil)))
  (.cons (.for_ (.t [(.v 3), (.v 4), (.v 5)]) (.ex (.var 1))
    (.cons (.expr (.bm .extend (.var 2) (.cons false (.lst (.cons false (.bin .add (.call 24 (.cons false (.var 3) .nil)) (.bi .int (.cons false (.cmp .eq (.var 4) (.con (.str [60]))) .nil))) (.cons false (.call 24 (.cons false (.var 5) .nil)) .nil))) .nil)))
  .nil))
  (.cons (.ret (.bin .mul (.bi .len (.cons false (.var 0) .nil)) (.bin .add (.bi .max (.cons false (.lc [6] (.v 6) (.ex (.var 2)) .nil (.bi .int (.cons false (.var 6) .nil))) .nil)) (.con (.int 1)))))
  .nil)))⟩
def d_need_numbers_books : Df := ⟨2, 4,
  (.cons (.ite (.or (.not (.call 2 (.cons false (.var 1) .nil))) (.cmp .ne (.bi .len (.cons false (.var 1) .nil)) (.bi .len (.cons false (.var 0) .nil))))
    (.cons (.raise 5 .nil)
  .nil)
    .nil)
  (.cons (.for_ (.t [(.v 2), (.v 3)]) (.enum (.var 1))
    (.cons (.ite (.not (.call 1 (.cons false (.var 3) .nil)))
    (.cons (.raise 5 .nil)
  .nil)
    .nil)
  .nil))
  .nil))⟩
def d_is_head : Df := ⟨1, 3,
  (.cons (.asg (.pat (.v 1)) (.bm .split (.var 0) (.cons false (.con (.str [32])) .nil)))
  (.cons (.ret (.and (.cmp .eq (.sub (.var 1) (.con (.int 0))) (.con (.str [110, 97, 109, 101, 115]))) (.and (.cmp .gt (.bi .len (.cons false (.var 1) .nil)) (.con (.int 1))) (.bi .all (.cons false (.lc [2] (.v 2) (.ex (.slc (.var 1) (.some (.con (.int 1))) .none)) .nil (.call 3 (.cons false (.var 2) .nil))) .nil)))))
  .nil))⟩
def d_Book___init__ : Df := ⟨3, 4,
  (.cons (.ite (.or (.not (.call 4 (.cons false (.var 1) .nil))) (.cmp .eq (.bi .len (.cons false (.var 1) .nil)) (.con (.int 0))))
    (.cons (.raise 3 .nil)
  .nil)
    .nil)
  (.cons (.ite (.or (.not (.call 2 (.cons false (.var 2) .nil))) (.not (.bi .all (.cons false (.lc [3] (.v 3) (.ex (.var 2)) .nil (.call 38 (.cons false (.var 1) (.cons false (.call 17 (.cons false (.var 3) .nil)) .nil)))) .nil))))
    (.cons (.raise 3 .nil)
  .nil)
    .nil)
  (.cons (.asg (.attr (.var 0) 4) (.bi .tuple (.cons false (.var 1) .nil)))
  (.cons (.asg (.attr (.var 0) 5) (.bi .tuple (.cons false (.var 2) .nil)))
  (.cons (.asg (.attr (.var 0) 6) (.bi .tuple (.cons false (.lc [3] (.v 3) (.ex (.var 2)) .nil (.call 18 (.cons false (.var 3) .nil))) .nil)))
  .nil)))))⟩
def d_Book_is_plain : Df := ⟨1, 4,
  (.cons (.ret (.not (.bi .any (.cons false (.lc [1, 2, 3] (.t [(.v 1), (.v 2), (.v 3)]) (.ex (.attr (.var 0) 6)) .nil (.or (.call 20 (.cons false (.var 1) .nil)) (.call 20 (.cons false (.var 3) .nil)))) .nil))))
  .nil)⟩
def d_Book_reach : Df := ⟨1, 1,
  (.cons (.ret (.call 40 (.cons false (.attr (.var 0) 4) (.cons false (.attr (.var 0) 6) .nil))))
  .nil)⟩
def d_Book_with_demand : Df := ⟨2, 2,
  (.cons (.ite (.not (.call 38 (.cons false (.attr (.var 0) 4) (.cons false (.call 17 (.cons false (.var 1) .nil)) .nil))))
    (.cons (.raise 2 .nil)
  .nil)
    .nil)
  (.cons (.ret (.new 1 (.cons false (.attr (.var 0) 4) (.cons false (.lst (.cons true (.attr (.var 0) 5) (.cons false (.var 1) .nil))) .nil))))
  .nil))⟩
def d_Book_but : Df := ⟨2, 2,
  (.cons (.ret (.new 1 (.cons false (.attr (.var 0) 4) (.cons false (.lst (.cons true (.slc (.attr (.var 0) 5) .none (.some (.var 1))) (.cons true (.slc (.attr (.var 0) 5) (.some (.bin .add (.var 1) (.con (.int 1)))) .none) .nil))) .nil))))
  .nil)⟩
def d_Book_broken : Df := ⟨2, 5,
  (.cons (.expr (.call 41 (.cons false (.attr (.var 0) 4) (.cons false (.var 1) .nil))))
  (.cons (.asg (.pat (.v 2)) (.dictIt (.zip (.attr (.var 0) 4) (.var 1))))
  (.cons (.ret (.bi .tuple (.cons false (.lc [3, 4] (.t [(.v 3), (.v 4)]) (.enum (.attr (.var 0) 6)) (.cons false (.not (.call 39 (.cons false (.var 4) (.cons false (.var 2) .nil)))) .nil) (.var 3)) .nil)))
  .nil)))⟩
def d_Book_keeps : Df := ⟨2, 2,
  (.cons (.ret (.cmp .eq (.bi .len (.cons false (.meth (.var 0) 23 (.cons false (.var 1) .nil)) .nil)) (.con (.int 0))))
  .nil)⟩
def d_Book___len__ : Df := ⟨1, 1,
  (.cons (.ret (.bi .len (.cons false (.attr (.var 0) 5) .nil)))
  .nil)⟩
def d_Book___iter__ : Df := ⟨1, 1,
  (.cons (.raise 12 .nil)
  .nil)⟩
def d_Book___eq__ : Df := ⟨2, 2,
  (.cons (.ret (.and (.isi (.var 1) [(.own 1)]) (.cmp .eq (.bi .str (.cons false (.var 0) .nil)) (.bi .str (.cons false (.var 1) .nil)))))
  .nil)⟩
def d_Book___str__ : Df := ⟨1, 1,
  (.cons (.ret (.bm .join (.con (.str [10])) (.cons false (.lst (.cons false (.bm .join (.con (.str [32])) (.cons false (.lst (.cons false (.con (.str [110, 97, 109, 101, 115])) (.cons true (.attr (.var 0) 4) .nil))) .nil)) (.cons true (.attr (.var 0) 5) .nil))) .nil)))
  .nil)⟩
def d_sides : Df := ⟨1, 4,
  (.cons (.asg (.pat (.t [(.v 1), (.v 2), (.v 3)])) (.var 0))
  (.cons (.ite (.cmp .eq (.var 2) (.con (.str [61])))
    (.cons (.ret (.lst (.cons false (.tup (.cons false (.var 1) (.cons false (.var 3) (.cons false (.con (.int 0)) .nil)))) (.cons false (.tup (.cons false (.var 3) (.cons false (.var 1) (.cons false (.con (.int 0)) .nil)))) .nil))))
  .nil)
    .nil)
  (.cons (.ret (.lst (.cons false (.tup (.cons false (.var 1) (.cons false (.var 3) (.cons false (.bi .int (.cons false (.cmp .eq (.var 2) (.con (.str [60]))) .nil)) .nil)))) .nil)))
  .nil)))⟩
def d_bounds_of : Df := ⟨3, 11,
  (.cons (.asg (.pat (.v 3)) (.dic .nil))
  (.cons (.for_ (.v 4) (.ex (.var 1))
    (.cons (.for_ (.t [(.v 5), (.v 6), (.v 7)]) (.ex (.call 55 (.cons false (.var 4) .nil)))
    (.cons (.asg (.pat (.v 8)) (.call 27 (.cons false (.var 6) (.cons false (.var 2) .nil))))
  (.cons (.for_ (.t [(.v 9), (.v 10)]) (.ex (.call 27 (.cons false (.var 5) (.cons false (.var 2) .nil))))
    (.cons (.asg (.sub (.var 3) (.tup (.cons false (.var 9) (.cons false (.bin .add (.var 10) (.var 7)) (.cons false (.var 8) .nil))))) (.con (.bl true)))
  .nil))
  .nil)))
  .nil))
  (.cons (.for_ (.v 9) (.ex (.var 0))
    (.cons (.ite (.cmp .notin (.var 9) (.var 2))
    (.cons (.asg (.sub (.var 3) (.tup (.cons false (.con (.str [])) (.cons false (.con (.int 1)) (.cons false (.tup (.cons false (.tup (.cons false (.var 9) (.cons false (.con (.int 0)) .nil))) .nil)) .nil))))) (.con (.bl true)))
  .nil)
    .nil)
  .nil))
  (.cons (.ret (.bi .tuple (.cons false (.bi .sorted (.cons false (.bi .list (.cons false (.var 3) .nil)) .nil)) .nil)))
  .nil))))⟩
def d_reach_of_solutions : Df := ⟨2, 7,
  (.cons (.asg (.pat (.v 2)) (.con (.int 0)))
  (.cons (.for_ (.v 3) (.ex (.var 1))
    (.cons (.for_ (.t [(.v 4), (.v 5), (.v 6)]) (.ex (.call 55 (.cons false (.var 3) .nil)))
    (.cons (.asg (.pat (.v 2)) (.bi .max (.cons false (.var 2) (.cons false (.bin .add (.call 24 (.cons false (.var 4) .nil)) (.var 6)) (.cons false (.call 24 (.cons false (.var 5) .nil)) .nil)))))
  .nil))
  .nil))
  (.cons (.ret (.bin .mul (.bi .len (.cons false (.var 0) .nil)) (.bin .add (.var 2) (.con (.int 1)))))
  .nil)))⟩
def d_lowered : Df := ⟨2, 10,
  (.cons (.asg (.pat (.v 2)) (.dic (.kv (.con (.str [])) (.con (.int 0)) .nil)))
  (.cons (.expr (.bm .update (.var 2) (.cons false (.var 1) .nil)))
  (.cons (.asg (.pat (.v 3)) (.con (.bl true)))
  (.cons (.whl (.var 3)
    (.cons (.asg (.pat (.v 3)) (.con (.bl false)))
  (.cons (.for_ (.t [(.v 4), (.v 5), (.v 6)]) (.ex (.var 0))
    (.cons (.asg (.pat (.v 7)) (.bin .sub (.bi .max (.cons false (.lc [8, 9] (.t [(.v 8), (.v 9)]) (.ex (.var 6)) .nil (.bin .add (.sub (.var 2) (.var 8)) (.var 9))) .nil)) (.var 5)))
  (.cons (.ite (.cmp .gt (.sub (.var 2) (.var 4)) (.var 7))
    (.cons (.ite (.cmp .eq (.var 4) (.con (.str [])))
    (.cons (.ret (.con .non))
  .nil)
    .nil)
  (.cons (.asg (.sub (.var 2) (.var 4)) (.var 7))
  (.cons (.asg (.pat (.v 3)) (.con (.bl true)))
  .nil)))
    .nil)
  .nil)))
  .nil)))
  (.cons (.ret (.var 2))
  .nil)))))⟩
def d_case_numbers : Df := ⟨4, 8,
  (.cons (.asg (.pat (.v 4)) (.dc [5, 6] (.t [(.v 5), (.v 6)]) (.zip (.var 0) (.var 3)) (.cons false (.cmp .notin (.var 5) (.var 2)) .nil) (.var 5) (.var 6)))
  (.cons (.asg (.pat (.v 7)) (.call 58 (.cons false (.call 56 (.cons false (.var 0) (.cons false (.var 1) (.cons false (.var 2) .nil)))) (.cons false (.var 4) .nil))))
  (.cons (.ret (.ife (.cmp .is (.var 7) (.con .non)) (.con .non) (.bi .tuple (.cons false (.lc [5] (.v 5) (.ex (.var 0)) .nil (.ife (.cmp .in_ (.var 5) (.var 2)) (.con (.int 0)) (.sub (.var 7) (.var 5)))) .nil))))
  .nil)))⟩
def d_all_highest : Df := ⟨3, 6,
  (.cons (.asg (.pat (.v 3)) (.lc [4] (.v 4) (.ex (.call 6 (.cons false (.var 0) .nil))) .nil (.call 59 (.cons false (.var 0) (.cons false (.var 1) (.cons false (.var 4) (.cons false (.var 2) .nil)))))))
  (.cons (.ret (.lc [5] (.v 5) (.ex (.var 3)) (.cons false (.cmp .isnot (.var 5) (.con .non)) .nil) (.var 5)))
  .nil))⟩
def d_numbers_of : Df := ⟨2, 3,
  (.cons (.asg (.pat (.v 2)) (.call 60 (.cons false (.var 0) (.cons false (.var 1) (.cons false (.bin .mul (.lst (.cons false (.call 57 (.cons false (.var 0) (.cons false (.var 1) .nil))) .nil)) (.bi .len (.cons false (.var 0) .nil))) .nil)))))
  (.cons (.ret (.ife (.cmp .gt (.bi .len (.cons false (.var 2) .nil)) (.con (.int 0))) (.sub (.var 2) (.con (.int 0))) (.con .non)))
  .nil))⟩
def d_can_be : Df := ⟨1, 1,
  (.cons (.ret (.cmp .isnot (.call 63 (.cons false (.var 0) .nil)) (.con .non)))
  .nil)⟩
def d_some_numbers : Df := ⟨1, 1,
  (.cons (.ret (.call 61 (.cons false (.attr (.var 0) 4) (.cons false (.attr (.var 0) 6) .nil))))
  .nil)⟩
def d_need_numbers_solutions : Df := ⟨2, 4,
  (.cons (.ite (.or (.not (.call 2 (.cons false (.var 1) .nil))) (.cmp .ne (.bi .len (.cons false (.var 1) .nil)) (.bi .len (.cons false (.attr (.var 0) 4) .nil))))
    (.cons (.raise 5 .nil)
  .nil)
    .nil)
  (.cons (.for_ (.t [(.v 2), (.v 3)]) (.enum (.var 1))
    (.cons (.ite (.not (.call 1 (.cons false (.var 3) .nil)))
    (.cons (.raise 5 .nil)
  .nil)
    .nil)
  .nil))
  .nil))⟩
def d_highest : Df := ⟨2, 5,
  (.cons (.expr (.call 64 (.cons false (.var 0) (.cons false (.var 1) .nil))))
  (.cons (.asg (.pat (.v 2)) (.call 60 (.cons false (.attr (.var 0) 4) (.cons false (.attr (.var 0) 6) (.cons false (.var 1) .nil)))))
  (.cons (.ite (.cmp .eq (.bi .len (.cons false (.var 2) .nil)) (.con (.int 0)))
    (.cons (.ret (.con .non))
  .nil)
    .nil)
  (.cons (.ret (.bi .tuple (.cons false (.lc [4] (.v 4) (.range1 (.bi .len (.cons false (.var 1) .nil))) .nil (.bi .max (.cons false (.lc [3] (.v 3) (.ex (.var 2)) .nil (.sub (.var 3) (.var 4))) .nil))) .nil)))
  .nil))))⟩
def d_rows_of : Df := ⟨2, 7,
  (.cons (.asg (.pat (.v 2)) (.lst (.cons false (.tup .nil) .nil)))
  (.cons (.for_ (.v 3) (.range1 (.var 1))
    (.cons (.asg (.pat (.v 2)) (.lc2 [4, 5] (.v 4) (.ex (.var 2)) .nil [5] (.v 5) (.range1 (.bin .add (.var 0) (.con (.int 1)))) .nil (.tup (.cons true (.var 4) (.cons false (.var 5) .nil)))))
  .nil))
  (.cons (.ret (.lc [6, 4] (.t [(.v 6), (.v 4)]) (.ex (.bi .sorted (.cons false (.lc [4] (.v 4) (.ex (.var 2)) .nil (.tup (.cons false (.bi .sum (.cons false (.var 4) .nil)) (.cons false (.var 4) .nil)))) .nil))) .nil (.var 4)))
  .nil)))⟩
def d_is_above : Df := ⟨2, 4,
  (.cons (.ret (.bi .all (.cons false (.lc [2, 3] (.t [(.v 2), (.v 3)]) (.zip (.var 0) (.var 1)) .nil (.cmp .ge (.var 2) (.var 3))) .nil)))
  .nil)⟩
def d_lowest : Df := ⟨1, 4,
  (.cons (.asg (.pat (.v 1)) (.lst .nil))
  (.cons (.for_ (.v 2) (.ex (.call 66 (.cons false (.call 57 (.cons false (.attr (.var 0) 4) (.cons false (.attr (.var 0) 6) .nil))) (.cons false (.bi .len (.cons false (.attr (.var 0) 4) .nil)) .nil))))
    (.cons (.ite (.and (.not (.bi .any (.cons false (.lc [3] (.v 3) (.ex (.var 1)) .nil (.call 67 (.cons false (.var 2) (.cons false (.var 3) .nil)))) .nil))) (.meth (.var 0) 24 (.cons false (.var 2) .nil)))
    (.cons (.expr (.bm .append (.var 1) (.cons false (.var 2) .nil)))
  .nil)
    .nil)
  .nil))
  (.cons (.ret (.bi .tuple (.cons false (.bi .sorted (.cons false (.var 1) .nil)) .nil)))
  .nil)))⟩
def d_with_top : Df := ⟨4, 7,
  (.cons (.asg (.pat (.v 4)) (.bin .add (.call 57 (.cons false (.var 0) (.cons false (.var 1) .nil))) (.var 3)))
  (.cons (.asg (.pat (.v 5)) (.lc [6] (.v 6) (.ex (.var 0)) .nil (.ife (.cmp .eq (.var 6) (.var 2)) (.var 3) (.var 4))))
  (.cons (.ret (.cmp .gt (.bi .len (.cons false (.call 60 (.cons false (.var 0) (.cons false (.var 1) (.cons false (.var 5) .nil)))) .nil)) (.con (.int 0))))
  .nil)))⟩
def d_span : Df := ⟨2, 8,
  (.cons (.ite (.or (.not (.isi (.var 1) [.str])) (.cmp .notin (.var 1) (.attr (.var 0) 4)))
    (.cons (.raise 11 .nil)
  .nil)
    .nil)
  (.cons (.ite (.not (.call 62 (.cons false (.var 0) .nil)))
    (.cons (.ret (.con .non))
  .nil)
    .nil)
  (.cons (.asg (.pat (.t [(.v 2), (.v 3)])) (.tup (.cons false (.con (.int 0)) (.cons false (.call 57 (.cons false (.attr (.var 0) 4) (.cons false (.attr (.var 0) 6) .nil))) .nil))))
  (.cons (.whl (.not (.call 69 (.cons false (.attr (.var 0) 4) (.cons false (.attr (.var 0) 6) (.cons false (.var 1) (.cons false (.var 2) .nil))))))
    (.cons (.aug 2 .add (.con (.int 1)))
  .nil))
  (.cons (.asg (.pat (.v 4)) (.bm .index (.attr (.var 0) 4) (.cons false (.var 1) .nil)))
  (.cons (.asg (.pat (.v 5)) (.call 60 (.cons false (.attr (.var 0) 4) (.cons false (.attr (.var 0) 6) (.cons false (.bin .mul (.lst (.cons false (.bin .add (.bin .mul (.con (.int 2)) (.var 3)) (.con (.int 1))) .nil)) (.bi .len (.cons false (.attr (.var 0) 4) .nil))) .nil)))))
  (.cons (.asg (.pat (.v 6)) (.bi .max (.cons false (.lc [7] (.v 7) (.ex (.var 5)) .nil (.sub (.var 7) (.var 4))) .nil)))
  (.cons (.ret (.tup (.cons false (.var 2) (.cons false (.ife (.cmp .gt (.var 6) (.var 3)) (.con .non) (.var 6)) .nil))))
  .nil))))))))⟩
def d_is_own : Df := ⟨2, 3,
  (.cons (.ret (.bi .all (.cons false (.lc [2] (.v 2) (.ex (.call 19 (.cons false (.var 1) .nil))) .nil (.cmp .in_ (.var 2) (.attr (.var 0) 4))) .nil)))
  .nil)⟩
def d_demand_for : Df := ⟨2, 3,
  (.cons (.asg (.pat (.v 2)) (.call 18 (.cons false (.var 1) .nil)))
  (.cons (.ite (.or (.not (.call 71 (.cons false (.var 0) (.cons false (.sub (.var 2) (.con (.int 0))) .nil)))) (.not (.call 71 (.cons false (.var 0) (.cons false (.sub (.var 2) (.con (.int 2))) .nil)))))
    (.cons (.raise 2 .nil)
  .nil)
    .nil)
  (.cons (.ret (.var 2))
  .nil)))⟩
def d_level_for : Df := ⟨2, 3,
  (.cons (.asg (.pat (.v 2)) (.call 16 (.cons false (.var 1) .nil)))
  (.cons (.ite (.not (.call 71 (.cons false (.var 0) (.cons false (.var 2) .nil))))
    (.cons (.raise 1 .nil)
  .nil)
    .nil)
  (.cons (.ret (.var 2))
  .nil)))⟩
def d_denied : Df := ⟨1, 4,
  (.cons (.asg (.pat (.t [(.v 1), (.v 2), (.v 3)])) (.var 0))
  (.cons (.ite (.cmp .eq (.var 2) (.con (.str [61])))
    (.cons (.ret (.lst (.cons false (.tup (.cons false (.var 1) (.cons false (.con (.str [60])) (.cons false (.var 3) .nil)))) (.cons false (.tup (.cons false (.var 3) (.cons false (.con (.str [60])) (.cons false (.var 1) .nil)))) .nil))))
  .nil)
    .nil)
  (.cons (.ret (.lst (.cons false (.tup (.cons false (.var 3) (.cons false (.ife (.cmp .eq (.var 2) (.con (.str [60, 61]))) (.con (.str [60])) (.con (.str [60, 61]))) (.cons false (.var 1) .nil)))) .nil)))
  .nil)))⟩
def d_against : Df := ⟨2, 4,
  (.cons (.for_ (.v 2) (.ex (.call 74 (.cons false (.var 1) .nil)))
    (.cons (.asg (.pat (.v 3)) (.call 61 (.cons false (.attr (.var 0) 4) (.cons false (.tup (.cons true (.attr (.var 0) 6) (.cons false (.var 2) .nil))) .nil))))
  (.cons (.ite (.cmp .isnot (.var 3) (.con .non))
    (.cons (.ret (.var 3))
  .nil)
    .nil)
  .nil)))
  (.cons (.ret (.con .non))
  .nil))⟩
def d_counter : Df := ⟨2, 2,
  (.cons (.ret (.call 75 (.cons false (.var 0) (.cons false (.call 72 (.cons false (.var 0) (.cons false (.var 1) .nil))) .nil))))
  .nil)⟩
def d_follows : Df := ⟨2, 2,
  (.cons (.ret (.cmp .is (.call 76 (.cons false (.var 0) (.cons false (.var 1) .nil))) (.con .non)))
  .nil)⟩
def d_raised : Df := ⟨2, 2,
  (.cons (.ret (.tup (.cons false (.con (.str [112, 108, 117, 115])) (.cons false (.var 0) (.cons false (.var 1) .nil)))))
  .nil)⟩
def d_further : Df := ⟨4, 6,
  (.cons (.asg (.pat (.t [(.v 4), (.v 5)])) (.tup (.cons false (.call 78 (.cons false (.var 2) (.cons false (.bi .max (.cons false (.var 3) (.cons false (.con (.int 0)) .nil))) .nil))) (.cons false (.call 78 (.cons false (.var 1) (.cons false (.bi .max (.cons false (.neg (.var 3)) (.cons false (.con (.int 0)) .nil))) .nil))) .nil))))
  (.cons (.ret (.call 61 (.cons false (.attr (.var 0) 4) (.cons false (.tup (.cons true (.attr (.var 0) 6) (.cons false (.tup (.cons false (.var 4) (.cons false (.con (.str [60, 61])) (.cons false (.var 5) .nil)))) .nil))) .nil))))
  .nil))⟩
def d_excess : Df := ⟨3, 10,
  (.cons (.asg (.pat (.t [(.v 3), (.v 4)])) (.tup (.cons false (.call 73 (.cons false (.var 0) (.cons false (.var 1) .nil))) (.cons false (.call 73 (.cons false (.var 0) (.cons false (.var 2) .nil))) .nil))))
  (.cons (.asg (.pat (.v 5)) (.call 61 (.cons false (.attr (.var 0) 4) (.cons false (.attr (.var 0) 6) .nil))))
  (.cons (.ite (.cmp .is (.var 5) (.con .non))
    (.cons (.ret (.con .non))
  .nil)
    .nil)
  (.cons (.asg (.pat (.v 6)) (.bi .dict (.cons false (.listIt (.zip (.attr (.var 0) 4) (.var 5))) .nil)))
  (.cons (.asg (.pat (.v 7)) (.bin .sub (.call 21 (.cons false (.var 3) (.cons false (.var 6) .nil))) (.call 21 (.cons false (.var 4) (.cons false (.var 6) .nil)))))
  (.cons (.asg (.pat (.v 8)) (.bin .add (.bin .mul (.con (.int 2)) (.call 57 (.cons false (.attr (.var 0) 4) (.cons false (.tup (.cons true (.attr (.var 0) 6) (.cons false (.tup (.cons false (.var 3) (.cons false (.con (.str [60, 61])) (.cons false (.var 4) .nil)))) .nil))) .nil)))) (.con (.int 2))))
  (.cons (.ite (.cmp .isnot (.call 79 (.cons false (.var 0) (.cons false (.var 3) (.cons false (.var 4) (.cons false (.var 8) .nil))))) (.con .non))
    (.cons (.ret (.con .non))
  .nil)
    .nil)
  (.cons (.whl (.cmp .lt (.bin .add (.var 7) (.con (.int 1))) (.var 8))
    (.cons (.asg (.pat (.v 9)) (.bin .fdiv (.bin .add (.var 7) (.var 8)) (.con (.int 2))))
  (.cons (.ite (.cmp .is (.call 79 (.cons false (.var 0) (.cons false (.var 3) (.cons false (.var 4) (.cons false (.var 9) .nil))))) (.con .non))
    (.cons (.asg (.pat (.v 8)) (.var 9))
  .nil)
    (.cons (.asg (.pat (.v 7)) (.var 9))
  .nil))
  .nil)))
  (.cons (.ret (.var 7))
  .nil)))))))))⟩
def d_no_wider : Df := ⟨2, 3,
  (.cons (.ret (.bi .all (.cons false (.lc [2] (.v 2) (.ex (.attr (.var 1) 6)) .nil (.cmp .is (.call 75 (.cons false (.var 0) (.cons false (.var 2) .nil))) (.con .non))) .nil)))
  .nil)⟩
def d_unlike : Df := ⟨2, 6,
  (.cons (.for_ (.t [(.v 2), (.v 3)]) (.ex (.tup (.cons false (.tup (.cons false (.var 0) (.cons false (.var 1) .nil))) (.cons false (.tup (.cons false (.var 1) (.cons false (.var 0) .nil))) .nil))))
    (.cons (.for_ (.v 4) (.ex (.attr (.var 3) 6))
    (.cons (.asg (.pat (.v 5)) (.call 75 (.cons false (.var 2) (.cons false (.var 4) .nil))))
  (.cons (.ite (.cmp .isnot (.var 5) (.con .non))
    (.cons (.ret (.var 5))
  .nil)
    .nil)
  .nil)))
  .nil))
  (.cons (.ret (.con .non))
  .nil))⟩
def d_denials : Df := ⟨1, 5,
  (.cons (.asg (.pat (.v 1)) (.call 74 (.cons false (.call 18 (.cons false (.var 0) .nil)) .nil)))
  (.cons (.ret (.bi .tuple (.cons false (.lc [2, 3, 4] (.t [(.v 2), (.v 3), (.v 4)]) (.ex (.var 1)) .nil (.fstr (.cons false (.call 23 (.cons false (.var 2) .nil)) (.cons false (.con (.str [32])) (.cons false (.var 3) (.cons false (.con (.str [32])) (.cons false (.call 23 (.cons false (.var 4) .nil)) .nil))))))) .nil)))
  .nil))⟩
def d_bounds : Df := ⟨2, 2,
  (.cons (.ret (.call 56 (.cons false (.attr (.var 0) 4) (.cons false (.attr (.var 0) 6) (.cons false (.var 1) .nil)))))
  .nil)⟩
def d_greatest_of : Df := ⟨2, 4,
  (.cons (.ret (.bi .max (.cons false (.lc [2, 3] (.t [(.v 2), (.v 3)]) (.ex (.var 1)) .nil (.bin .add (.sub (.var 0) (.var 2)) (.var 3))) .nil)))
  .nil)⟩
def d_are_kept : Df := ⟨1, 12,
  (.cons (.asg (.pat (.t [(.v 1), (.v 2)])) (.tup (.cons false (.dic (.kv (.con (.str [])) (.con (.int 0)) .nil)) (.cons false (.lst (.cons false (.con (.int 0)) .nil)) .nil))))
  (.cons (.for_ (.t [(.v 3), (.v 4), (.v 5)]) (.ex (.var 0))
    (.cons (.asg (.sub (.var 1) (.var 3)) (.con (.int 0)))
  (.cons (.expr (.bm .append (.var 2) (.cons false (.bi .abs (.cons false (.var 4) .nil)) .nil)))
  (.cons (.for_ (.t [(.v 6), (.v 7)]) (.ex (.var 5))
    (.cons (.asg (.sub (.var 1) (.var 6)) (.con (.int 0)))
  (.cons (.expr (.bm .append (.var 2) (.cons false (.bi .abs (.cons false (.var 7) .nil)) .nil)))
  .nil)))
  .nil))))
  (.cons (.asg (.pat (.v 8)) (.bin .mul (.neg (.bi .len (.cons false (.var 1) .nil))) (.bin .add (.bin .mul (.con (.int 2)) (.bi .max (.cons false (.lc [9] (.v 9) (.ex (.var 2)) .nil (.bi .int (.cons false (.var 9) .nil))) .nil))) (.con (.int 1)))))
  (.cons (.asg (.pat (.v 10)) (.con (.bl true)))
  (.cons (.whl (.var 10)
    (.cons (.asg (.pat (.v 10)) (.con (.bl false)))
  (.cons (.for_ (.t [(.v 3), (.v 4), (.v 5)]) (.ex (.var 0))
    (.cons (.asg (.pat (.v 11)) (.bin .sub (.call 85 (.cons false (.var 1) (.cons false (.var 5) .nil))) (.var 4)))
  (.cons (.ite (.cmp .lt (.var 11) (.sub (.var 1) (.var 3)))
    (.cons (.asg (.sub (.var 1) (.var 3)) (.var 11))
  (.cons (.asg (.pat (.v 10)) (.con (.bl true)))
  .nil))
    .nil)
  (.cons (.ite (.cmp .lt (.var 11) (.var 8))
    (.cons (.ret (.con (.bl false)))
  .nil)
    .nil)
  .nil))))
  .nil)))
  (.cons (.ret (.con (.bl true)))
  .nil))))))⟩
def d_least_part : Df := ⟨1, 5,
  (.cons (.asg (.pat (.v 1)) (.bi .list (.cons false (.var 0) .nil)))
  (.cons (.for_ (.v 2) (.ex (.var 0))
    (.cons (.asg (.pat (.v 3)) (.lc [4] (.v 4) (.ex (.var 1)) (.cons false (.cmp .ne (.var 4) (.var 2)) .nil) (.var 4)))
  (.cons (.ite (.not (.call 86 (.cons false (.var 3) .nil)))
    (.cons (.asg (.pat (.v 1)) (.var 3))
  .nil)
    .nil)
  .nil)))
  (.cons (.ret (.var 1))
  .nil)))⟩
def d_with_heights : Df := ⟨1, 9,
  (.cons (.asg (.pat (.t [(.v 1), (.v 2)])) (.tup (.cons false (.bi .len (.cons false (.var 0) .nil)) (.cons false (.dc [3, 4, 5] (.t [(.v 3), (.v 4), (.v 5)]) (.ex (.var 0)) .nil (.var 3) (.con (.int 0))) .nil))))
  (.cons (.for_ (.v 6) (.range1 (.bin .add (.var 1) (.con (.int 1))))
    (.cons (.for_ (.t [(.v 3), (.v 4), (.v 5)]) (.ex (.var 0))
    (.cons (.for_ (.t [(.v 7), (.v 8)]) (.ex (.var 5))
    (.cons (.asg (.sub (.var 2) (.var 3)) (.bi .max (.cons false (.bi .int (.cons false (.sub (.var 2) (.var 3)) .nil)) (.cons false (.bi .int (.cons false (.bin .add (.bin .add (.bin .mul (.var 1) (.bin .sub (.var 8) (.var 4))) (.con (.int 1))) (.sub (.var 2) (.var 7))) .nil)) .nil))))
  .nil))
  .nil))
  .nil))
  (.cons (.ret (.bi .tuple (.cons false (.lc [3, 4, 5] (.t [(.v 3), (.v 4), (.v 5)]) (.ex (.var 0)) .nil (.tup (.cons false (.var 3) (.cons false (.var 4) (.cons false (.var 5) (.cons false (.sub (.var 2) (.var 3)) .nil)))))) .nil)))
  .nil)))⟩
def d_paper_of : Df := ⟨2, 3,
  (.cons (.asg (.pat (.v 2)) (.call 84 (.cons false (.var 0) (.cons false (.var 1) .nil))))
  (.cons (.ret (.ife (.call 86 (.cons false (.var 2) .nil)) (.con .non) (.call 88 (.cons false (.call 87 (.cons false (.var 2) .nil)) .nil))))
  .nil))⟩
def d_paper : Df := ⟨1, 4,
  (.cons (.asg (.pat (.v 1)) (.lst .nil))
  (.cons (.for_ (.v 2) (.ex (.call 6 (.cons false (.attr (.var 0) 4) .nil)))
    (.cons (.asg (.pat (.v 3)) (.call 89 (.cons false (.var 0) (.cons false (.var 2) .nil))))
  (.cons (.ite (.cmp .is (.var 3) (.con .non))
    (.cons (.ret (.con .non))
  .nil)
    .nil)
  (.cons (.expr (.bm .append (.var 1) (.cons false (.tup (.cons false (.var 2) (.cons false (.var 3) .nil))) .nil)))
  .nil))))
  (.cons (.ret (.bi .tuple (.cons false (.var 1) .nil)))
  .nil)))⟩
def d_is_entry : Df := ⟨2, 3,
  (.cons (.ite (.or (.not (.isi (.var 1) [.tuple])) (.or (.cmp .ne (.bi .len (.cons false (.var 1) .nil)) (.con (.int 4))) (.not (.call 0 (.cons false (.sub (.var 1) (.con (.int 3))) .nil)))))
    (.cons (.ret (.con (.bl false)))
  .nil)
    .nil)
  (.cons (.ret (.bi .any (.cons false (.lc [2] (.v 2) (.ex (.var 0)) .nil (.call 92 (.cons false (.slc (.var 1) .none (.some (.con (.int 3)))) (.cons false (.var 2) .nil)))) .nil)))
  .nil))⟩
def d_is_same : Df := ⟨2, 3,
  (.cons (.ite (.or (.not (.isi (.sub (.var 0) (.con (.int 0))) [.str])) (.or (.not (.call 0 (.cons false (.sub (.var 0) (.con (.int 1))) .nil))) (.not (.isi (.sub (.var 0) (.con (.int 2))) [.tuple]))))
    (.cons (.ret (.con (.bl false)))
  .nil)
    .nil)
  (.cons (.ite (.not (.bi .all (.cons false (.lc [2] (.v 2) (.ex (.sub (.var 0) (.con (.int 2)))) .nil (.and (.isi (.var 2) [.tuple]) (.cmp .eq (.bi .len (.cons false (.var 2) .nil)) (.con (.int 2))))) .nil)))
    (.cons (.ret (.con (.bl false)))
  .nil)
    .nil)
  (.cons (.ite (.not (.bi .all (.cons false (.lc [2] (.v 2) (.ex (.sub (.var 0) (.con (.int 2)))) .nil (.and (.isi (.sub (.var 2) (.con (.int 0))) [.str]) (.call 0 (.cons false (.sub (.var 2) (.con (.int 1))) .nil)))) .nil)))
    (.cons (.ret (.con (.bl false)))
  .nil)
    .nil)
  (.cons (.ret (.cmp .eq (.var 0) (.var 1)))
  .nil))))⟩
def d_case_holds : Df := ⟨3, 12,
  (.cons (.asg (.pat (.v 3)) (.call 84 (.cons false (.var 0) (.cons false (.var 1) .nil))))
  (.cons (.ite (.or (.not (.isi (.var 2) [.tuple])) (.or (.cmp .eq (.bi .len (.cons false (.var 2) .nil)) (.con (.int 0))) (.not (.bi .all (.cons false (.lc [4] (.v 4) (.ex (.var 2)) .nil (.call 91 (.cons false (.var 3) (.cons false (.var 4) .nil)))) .nil)))))
    (.cons (.ret (.con (.bl false)))
  .nil)
    .nil)
  (.cons (.asg (.pat (.v 5)) (.dc [4] (.v 4) (.ex (.var 2)) .nil (.sub (.var 4) (.con (.int 0))) (.sub (.var 4) (.con (.int 3)))))
  (.cons (.ite (.cmp .ne (.bi .len (.cons false (.var 5) .nil)) (.bi .len (.cons false (.var 2) .nil)))
    (.cons (.ret (.con (.bl false)))
  .nil)
    .nil)
  (.cons (.for_ (.t [(.v 6), (.v 7), (.v 8), (.v 9)]) (.ex (.var 2))
    (.cons (.for_ (.t [(.v 10), (.v 11)]) (.ex (.var 8))
    (.cons (.ite (.or (.cmp .notin (.var 10) (.var 5)) (.cmp .gt (.bin .add (.bin .add (.bin .mul (.bi .len (.cons false (.var 2) .nil)) (.bin .sub (.var 11) (.var 7))) (.con (.int 1))) (.sub (.var 5) (.var 10))) (.var 9)))
    (.cons (.ret (.con (.bl false)))
  .nil)
    .nil)
  .nil))
  .nil))
  (.cons (.ret (.con (.bl true)))
  .nil))))))⟩
def d_paper_holds : Df := ⟨2, 6,
  (.cons (.asg (.pat (.v 2)) (.call 6 (.cons false (.attr (.var 0) 4) .nil)))
  (.cons (.ite (.or (.not (.isi (.var 1) [.tuple])) (.cmp .ne (.bi .len (.cons false (.var 1) .nil)) (.bi .len (.cons false (.var 2) .nil))))
    (.cons (.ret (.con (.bl false)))
  .nil)
    .nil)
  (.cons (.for_ (.t [(.v 3), (.v 4)]) (.zip (.var 2) (.var 1))
    (.cons (.ite (.or (.not (.isi (.var 4) [.tuple])) (.or (.cmp .ne (.bi .len (.cons false (.var 4) .nil)) (.con (.int 2))) (.not (.isi (.sub (.var 4) (.con (.int 0))) [.tuple]))))
    (.cons (.ret (.con (.bl false)))
  .nil)
    .nil)
  (.cons (.ite (.or (.not (.bi .all (.cons false (.lc [5] (.v 5) (.ex (.sub (.var 4) (.con (.int 0)))) .nil (.isi (.var 5) [.str])) .nil))) (.cmp .ne (.sub (.var 4) (.con (.int 0))) (.var 3)))
    (.cons (.ret (.con (.bl false)))
  .nil)
    .nil)
  (.cons (.ite (.not (.call 93 (.cons false (.var 0) (.cons false (.var 3) (.cons false (.sub (.var 4) (.con (.int 1))) .nil)))))
    (.cons (.ret (.con (.bl false)))
  .nil)
    .nil)
  .nil))))
  (.cons (.ret (.con (.bl true)))
  .nil))))⟩
def d_atoms_at : Df := ⟨3, 4,
  (.cons (.ite (.cmp .eq (.sub (.var 0) (.con (.int 0))) (.con (.str [110, 117, 109, 98, 101, 114])))
    (.cons (.asg (.sub (.var 2) (.con (.str []))) (.bi .max (.cons false (.bm .get (.var 2) (.cons false (.con (.str [])) (.cons false (.con (.int 0)) .nil))) (.cons false (.bin .add (.sub (.var 0) (.con (.int 1))) (.var 1)) .nil))))
  .nil)
    (.cons (.ite (.cmp .eq (.sub (.var 0) (.con (.int 0))) (.con (.str [110, 97, 109, 101])))
    (.cons (.asg (.sub (.var 2) (.sub (.var 0) (.con (.int 1)))) (.bi .max (.cons false (.bm .get (.var 2) (.cons false (.sub (.var 0) (.con (.int 1))) (.cons false (.con (.int 0)) .nil))) (.cons false (.var 1) .nil))))
  .nil)
    (.cons (.ite (.cmp .eq (.sub (.var 0) (.con (.int 0))) (.con (.str [112, 108, 117, 115])))
    (.cons (.expr (.call 95 (.cons false (.sub (.var 0) (.con (.int 1))) (.cons false (.bin .add (.var 1) (.sub (.var 0) (.con (.int 2)))) (.cons false (.var 2) .nil)))))
  .nil)
    (.cons (.for_ (.v 3) (.ex (.slc (.var 0) (.some (.con (.int 1))) .none))
    (.cons (.expr (.call 95 (.cons false (.var 3) (.cons false (.var 1) (.cons false (.var 2) .nil)))))
  .nil))
  .nil))
  .nil))
  .nil))
  .nil)⟩
def d_plain_atoms : Df := ⟨1, 3,
  (.cons (.asg (.pat (.v 1)) (.dic .nil))
  (.cons (.expr (.call 95 (.cons false (.var 0) (.cons false (.con (.int 0)) (.cons false (.var 1) .nil)))))
  (.cons (.ret (.bi .tuple (.cons false (.bi .sorted (.cons false (.lc [2] (.v 2) (.ex (.var 1)) .nil (.tup (.cons false (.bi .str (.cons false (.var 2) .nil)) (.cons false (.bi .int (.cons false (.sub (.var 1) (.var 2)) .nil)) .nil)))) .nil)) .nil)))
  .nil)))⟩
def d_plain_bounds : Df := ⟨1, 11,
  (.cons (.asg (.pat (.v 1)) (.lst .nil))
  (.cons (.for_ (.t [(.v 2), (.v 3), (.v 4)]) (.ex (.attr (.var 0) 6))
    (.cons (.asg (.pat (.v 5)) (.ife (.cmp .eq (.var 3) (.con (.str [61]))) (.lst (.cons false (.tup (.cons false (.var 2) (.cons false (.var 4) .nil))) (.cons false (.tup (.cons false (.var 4) (.cons false (.var 2) .nil))) .nil))) (.lst (.cons false (.tup (.cons false (.var 2) (.cons false (.var 4) .nil))) .nil))))
  (.cons (.for_ (.t [(.v 6), (.v 7)]) (.ex (.var 5))
    (.cons (.asg (.pat (.v 8)) (.call 96 (.cons false (.var 7) .nil)))
  (.cons (.expr (.bm .extend (.var 1) (.cons false (.lc [9, 10] (.t [(.v 9), (.v 10)]) (.ex (.call 96 (.cons false (.var 6) .nil))) .nil (.tup (.cons false (.var 9) (.cons false (.bin .add (.var 10) (.bi .int (.cons false (.cmp .eq (.var 3) (.con (.str [60]))) .nil))) (.cons false (.var 8) .nil))))) .nil)))
  .nil)))
  .nil)))
  (.cons (.ret (.var 1))
  .nil)))⟩
def d_neat : Df := ⟨1, 7,
  (.cons (.asg (.pat (.t [(.v 1), (.v 2), (.v 3)])) (.var 0))
  (.cons (.ite (.bi .any (.cons false (.lc [4, 5] (.t [(.v 4), (.v 5)]) (.ex (.var 3)) .nil (.and (.cmp .ge (.var 5) (.var 2)) (.cmp .eq (.var 4) (.var 1)))) .nil))
    (.cons (.ret (.con .non))
  .nil)
    .nil)
  (.cons (.ite (.and (.cmp .eq (.var 1) (.con (.str []))) (.bi .any (.cons false (.lc [4, 5] (.t [(.v 4), (.v 5)]) (.ex (.var 3)) .nil (.cmp .ge (.var 5) (.var 2))) .nil)))
    (.cons (.ret (.con .non))
  .nil)
    .nil)
  (.cons (.ret (.tup (.cons false (.var 1) (.cons false (.var 2) (.cons false (.bi .tuple (.cons false (.lc [6] (.v 6) (.ex (.var 3)) (.cons false (.cmp .ne (.sub (.var 6) (.con (.int 0))) (.var 1)) .nil) (.var 6)) .nil)) .nil)))))
  .nil))))⟩
def d_neat_ones : Df := ⟨1, 4,
  (.cons (.asg (.pat (.v 1)) (.lst .nil))
  (.cons (.for_ (.v 2) (.ex (.var 0))
    (.cons (.asg (.pat (.v 3)) (.call 98 (.cons false (.var 2) .nil)))
  (.cons (.ite (.and (.cmp .isnot (.var 3) (.con .non)) (.cmp .notin (.var 3) (.var 1)))
    (.cons (.expr (.bm .append (.var 1) (.cons false (.var 3) .nil)))
  .nil)
    .nil)
  .nil)))
  (.cons (.ret (.var 1))
  .nil)))⟩
def d_at_least_nought : Df := ⟨1, 2,
  (.cons (.ret (.lc [1] (.v 1) (.ex (.var 0)) .nil (.tup (.cons false (.con (.str [])) (.cons false (.con (.int 0)) (.cons false (.tup (.cons false (.tup (.cons false (.var 1) (.cons false (.con (.int 0)) .nil))) .nil)) .nil))))))
  .nil)⟩
def d_can_stand : Df := ⟨2, 5,
  (.cons (.ite (.bi .any (.cons false (.lc [2, 3, 4] (.t [(.v 2), (.v 3), (.v 4)]) (.ex (.var 1)) .nil (.cmp .eq (.bi .len (.cons false (.var 4) .nil)) (.con (.int 0)))) .nil))
    (.cons (.ret (.con (.bl false)))
  .nil)
    .nil)
  (.cons (.ret (.call 86 (.cons false (.lst (.cons true (.var 1) (.cons true (.call 100 (.cons false (.var 0) .nil)) .nil))) .nil)))
  .nil))⟩
def d_is_needless : Df := ⟨3, 9,
  (.cons (.asg (.pat (.t [(.v 3), (.v 4), (.v 5)])) (.var 2))
  (.cons (.asg (.pat (.v 6)) (.lc [7, 8] (.t [(.v 7), (.v 8)]) (.ex (.var 5)) .nil (.tup (.cons false (.var 7) (.cons false (.bin .add (.var 8) (.con (.int 1))) (.cons false (.tup (.cons false (.tup (.cons false (.var 3) (.cons false (.var 4) .nil))) .nil)) .nil))))))
  (.cons (.ret (.not (.call 101 (.cons false (.var 0) (.cons false (.lst (.cons true (.var 1) (.cons true (.var 6) .nil))) .nil)))))
  .nil)))⟩
def d_fewer : Df := ⟨2, 6,
  (.cons (.asg (.pat (.v 2)) (.bi .list (.cons false (.var 1) .nil)))
  (.cons (.for_ (.v 3) (.ex (.var 1))
    (.cons (.asg (.pat (.v 4)) (.lc [5] (.v 5) (.ex (.var 2)) (.cons false (.cmp .ne (.var 5) (.var 3)) .nil) (.var 5)))
  (.cons (.ite (.call 102 (.cons false (.var 0) (.cons false (.var 4) (.cons false (.var 3) .nil))))
    (.cons (.asg (.pat (.v 2)) (.var 4))
  .nil)
    .nil)
  .nil)))
  (.cons (.ret (.var 2))
  .nil)))⟩
def d_put_together : Df := ⟨4, 7,
  (.cons (.asg (.pat (.v 4)) (.bi .dict (.cons false (.var 0) .nil)))
  (.cons (.for_ (.t [(.v 5), (.v 6)]) (.ex (.var 1))
    (.cons (.asg (.sub (.var 4) (.var 5)) (.bi .max (.cons false (.bm .get (.var 4) (.cons false (.var 5) (.cons false (.bin .sub (.bin .add (.var 6) (.var 3)) (.var 2)) .nil))) (.cons false (.bin .sub (.bin .add (.var 6) (.var 3)) (.var 2)) .nil))))
  .nil))
  (.cons (.ret (.bi .tuple (.cons false (.bi .sorted (.cons false (.lc [5] (.v 5) (.ex (.var 4)) .nil (.tup (.cons false (.bi .str (.cons false (.var 5) .nil)) (.cons false (.bi .int (.cons false (.sub (.var 4) (.var 5)) .nil)) .nil)))) .nil)) .nil)))
  .nil)))⟩
def d_left_out : Df := ⟨3, 15,
  (.cons (.asg (.pat (.v 3)) (.lc [4] (.v 4) (.ex (.var 1)) (.cons false (.cmp .eq (.sub (.var 4) (.con (.int 0))) (.var 2)) .nil) (.var 4)))
  (.cons (.asg (.pat (.v 5)) (.lc [4] (.v 4) (.ex (.var 1)) (.cons false (.and (.cmp .ne (.sub (.var 4) (.con (.int 0))) (.var 2)) (.cmp .notin (.var 2) (.bi .dict (.cons false (.sub (.var 4) (.con (.int 2))) .nil)))) .nil) (.var 4)))
  (.cons (.asg (.pat (.v 6)) (.bin .add (.lc [4] (.v 4) (.ex (.var 1)) (.cons false (.cmp .in_ (.var 2) (.bi .dict (.cons false (.sub (.var 4) (.con (.int 2))) .nil))) .nil) (.var 4)) (.lst (.cons false (.tup (.cons false (.con (.str [])) (.cons false (.con (.int 0)) (.cons false (.tup (.cons false (.tup (.cons false (.var 2) (.cons false (.con (.int 0)) .nil))) .nil)) .nil)))) .nil))))
  (.cons (.for_ (.t [(.v 7), (.v 8), (.v 9)]) (.ex (.var 6))
    (.cons (.asg (.pat (.t [(.v 10), (.v 11)])) (.tup (.cons false (.lc [12] (.v 12) (.ex (.var 9)) (.cons false (.cmp .ne (.sub (.var 12) (.con (.int 0))) (.var 2)) .nil) (.var 12)) (.cons false (.sub (.bi .dict (.cons false (.var 9) .nil)) (.var 2)) .nil))))
  (.cons (.for_ (.v 13) (.ex (.var 3))
    (.cons (.expr (.bm .append (.var 5) (.cons false (.tup (.cons false (.var 7) (.cons false (.var 8) (.cons false (.call 104 (.cons false (.var 10) (.cons false (.sub (.var 13) (.con (.int 2))) (.cons false (.sub (.var 13) (.con (.int 1))) (.cons false (.var 11) .nil))))) .nil)))) .nil)))
  .nil))
  .nil)))
  (.cons (.ret (.call 103 (.cons false (.lc [14] (.v 14) (.ex (.var 0)) (.cons false (.cmp .ne (.var 14) (.var 2)) .nil) (.var 14)) (.cons false (.call 99 (.cons false (.var 5) .nil)) .nil))))
  .nil)))))⟩
def d_atom_text : Df := ⟨2, 4,
  (.cons (.asg (.pat (.v 2)) (.ife (.cmp .ne (.var 0) (.con (.str []))) (.lst (.cons false (.var 0) .nil)) (.lst .nil)))
  (.cons (.asg (.pat (.v 3)) (.var 1))
  (.cons (.whl (.cmp .gt (.var 3) (.con (.int 99)))
    (.cons (.expr (.bm .append (.var 2) (.cons false (.con (.str [57, 57])) .nil)))
  (.cons (.aug 3 .sub (.con (.int 99)))
  .nil)))
  (.cons (.ite (.or (.cmp .gt (.var 3) (.con (.int 0))) (.cmp .eq (.bi .len (.cons false (.var 2) .nil)) (.con (.int 0))))
    (.cons (.expr (.bm .append (.var 2) (.cons false (.bi .str (.cons false (.var 3) .nil)) .nil)))
  .nil)
    .nil)
  (.cons (.ret (.bm .join (.con (.str [32, 43, 32])) (.cons false (.var 2) .nil)))
  .nil)))))⟩
def d_demand_text : Df := ⟨1, 9,
  (.cons (.asg (.pat (.t [(.v 1), (.v 2), (.v 3)])) (.var 0))
  (.cons (.ite (.cmp .eq (.bi .len (.cons false (.var 3) .nil)) (.con (.int 0)))
    (.cons (.ret (.con (.str [49, 32, 60, 61, 32, 48])))
  .nil)
    .nil)
  (.cons (.asg (.pat (.v 4)) (.bi .max (.cons false (.lst (.cons false (.con (.int 0)) (.cons false (.neg (.var 2)) (.cons true (.lc [5, 6] (.t [(.v 5), (.v 6)]) (.ex (.var 3)) .nil (.neg (.var 6))) .nil)))) .nil)))
  (.cons (.asg (.pat (.v 7)) (.lc [5, 6] (.t [(.v 5), (.v 6)]) (.ex (.var 3)) .nil (.call 106 (.cons false (.var 5) (.cons false (.bin .add (.var 6) (.var 4)) .nil)))))
  (.cons (.asg (.pat (.v 8)) (.ife (.cmp .eq (.bi .len (.cons false (.var 7) .nil)) (.con (.int 1))) (.sub (.var 7) (.con (.int 0))) (.bin .add (.bin .add (.con (.str [109, 97, 120, 40])) (.bm .join (.con (.str [44, 32])) (.cons false (.var 7) .nil))) (.con (.str [41])))))
  (.cons (.ret (.bin .add (.bin .add (.call 106 (.cons false (.var 1) (.cons false (.bin .add (.var 2) (.var 4)) .nil))) (.con (.str [32, 60, 61, 32]))) (.var 8)))
  .nil))))))⟩
def d_without : Df := ⟨2, 6,
  (.cons (.for_ (.v 2) (.ex (.var 1))
    (.cons (.ite (.or (.not (.isi (.var 2) [.str])) (.cmp .notin (.var 2) (.attr (.var 0) 4)))
    (.cons (.raise 11 .nil)
  .nil)
    .nil)
  .nil))
  (.cons (.ite (.cmp .eq (.bi .len (.cons false (.var 1) .nil)) (.con (.int 0)))
    (.cons (.ret (.var 0))
  .nil)
    .nil)
  (.cons (.asg (.pat (.t [(.v 3), (.v 4)])) (.tup (.cons false (.call 99 (.cons false (.call 97 (.cons false (.var 0) .nil)) .nil)) (.cons false (.bi .list (.cons false (.attr (.var 0) 4) .nil)) .nil))))
  (.cons (.for_ (.v 2) (.ex (.var 1))
    (.cons (.ite (.cmp .in_ (.var 2) (.var 4))
    (.cons (.asg (.pat (.v 3)) (.call 105 (.cons false (.var 4) (.cons false (.var 3) (.cons false (.var 2) .nil)))))
  (.cons (.expr (.bm .remove (.var 4) (.cons false (.var 2) .nil)))
  .nil))
    .nil)
  .nil))
  (.cons (.ret (.new 1 (.cons false (.var 4) (.cons false (.lc [5] (.v 5) (.ex (.var 3)) .nil (.call 107 (.cons false (.var 5) .nil))) .nil))))
  .nil)))))⟩
def d_joined : Df := ⟨2, 4,
  (.cons (.asg (.pat (.v 2)) (.lc [3] (.v 3) (.ex (.attr (.var 1) 4)) (.cons false (.cmp .notin (.var 3) (.attr (.var 0) 4)) .nil) (.var 3)))
  (.cons (.ret (.new 1 (.cons false (.lst (.cons true (.attr (.var 0) 4) (.cons true (.var 2) .nil))) (.cons false (.lst (.cons true (.attr (.var 0) 5) (.cons true (.attr (.var 1) 5) .nil))) .nil))))
  .nil))⟩
def d_between : Df := ⟨2, 6,
  (.cons (.asg (.pat (.v 2)) (.call 109 (.cons false (.var 0) (.cons false (.var 1) .nil))))
  (.cons (.ite (.call 101 (.cons false (.attr (.var 2) 4) (.cons false (.call 99 (.cons false (.call 97 (.cons false (.var 2) .nil)) .nil)) .nil)))
    (.cons (.ret (.con .non))
  .nil)
    .nil)
  (.cons (.asg (.pat (.v 3)) (.lc [4] (.v 4) (.ex (.attr (.var 0) 4)) (.cons false (.cmp .notin (.var 4) (.attr (.var 1) 4)) .nil) (.var 4)))
  (.cons (.asg (.pat (.v 5)) (.bi .sorted (.cons false (.lc [4] (.v 4) (.ex (.attr (.var 0) 4)) (.cons false (.cmp .in_ (.var 4) (.attr (.var 1) 4)) .nil) (.bi .str (.cons false (.var 4) .nil))) .nil)))
  (.cons (.ret (.new 1 (.cons false (.var 5) (.cons false (.attr (.call 108 (.cons false (.var 0) (.cons false (.var 3) .nil))) 5) .nil))))
  .nil)))))⟩
def d_stands : Df := ⟨2, 3,
  (.cons (.ret (.call 62 (.cons false (.new 1 (.cons false (.attr (.var 0) 4) (.cons false (.lc [2] (.v 2) (.ex (.var 1)) .nil (.sub (.attr (.var 0) 5) (.var 2))) .nil))) .nil)))
  .nil)⟩
def d_by_size : Df := ⟨1, 5,
  (.cons (.asg (.pat (.v 1)) (.lst (.cons false (.tup .nil) .nil)))
  (.cons (.for_ (.v 2) (.range1 (.bi .len (.cons false (.var 0) .nil)))
    (.cons (.expr (.bm .extend (.var 1) (.cons false (.lc [3] (.v 3) (.ex (.bi .list (.cons false (.var 1) .nil))) .nil (.tup (.cons true (.var 3) (.cons false (.var 2) .nil)))) .nil)))
  .nil))
  (.cons (.ret (.lc [4, 3] (.t [(.v 4), (.v 3)]) (.ex (.bi .sorted (.cons false (.lc [3] (.v 3) (.ex (.var 1)) .nil (.tup (.cons false (.bi .len (.cons false (.var 3) .nil)) (.cons false (.var 3) .nil)))) .nil))) .nil (.var 3)))
  .nil)))⟩
def d_least_clashes : Df := ⟨1, 5,
  (.cons (.asg (.pat (.v 1)) (.lst .nil))
  (.cons (.for_ (.v 2) (.ex (.call 112 (.cons false (.var 0) .nil)))
    (.cons (.ite (.and (.not (.bi .any (.cons false (.lc [4] (.v 4) (.ex (.var 1)) .nil (.bi .all (.cons false (.lc [3] (.v 3) (.ex (.var 4)) .nil (.cmp .in_ (.var 3) (.var 2))) .nil))) .nil))) (.not (.call 111 (.cons false (.var 0) (.cons false (.var 2) .nil)))))
    (.cons (.expr (.bm .append (.var 1) (.cons false (.var 2) .nil)))
  .nil)
    .nil)
  .nil))
  (.cons (.ret (.bi .tuple (.cons false (.bi .sorted (.cons false (.var 1) .nil)) .nil)))
  .nil)))⟩
def d_needless : Df := ⟨1, 2,
  (.cons (.ret (.bi .tuple (.cons false (.lc [1] (.v 1) (.range1 (.bi .len (.cons false (.var 0) .nil))) (.cons false (.call 77 (.cons false (.meth (.var 0) 22 (.cons false (.var 1) .nil)) (.cons false (.sub (.attr (.var 0) 5) (.var 1)) .nil))) .nil) (.var 1)) .nil)))
  .nil)⟩
def d_are_names : Df := ⟨2, 3,
  (.cons (.ite (.or (.not (.call 2 (.cons false (.var 0) .nil))) (.not (.bi .all (.cons false (.lc [2] (.v 2) (.ex (.var 0)) .nil (.call 3 (.cons false (.var 2) .nil))) .nil))))
    (.cons (.ret (.con (.bl false)))
  .nil)
    .nil)
  (.cons (.ret (.and (.cmp .eq (.bi .len (.cons false (.dc [2] (.v 2) (.ex (.var 0)) .nil (.var 2) (.con (.bl true))) .nil)) (.bi .len (.cons false (.var 0) .nil))) (.not (.bi .any (.cons false (.lc [2] (.v 2) (.ex (.var 0)) .nil (.cmp .in_ (.var 2) (.var 1))) .nil)))))
  .nil))⟩
def d_is_plain_level : Df := ⟨2, 4,
  (.cons (.asg (.pat (.v 2)) (.call 15 (.cons false (.var 0) .nil)))
  (.cons (.ret (.and (.cmp .isnot (.var 2) (.con .non)) (.and (.not (.call 20 (.cons false (.var 2) .nil))) (.bi .all (.cons false (.lc [3] (.v 3) (.ex (.call 19 (.cons false (.var 2) .nil))) .nil (.cmp .in_ (.var 3) (.var 1))) .nil)))))
  .nil))⟩
def d_is_plain_demand : Df := ⟨2, 6,
  (.cons (.asg (.pat (.v 2)) (.call 17 (.cons false (.var 0) .nil)))
  (.cons (.ite (.cmp .is (.var 2) (.con .non))
    (.cons (.ret (.con (.bl false)))
  .nil)
    .nil)
  (.cons (.asg (.pat (.v 3)) (.tup (.cons false (.sub (.var 2) (.con (.int 0))) (.cons false (.sub (.var 2) (.con (.int 2))) .nil))))
  (.cons (.ite (.bi .any (.cons false (.lc [4] (.v 4) (.ex (.var 3)) .nil (.call 20 (.cons false (.var 4) .nil))) .nil))
    (.cons (.ret (.con (.bl false)))
  .nil)
    .nil)
  (.cons (.ret (.bi .all (.cons false (.lc2 [4, 5] (.v 4) (.ex (.var 3)) .nil [5] (.v 5) (.ex (.call 19 (.cons false (.var 4) .nil))) .nil (.cmp .in_ (.var 5) (.var 1))) .nil)))
  .nil)))))⟩
def d_is_call : Df := ⟨2, 5,
  (.cons (.ite (.or (.not (.isi (.var 0) [.tuple])) (.cmp .ne (.bi .len (.cons false (.var 0) .nil)) (.con (.int 2))))
    (.cons (.ret (.con (.bl false)))
  .nil)
    .nil)
  (.cons (.asg (.pat (.t [(.v 2), (.v 3)])) (.var 0))
  (.cons (.ret (.and (.call 3 (.cons false (.var 2) .nil)) (.and (.call 2 (.cons false (.var 3) .nil)) (.bi .all (.cons false (.lc [4] (.v 4) (.ex (.var 3)) .nil (.call 117 (.cons false (.var 4) (.cons false (.var 1) .nil)))) .nil)))))
  .nil)))⟩
def d_Definition___init__ : Df := ⟨6, 11,
  (.cons (.ite (.not (.call 3 (.cons false (.var 1) .nil)))
    (.cons (.raise 6 .nil)
  .nil)
    .nil)
  (.cons (.ite (.or (.not (.call 116 (.cons false (.var 2) (.cons false (.tup .nil) .nil)))) (.cmp .eq (.bi .len (.cons false (.var 2) .nil)) (.con (.int 0))))
    (.cons (.raise 6 .nil)
  .nil)
    .nil)
  (.cons (.ite (.not (.call 116 (.cons false (.var 3) (.cons false (.var 2) .nil))))
    (.cons (.raise 6 .nil)
  .nil)
    .nil)
  (.cons (.asg (.pat (.v 6)) (.tup (.cons true (.var 2) (.cons true (.var 3) .nil))))
  (.cons (.ite (.or (.not (.call 2 (.cons false (.var 4) .nil))) (.not (.bi .all (.cons false (.lc [7] (.v 7) (.ex (.var 4)) .nil (.call 118 (.cons false (.var 7) (.cons false (.var 6) .nil)))) .nil))))
    (.cons (.raise 6 .nil)
  .nil)
    .nil)
  (.cons (.ite (.or (.not (.call 2 (.cons false (.var 5) .nil))) (.not (.bi .all (.cons false (.lc [8] (.v 8) (.ex (.var 5)) .nil (.call 119 (.cons false (.var 8) (.cons false (.var 6) .nil)))) .nil))))
    (.cons (.raise 6 .nil)
  .nil)
    .nil)
  (.cons (.asg (.attr (.var 0) 11) (.var 1))
  (.cons (.asg (.attr (.var 0) 12) (.bi .tuple (.cons false (.var 2) .nil)))
  (.cons (.asg (.attr (.var 0) 13) (.bi .tuple (.cons false (.var 3) .nil)))
  (.cons (.asg (.attr (.var 0) 5) (.bi .tuple (.cons false (.var 4) .nil)))
  (.cons (.asg (.attr (.var 0) 14) (.bi .tuple (.cons false (.lc [9, 10] (.t [(.v 9), (.v 10)]) (.ex (.var 5)) .nil (.tup (.cons false (.var 9) (.cons false (.bi .tuple (.cons false (.var 10) .nil)) .nil)))) .nil)))
  .nil)))))))))))⟩
def d_Definition_parts : Df := ⟨1, 1,
  (.cons (.ret (.tup (.cons false (.attr (.var 0) 11) (.cons false (.attr (.var 0) 12) (.cons false (.attr (.var 0) 13) (.cons false (.attr (.var 0) 5) (.cons false (.attr (.var 0) 14) .nil)))))))
  .nil)⟩
def d_Definition___iter__ : Df := ⟨1, 1,
  (.cons (.raise 12 .nil)
  .nil)⟩
def d_Definition___eq__ : Df := ⟨2, 2,
  (.cons (.ret (.and (.isi (.var 1) [(.own 4)]) (.cmp .eq (.meth (.var 0) 37 .nil) (.meth (.var 1) 37 .nil))))
  .nil)⟩
def d_is_fitting : Df := ⟨2, 4,
  (.cons (.ite (.or (.not (.isi (.var 0) [(.own 4)])) (.cmp .in_ (.attr (.var 0) 11) (.var 1)))
    (.cons (.ret (.con (.bl false)))
  .nil)
    .nil)
  (.cons (.ret (.bi .all (.cons false (.lc [2, 3] (.t [(.v 2), (.v 3)]) (.ex (.attr (.var 0) 14)) .nil (.and (.cmp .in_ (.var 2) (.var 1)) (.cmp .eq (.bi .len (.cons false (.attr (.sub (.var 1) (.var 2)) 12) .nil)) (.bi .len (.cons false (.var 3) .nil))))) .nil)))
  .nil))⟩
def d_demands_of_call : Df := ⟨2, 8,
  (.cons (.asg (.pat (.v 2)) (.bi .dict (.cons false (.listIt (.zip (.attr (.var 0) 4) (.var 1))) .nil)))
  (.cons (.asg (.pat (.v 3)) (.lst .nil))
  (.cons (.for_ (.v 4) (.ex (.attr (.var 0) 5))
    (.cons (.asg (.pat (.t [(.v 5), (.v 6), (.v 7)])) (.bm .partition (.var 4) (.cons false (.call 126 (.cons false (.var 4) .nil)) .nil)))
  (.cons (.expr (.bm .append (.var 3) (.cons false (.fstr (.cons false (.call 30 (.cons false (.var 5) (.cons false (.var 2) .nil))) (.cons false (.var 6) (.cons false (.call 30 (.cons false (.var 7) (.cons false (.var 2) .nil))) .nil)))) .nil)))
  .nil)))
  (.cons (.ret (.var 3))
  .nil))))⟩
def d_sign_of : Df := ⟨1, 2,
  (.cons (.ret (.sub (.lc [1] (.v 1) (.ex (.tup (.cons false (.con (.str [32, 60, 61, 32])) (.cons false (.con (.str [32, 60, 32])) (.cons false (.con (.str [32, 61, 32])) .nil))))) (.cons false (.cmp .in_ (.var 1) (.var 0)) .nil) (.var 1)) (.con (.int 0))))
  .nil)⟩
def d_Library___init__ : Df := ⟨2, 5,
  (.cons (.ite (.not (.call 2 (.cons false (.var 1) .nil)))
    (.cons (.raise 7 .nil)
  .nil)
    .nil)
  (.cons (.asg (.pat (.v 2)) (.dic .nil))
  (.cons (.for_ (.t [(.v 3), (.v 4)]) (.enum (.var 1))
    (.cons (.ite (.not (.call 124 (.cons false (.var 4) (.cons false (.var 2) .nil))))
    (.cons (.raise 7 .nil)
  .nil)
    .nil)
  (.cons (.asg (.sub (.var 2) (.attr (.var 4) 11)) (.var 4))
  .nil)))
  (.cons (.asg (.attr (.var 0) 9) (.bi .tuple (.cons false (.var 1) .nil)))
  (.cons (.asg (.attr (.var 0) 10) (.dic .nil))
  (.cons (.for_ (.v 4) (.ex (.var 1))
    (.cons (.asg (.sub (.attr (.var 0) 10) (.attr (.var 4) 11)) (.meth (.var 0) 38 (.cons false (.var 4) .nil)))
  .nil))
  .nil))))))⟩
def d_Library_made_face : Df := ⟨2, 6,
  (.cons (.asg (.pat (.v 2)) (.bi .list (.cons false (.attr (.var 1) 5) .nil)))
  (.cons (.for_ (.t [(.v 3), (.v 4)]) (.ex (.attr (.var 1) 14))
    (.cons (.expr (.bm .extend (.var 2) (.cons false (.call 125 (.cons false (.sub (.attr (.var 0) 10) (.var 3)) (.cons false (.var 4) .nil))) .nil)))
  .nil))
  (.cons (.asg (.pat (.v 5)) (.new 1 (.cons false (.tup (.cons true (.attr (.var 1) 12) (.cons true (.attr (.var 1) 13) .nil))) (.cons false (.var 2) .nil))))
  (.cons (.ret (.call 108 (.cons false (.var 5) (.cons false (.attr (.var 1) 13) .nil))))
  .nil))))⟩
def d_Library_face : Df := ⟨2, 2,
  (.cons (.ite (.or (.not (.isi (.var 1) [.str])) (.cmp .notin (.var 1) (.attr (.var 0) 10)))
    (.cons (.raise 11 .nil)
  .nil)
    .nil)
  (.cons (.ret (.sub (.attr (.var 0) 10) (.var 1)))
  .nil))⟩
def d_Library_lets : Df := ⟨3, 4,
  (.cons (.asg (.pat (.v 3)) (.meth (.var 0) 39 (.cons false (.var 1) .nil)))
  (.cons (.expr (.call 64 (.cons false (.var 3) (.cons false (.var 2) .nil))))
  (.cons (.ret (.meth (.var 3) 24 (.cons false (.var 2) .nil)))
  .nil)))⟩
def d_Library_fits : Df := ⟨4, 7,
  (.cons (.asg (.pat (.v 4)) (.meth (.var 0) 39 (.cons false (.var 1) .nil)))
  (.cons (.for_ (.v 5) (.ex (.var 3))
    (.cons (.expr (.call 73 (.cons false (.var 2) (.cons false (.var 5) .nil))))
  .nil))
  (.cons (.ret (.bi .all (.cons false (.lc [6] (.v 6) (.ex (.call 125 (.cons false (.var 4) (.cons false (.var 3) .nil)))) .nil (.call 77 (.cons false (.var 2) (.cons false (.var 6) .nil)))) .nil)))
  .nil)))⟩
def d_Library_stuck : Df := ⟨1, 3,
  (.cons (.ret (.bi .tuple (.cons false (.lc [1, 2] (.t [(.v 1), (.v 2)]) (.enum (.attr (.var 0) 9)) (.cons false (.not (.call 62 (.cons false (.sub (.attr (.var 0) 10) (.attr (.var 2) 11)) .nil))) .nil) (.var 1)) .nil)))
  .nil)⟩
def d_Library___len__ : Df := ⟨1, 1,
  (.cons (.ret (.bi .len (.cons false (.attr (.var 0) 9) .nil)))
  .nil)⟩
def d_Library___iter__ : Df := ⟨1, 1,
  (.cons (.raise 12 .nil)
  .nil)⟩
def d_Live___init__ : Df := ⟨2, 2,
  (.cons (.asg (.attr (.var 0) 7) (.lst (.cons false (.new 1 (.cons false (.var 1) (.cons false (.tup .nil) .nil))) .nil)))
  .nil)⟩
def d_Live_book : Df := ⟨1, 1,
  (.cons (.ret (.sub (.attr (.var 0) 7) (.neg (.con (.int 1)))))
  .nil)⟩
def d_Live_demand : Df := ⟨2, 5,
  (.cons (.asg (.pat (.v 2)) (.attr (.var 0) 31))
  (.cons (.asg (.pat (.v 3)) (.meth (.var 2) 21 (.cons false (.var 1) .nil)))
  (.cons (.ite (.not (.call 62 (.cons false (.var 3) .nil)))
    (.cons (.raise 10 .nil)
  .nil)
    .nil)
  (.cons (.asg (.pat (.v 4)) (.ife (.call 77 (.cons false (.var 2) (.cons false (.var 1) .nil))) (.con (.str [102, 111, 108, 108, 111, 119, 115])) (.con (.str [110, 101, 119]))))
  (.cons (.expr (.bm .append (.attr (.var 0) 7) (.cons false (.var 3) .nil)))
  (.cons (.ret (.var 4))
  .nil))))))⟩
def d_Live_least_clash : Df := ⟨2, 4,
  (.cons (.asg (.pat (.v 2)) (.attr (.var 0) 31))
  (.cons (.asg (.pat (.v 3)) (.con (.int 0)))
  (.cons (.whl (.call 62 (.cons false (.new 1 (.cons false (.attr (.var 2) 4) (.cons false (.lst (.cons true (.slc (.attr (.var 2) 5) .none (.some (.var 3))) (.cons false (.var 1) .nil))) .nil))) .nil))
    (.cons (.aug 3 .add (.con (.int 1)))
  .nil))
  (.cons (.ret (.var 3))
  .nil))))⟩
def d_Live_drop : Df := ⟨2, 2,
  (.cons (.ite (.or (.not (.call 1 (.cons false (.var 1) .nil))) (.cmp .ge (.var 1) (.bi .len (.cons false (.attr (.var 0) 31) .nil))))
    (.cons (.raise 9 .nil)
  .nil)
    .nil)
  (.cons (.expr (.bm .append (.attr (.var 0) 7) (.cons false (.meth (.attr (.var 0) 31) 22 (.cons false (.var 1) .nil)) .nil)))
  (.cons (.ret (.bi .len (.cons false (.attr (.var 0) 31) .nil)))
  .nil)))⟩
def d_Live_undo : Df := ⟨1, 1,
  (.cons (.ite (.cmp .eq (.bi .len (.cons false (.attr (.var 0) 7) .nil)) (.con (.int 1)))
    (.cons (.ret (.con (.bl false)))
  .nil)
    .nil)
  (.cons (.expr (.bm .pop (.attr (.var 0) 7) .nil))
  (.cons (.ret (.con (.bl true)))
  .nil)))⟩
def d_Live___len__ : Df := ⟨1, 1,
  (.cons (.ret (.bi .len (.cons false (.slc (.attr (.var 0) 7) (.some (.con (.int 1))) .none) .nil)))
  .nil)⟩
def d_Live___iter__ : Df := ⟨1, 1,
  (.cons (.raise 12 .nil)
  .nil)⟩
def d_part_of : Df := ⟨1, 4,
  (.cons (.asg (.pat (.t [(.v 1), (.v 2)])) (.tup (.cons false (.sub (.var 0) (.con (.int 0))) (.cons false (.slc (.var 0) (.some (.con (.int 1))) .none) .nil))))
  (.cons (.ite (.and (.cmp .in_ (.var 1) (.glob 6)) (.cmp .eq (.bi .len (.cons false (.var 2) .nil)) (.con (.int 0))))
    (.cons (.ret (.con (.str [])))
  .nil)
    .nil)
  (.cons (.ite (.and (.cmp .in_ (.var 1) (.glob 7)) (.cmp .gt (.bi .len (.cons false (.var 2) .nil)) (.con (.int 0))))
    (.cons (.ret (.bm .join (.con (.str [32])) (.cons false (.var 2) .nil)))
  .nil)
    .nil)
  (.cons (.ite (.and (.cmp .eq (.var 1) (.con (.str [115, 112, 97, 110]))) (.cmp .eq (.bi .len (.cons false (.var 2) .nil)) (.con (.int 1))))
    (.cons (.ret (.sub (.var 2) (.con (.int 0))))
  .nil)
    .nil)
  (.cons (.asg (.pat (.v 3)) (.ife (.and (.cmp .eq (.var 1) (.con (.str [100, 114, 111, 112]))) (.cmp .eq (.bi .len (.cons false (.var 2) .nil)) (.con (.int 1)))) (.call 5 (.cons false (.sub (.var 2) (.con (.int 0))) (.cons false (.glob 8) .nil))) (.con .non)))
  (.cons (.ite (.cmp .is (.var 3) (.con .non))
    (.cons (.raise 8 .nil)
  .nil)
    .nil)
  (.cons (.ret (.var 3))
  .nil)))))))⟩
def d_span_text : Df := ⟨1, 1,
  (.cons (.ret (.fstr (.cons false (.sub (.var 0) (.con (.int 0))) (.cons false (.con (.str [32])) (.cons false (.ife (.cmp .is (.sub (.var 0) (.con (.int 1))) (.con .non)) (.con (.str [97, 110, 121])) (.sub (.var 0) (.con (.int 1)))) .nil)))))
  .nil)⟩
def d_Desk___init__ : Df := ⟨1, 1,
  (.cons (.asg (.attr (.var 0) 8) (.con .non))
  .nil)⟩
def d_Desk_say : Df := ⟨2, 4,
  (.cons (.ite (.or (.not (.isi (.var 1) [.str])) (.or (.cmp .in_ (.con (.str [10])) (.var 1)) (.cmp .in_ (.con (.str [])) (.bm .split (.var 1) (.cons false (.con (.str [32])) .nil)))))
    (.cons (.raise 8 .nil)
  .nil)
    .nil)
  (.cons (.asg (.pat (.v 2)) (.bm .split (.var 1) (.cons false (.con (.str [32])) .nil)))
  (.cons (.ite (.and (.cmp .eq (.sub (.var 2) (.con (.int 0))) (.con (.str [110, 97, 109, 101, 115]))) (.cmp .gt (.bi .len (.cons false (.var 2) .nil)) (.con (.int 1))))
    (.cons (.asg (.attr (.var 0) 8) (.new 2 (.cons false (.slc (.var 2) (.some (.con (.int 1))) .none) .nil)))
  (.cons (.ret (.bi .str (.cons false (.bin .sub (.bi .len (.cons false (.var 2) .nil)) (.con (.int 1))) .nil)))
  .nil))
    .nil)
  (.cons (.asg (.pat (.v 3)) (.call 144 (.cons false (.var 2) .nil)))
  (.cons (.ite (.cmp .is (.attr (.var 0) 8) (.con .non))
    (.cons (.raise 8 .nil)
  .nil)
    .nil)
  (.cons (.ret (.meth (.var 0) 44 (.cons false (.sub (.var 2) (.con (.int 0))) (.cons false (.var 3) .nil))))
  .nil))))))⟩
abbrev f_is_integer : Nat := 0
abbrev f_is_number : Nat := 1
abbrev f_is_sequence : Nat := 2
abbrev f_is_name : Nat := 3
abbrev f_are_unlike_names : Nat := 4
abbrev f_number_in : Nat := 5
abbrev f_lots_of : Nat := 6
abbrev f_word_at : Nat := 7
abbrev f_single : Nat := 8
abbrev f_opening_at : Nat := 9
abbrev f_is_closed : Nat := 10
abbrev f_Reader___init__ : Nat := 11
abbrev f_Reader_read_part : Nat := 12
abbrev f_Reader_read_more : Nat := 13
abbrev f_Reader_level : Nat := 14
abbrev f_read_level : Nat := 15
abbrev f_need_level : Nat := 16
abbrev f_demand_in : Nat := 17
abbrev f_need_demand : Nat := 18
abbrev f_names_in : Nat := 19
abbrev f_has_imax : Nat := 20
abbrev f_worth : Nat := 21
abbrev f_written : Nat := 22
abbrev f_text_of : Nat := 23
abbrev f_top_of : Nat := 24
abbrev f_is_nought : Nat := 25
abbrev f_parts_of : Nat := 26
abbrev f_atoms_of : Nat := 27
abbrev f_names_of : Nat := 28
abbrev f_value : Nat := 29
abbrev f_put_for : Nat := 30
abbrev f_atoms : Nat := 31
abbrev f_is_below : Nat := 32
abbrev f_cases : Nat := 33
abbrev f_never_above : Nat := 34
abbrev f_alike : Nat := 35
abbrev f_trials : Nat := 36
abbrev f_parting : Nat := 37
abbrev f_is_within : Nat := 38
abbrev f_is_true : Nat := 39
abbrev f_reach_of_books : Nat := 40
abbrev f_need_numbers_books : Nat := 41
abbrev f_is_head : Nat := 42
abbrev f_Book___init__ : Nat := 43
abbrev f_Book_is_plain : Nat := 45
abbrev f_Book_reach : Nat := 46
abbrev f_Book_with_demand : Nat := 47
abbrev f_Book_but : Nat := 48
abbrev f_Book_broken : Nat := 49
abbrev f_Book_keeps : Nat := 50
abbrev f_Book___len__ : Nat := 51
abbrev f_Book___iter__ : Nat := 52
abbrev f_Book___eq__ : Nat := 53
abbrev f_Book___str__ : Nat := 54
abbrev f_sides : Nat := 55
abbrev f_bounds_of : Nat := 56
abbrev f_reach_of_solutions : Nat := 57
abbrev f_lowered : Nat := 58
abbrev f_case_numbers : Nat := 59
abbrev f_all_highest : Nat := 60
abbrev f_numbers_of : Nat := 61
abbrev f_can_be : Nat := 62
abbrev f_some_numbers : Nat := 63
abbrev f_need_numbers_solutions : Nat := 64
abbrev f_highest : Nat := 65
abbrev f_rows_of : Nat := 66
abbrev f_is_above : Nat := 67
abbrev f_lowest : Nat := 68
abbrev f_with_top : Nat := 69
abbrev f_span : Nat := 70
abbrev f_is_own : Nat := 71
abbrev f_demand_for : Nat := 72
abbrev f_level_for : Nat := 73
abbrev f_denied : Nat := 74
abbrev f_against : Nat := 75
abbrev f_counter : Nat := 76
abbrev f_follows : Nat := 77
abbrev f_raised : Nat := 78
abbrev f_further : Nat := 79
abbrev f_excess : Nat := 80
abbrev f_no_wider : Nat := 81
abbrev f_unlike : Nat := 82
abbrev f_denials : Nat := 83
abbrev f_bounds : Nat := 84
abbrev f_greatest_of : Nat := 85
abbrev f_are_kept : Nat := 86
abbrev f_least_part : Nat := 87
abbrev f_with_heights : Nat := 88
abbrev f_paper_of : Nat := 89
abbrev f_paper : Nat := 90
abbrev f_is_entry : Nat := 91
abbrev f_is_same : Nat := 92
abbrev f_case_holds : Nat := 93
abbrev f_paper_holds : Nat := 94
abbrev f_atoms_at : Nat := 95
abbrev f_plain_atoms : Nat := 96
abbrev f_plain_bounds : Nat := 97
abbrev f_neat : Nat := 98
abbrev f_neat_ones : Nat := 99
abbrev f_at_least_nought : Nat := 100
abbrev f_can_stand : Nat := 101
abbrev f_is_needless : Nat := 102
abbrev f_fewer : Nat := 103
abbrev f_put_together : Nat := 104
abbrev f_left_out : Nat := 105
abbrev f_atom_text : Nat := 106
abbrev f_demand_text : Nat := 107
abbrev f_without : Nat := 108
abbrev f_joined : Nat := 109
abbrev f_between : Nat := 110
abbrev f_stands : Nat := 111
abbrev f_by_size : Nat := 112
abbrev f_least_clashes : Nat := 113
abbrev f_needless : Nat := 115
abbrev f_are_names : Nat := 116
abbrev f_is_plain_level : Nat := 117
abbrev f_is_plain_demand : Nat := 118
abbrev f_is_call : Nat := 119
abbrev f_Definition___init__ : Nat := 120
abbrev f_Definition_parts : Nat := 121
abbrev f_Definition___iter__ : Nat := 122
abbrev f_Definition___eq__ : Nat := 123
abbrev f_is_fitting : Nat := 124
abbrev f_demands_of_call : Nat := 125
abbrev f_sign_of : Nat := 126
abbrev f_Library___init__ : Nat := 127
abbrev f_Library_made_face : Nat := 128
abbrev f_Library_face : Nat := 129
abbrev f_Library_lets : Nat := 130
abbrev f_Library_fits : Nat := 131
abbrev f_Library_stuck : Nat := 132
abbrev f_Library___len__ : Nat := 133
abbrev f_Library___iter__ : Nat := 134
abbrev f_Live___init__ : Nat := 135
abbrev f_Live_book : Nat := 136
abbrev f_Live_demand : Nat := 137
abbrev f_Live_least_clash : Nat := 138
abbrev f_Live_drop : Nat := 139
abbrev f_Live_undo : Nat := 140
abbrev f_Live___len__ : Nat := 142
abbrev f_Live___iter__ : Nat := 143
abbrev f_part_of : Nat := 144
abbrev f_span_text : Nat := 145
abbrev f_Desk___init__ : Nat := 146
abbrev f_Desk_say : Nat := 147
end Ev.Pr

set_option maxRecDepth 100000
namespace Ev.LB
open Ev
/-- calls:  -/
def box  : Df := ⟨2, 4,
  (.cons (.asg (.pat (.v 2)) (.bin .add (.bin .mul (.con (.int 7349)) (.var 1)) (.con (.int 167))))
  (.cons (.ite (.cmp .lt (.var 1) (.bi .len (.cons false (.var 0) .nil)))
    (.cons (.asg (.pat (.v 2)) (.bi .abs (.cons false (.sub (.var 0) (.var 1)) .nil)))
  .nil)
    (.cons (.ite (.cmp .gt (.bi .len (.cons false (.var 0) .nil)) (.con (.int 0)))
    (.cons (.asg (.pat (.v 2)) (.bin .add (.var 2) (.bin .mul (.bin .mod (.bi .int (.cons false (.bi .abs (.cons false (.bi .int (.cons false (.sub (.var 0) (.bin .mod (.bi .int (.cons false (.var 1) .nil)) (.bi .len (.cons false (.var 0) .nil)))) .nil)) .nil)) .nil)) (.con (.int 2147483629))) (.con (.int 71503)))))
  .nil)
    .nil)
  .nil))
  (.cons (.asg (.pat (.v 3)) (.bin .add (.bin .mod (.bi .int (.cons false (.bin .add (.bin .mul (.bin .mod (.bi .int (.cons false (.var 2) .nil)) (.con (.int 2147483629))) (.con (.int 48271))) (.bin .mul (.con (.int 42023)) (.var 1))) .nil)) (.con (.int 2147483629))) (.con (.int 1))))
  (.cons (.ret (.lst (.cons false (.sub (.lst (.cons false (.con (.int 0)) (.cons false (.var 2) .nil))) (.bi .int (.cons false (.cmp .ge (.var 2) (.bin .pow (.con (.int 10)) (.con (.int 18)))) .nil))) (.cons false (.var 3) (.cons false (.con (.int 0)) .nil)))))
  .nil))))⟩
/-- calls:  -/
def take  : Df := ⟨2, 4,
  (.cons (.ite (.cmp .gt (.sub (.var 0) (.con (.int 0))) (.con (.int 0)))
    (.cons (.asg (.pat (.v 2)) (.bin .mod (.bi .int (.cons false (.sub (.var 0) (.con (.int 0))) .nil)) (.var 1)))
  (.cons (.asg (.sub (.var 0) (.con (.int 0))) (.bin .fdiv (.sub (.var 0) (.con (.int 0))) (.var 1)))
  (.cons (.ret (.var 2))
  .nil)))
    .nil)
  (.cons (.asg (.sub (.var 0) (.con (.int 2))) (.bin .add (.sub (.var 0) (.con (.int 2))) (.con (.int 1))))
  (.cons (.asg (.pat (.v 3)) (.bin .mod (.bi .int (.cons false (.bin .mul (.bin .add (.sub (.var 0) (.con (.int 1))) (.bin .mul (.con (.int 106907)) (.sub (.var 0) (.con (.int 2))))) (.con (.int 71711))) .nil)) (.con (.int 2147483647))))
  (.cons (.asg (.sub (.var 0) (.con (.int 1))) (.bin .add (.bin .mod (.bi .int (.cons false (.bin .add (.bin .mul (.var 3) (.con (.int 48271))) (.con (.int 32009))) .nil)) (.con (.int 2147483629))) (.con (.int 1))))
  (.cons (.ret (.bin .mod (.bi .int (.cons false (.bin .fdiv (.bin .add (.bin .mul (.var 3) (.con (.int 2147483647))) (.sub (.var 0) (.con (.int 1)))) (.con (.int 8191))) .nil)) (.var 1)))
  .nil)))))⟩
/-- calls: i_take -/
def pick (i_take : Nat) : Df := ⟨2, 2,
  (.cons (.ret (.sub (.var 1) (.call i_take (.cons false (.var 0) (.cons false (.bi .len (.cons false (.var 1) .nil)) .nil)))))
  .nil)⟩
/-- calls: i_take -/
def mixed (i_take : Nat) : Df := ⟨2, 4,
  (.cons (.asg (.pat (.t [(.v 2), (.v 3)])) (.tup (.cons false (.bi .list (.cons false (.var 1) .nil)) (.cons false (.lst .nil) .nil))))
  (.cons (.whl (.cmp .ne (.var 2) (.lst .nil))
    (.cons (.expr (.bm .append (.var 3) (.cons false (.bm .pop (.var 2) (.cons false (.call i_take (.cons false (.var 0) (.cons false (.bi .len (.cons false (.var 2) .nil)) .nil))) .nil)) .nil)))
  .nil))
  (.cons (.ret (.var 3))
  .nil)))⟩
/-- calls: i_take i_pick i_level -/
def level (i_take : Nat) (i_pick : Nat) (i_level : Nat) : Df := ⟨5, 8,
  (.cons (.asg (.pat (.v 5)) (.ife (.cmp .gt (.var 2) (.con (.int 0))) (.call i_take (.cons false (.var 0) (.cons false (.bin .add (.con (.int 7)) (.bi .int (.cons false (.var 4) .nil))) .nil))) (.call i_take (.cons false (.var 0) (.cons false (.con (.int 3)) .nil)))))
  (.cons (.ite (.cmp .eq (.var 5) (.con (.int 0)))
    (.cons (.ret (.tup (.cons false (.con (.str [110, 117, 109, 98, 101, 114])) (.cons false (.call i_take (.cons false (.var 0) (.cons false (.bin .add (.var 3) (.con (.int 1))) .nil))) .nil))))
  .nil)
    .nil)
  (.cons (.ite (.cmp .lt (.var 5) (.con (.int 3)))
    (.cons (.ret (.tup (.cons false (.con (.str [110, 97, 109, 101])) (.cons false (.call i_pick (.cons false (.var 0) (.cons false (.var 1) .nil))) .nil))))
  .nil)
    .nil)
  (.cons (.ite (.cmp .lt (.var 5) (.con (.int 5)))
    (.cons (.ret (.tup (.cons false (.con (.str [112, 108, 117, 115])) (.cons false (.call i_level (.cons false (.var 0) (.cons false (.var 1) (.cons false (.bin .sub (.var 2) (.con (.int 1))) (.cons false (.var 3) (.cons false (.var 4) .nil)))))) (.cons false (.call i_take (.cons false (.var 0) (.cons false (.bin .add (.var 3) (.con (.int 1))) .nil))) .nil)))))
  .nil)
    .nil)
  (.cons (.asg (.pat (.t [(.v 6), (.v 7)])) (.tup (.cons false (.call i_level (.cons false (.var 0) (.cons false (.var 1) (.cons false (.bin .sub (.var 2) (.con (.int 1))) (.cons false (.var 3) (.cons false (.var 4) .nil)))))) (.cons false (.call i_level (.cons false (.var 0) (.cons false (.var 1) (.cons false (.bin .sub (.var 2) (.con (.int 1))) (.cons false (.var 3) (.cons false (.var 4) .nil)))))) .nil))))
  (.cons (.ret (.tup (.cons false (.ife (.cmp .gt (.var 5) (.con (.int 6))) (.con (.str [105, 109, 97, 120])) (.con (.str [109, 97, 120]))) (.cons false (.var 6) (.cons false (.var 7) .nil)))))
  .nil))))))⟩
/-- calls: i_text -/
def text (i_text : Nat) : Df := ⟨1, 1,
  (.cons (.ite (.cmp .in_ (.sub (.var 0) (.con (.int 0))) (.tup (.cons false (.con (.str [110, 117, 109, 98, 101, 114])) (.cons false (.con (.str [110, 97, 109, 101])) .nil))))
    (.cons (.ret (.bi .str (.cons false (.sub (.var 0) (.con (.int 1))) .nil)))
  .nil)
    .nil)
  (.cons (.ite (.cmp .eq (.sub (.var 0) (.con (.int 0))) (.con (.str [112, 108, 117, 115])))
    (.cons (.ret (.bin .add (.bin .add (.call i_text (.cons false (.sub (.var 0) (.con (.int 1))) .nil)) (.con (.str [32, 43, 32]))) (.bi .str (.cons false (.sub (.var 0) (.con (.int 2))) .nil))))
  .nil)
    .nil)
  (.cons (.ret (.bin .add (.bin .add (.bin .add (.bin .add (.bin .add (.sub (.var 0) (.con (.int 0))) (.con (.str [40]))) (.call i_text (.cons false (.sub (.var 0) (.con (.int 1))) .nil))) (.con (.str [44, 32]))) (.call i_text (.cons false (.sub (.var 0) (.con (.int 2))) .nil))) (.con (.str [41]))))
  .nil)))⟩
/-- calls: i_worth -/
def worth (i_worth : Nat) : Df := ⟨2, 4,
  (.cons (.ite (.cmp .eq (.sub (.var 0) (.con (.int 0))) (.con (.str [110, 117, 109, 98, 101, 114])))
    (.cons (.ret (.sub (.var 0) (.con (.int 1))))
  .nil)
    .nil)
  (.cons (.ite (.cmp .eq (.sub (.var 0) (.con (.int 0))) (.con (.str [110, 97, 109, 101])))
    (.cons (.ret (.sub (.var 1) (.sub (.var 0) (.con (.int 1)))))
  .nil)
    .nil)
  (.cons (.ite (.cmp .eq (.sub (.var 0) (.con (.int 0))) (.con (.str [112, 108, 117, 115])))
    (.cons (.ret (.bin .add (.call i_worth (.cons false (.sub (.var 0) (.con (.int 1))) (.cons false (.var 1) .nil))) (.sub (.var 0) (.con (.int 2)))))
  .nil)
    .nil)
  (.cons (.asg (.pat (.t [(.v 2), (.v 3)])) (.tup (.cons false (.bi .int (.cons false (.call i_worth (.cons false (.sub (.var 0) (.con (.int 1))) (.cons false (.var 1) .nil))) .nil)) (.cons false (.bi .int (.cons false (.call i_worth (.cons false (.sub (.var 0) (.con (.int 2))) (.cons false (.var 1) .nil))) .nil)) .nil))))
  (.cons (.ret (.ife (.and (.cmp .eq (.sub (.var 0) (.con (.int 0))) (.con (.str [105, 109, 97, 120]))) (.cmp .eq (.var 3) (.con (.int 0)))) (.con (.int 0)) (.bi .max (.cons false (.var 2) (.cons false (.var 3) .nil)))))
  .nil)))))⟩
/-- calls: i_pick i_level -/
def demand (i_pick : Nat) (i_level : Nat) : Df := ⟨4, 5,
  (.cons (.asg (.pat (.v 4)) (.call i_pick (.cons false (.var 0) (.cons false (.lst (.cons false (.con (.str [60, 61])) (.cons false (.con (.str [60, 61])) (.cons false (.con (.str [60, 61])) (.cons false (.con (.str [60])) (.cons false (.con (.str [60])) (.cons false (.con (.str [61])) .nil))))))) .nil))))
  (.cons (.ret (.tup (.cons false (.call i_level (.cons false (.var 0) (.cons false (.var 1) (.cons false (.con (.int 1)) (.cons false (.var 2) (.cons false (.var 3) .nil)))))) (.cons false (.var 4) (.cons false (.call i_level (.cons false (.var 0) (.cons false (.var 1) (.cons false (.con (.int 2)) (.cons false (.var 2) (.cons false (.var 3) .nil)))))) .nil)))))
  .nil))⟩
/-- calls: i_worth -/
def is_true (i_worth : Nat) : Df := ⟨2, 4,
  (.cons (.asg (.pat (.t [(.v 2), (.v 3)])) (.tup (.cons false (.call i_worth (.cons false (.sub (.var 0) (.con (.int 0))) (.cons false (.var 1) .nil))) (.cons false (.call i_worth (.cons false (.sub (.var 0) (.con (.int 2))) (.cons false (.var 1) .nil))) .nil))))
  (.cons (.ret (.ife (.cmp .eq (.sub (.var 0) (.con (.int 1))) (.con (.str [60, 61]))) (.cmp .le (.var 2) (.var 3)) (.ife (.cmp .eq (.sub (.var 0) (.con (.int 1))) (.con (.str [60]))) (.cmp .lt (.var 2) (.var 3)) (.cmp .eq (.var 2) (.var 3)))))
  .nil))⟩
/-- calls: i_text -/
def said (i_text : Nat) : Df := ⟨1, 1,
  (.cons (.ret (.bin .add (.bin .add (.bin .add (.bin .add (.call i_text (.cons false (.sub (.var 0) (.con (.int 0))) .nil)) (.con (.str [32]))) (.sub (.var 0) (.con (.int 1)))) (.con (.str [32]))) (.call i_text (.cons false (.sub (.var 0) (.con (.int 2))) .nil))))
  .nil)⟩
end Ev.LB

set_option maxRecDepth 100000
namespace Ev.T
open Ev
def d_is_name : Df := ⟨1, 2,
  (.cons (.ite (.or (.not (.isi (.var 0) [.str])) (.or (.not (.chain .le .le (.con (.int 1)) (.bi .len (.cons false (.var 0) .nil)) (.con (.int 4)))) (.cmp .in_ (.var 0) (.glob 2))))
    (.cons (.ret (.con (.bl false)))
  .nil)
    .nil)
  (.cons (.ret (.bi .all (.cons false (.lc [1] (.v 1) (.ex (.var 0)) .nil (.cmp .in_ (.var 1) (.glob 1))) .nil)))
  .nil))⟩
def d_number_in : Df := ⟨2, 3,
  (.cons (.ite (.or (.not (.chain .le .le (.con (.int 1)) (.bi .len (.cons false (.var 0) .nil)) (.var 1))) (.not (.bi .all (.cons false (.lc [2] (.v 2) (.ex (.var 0)) .nil (.cmp .in_ (.var 2) (.glob 0))) .nil))))
    (.cons (.ret (.con .non))
  .nil)
    .nil)
  (.cons (.ret (.ife (.and (.cmp .eq (.sub (.var 0) (.con (.int 0))) (.con (.str [48]))) (.cmp .ne (.var 0) (.con (.str [48])))) (.con .non) (.bi .int (.cons false (.var 0) .nil))))
  .nil))⟩
def d_word_at : Df := ⟨2, 3,
  (.cons (.asg (.pat (.v 2)) (.var 1))
  (.cons (.whl (.and (.cmp .lt (.var 2) (.bi .len (.cons false (.var 0) .nil))) (.or (.cmp .in_ (.sub (.var 0) (.var 2)) (.glob 1)) (.cmp .in_ (.sub (.var 0) (.var 2)) (.glob 0))))
    (.cons (.aug 2 .add (.con (.int 1)))
  .nil))
  (.cons (.ret (.slc (.var 0) (.some (.var 1)) (.some (.var 2))))
  .nil)))⟩
def d_single : Df := ⟨1, 2,
  (.cons (.asg (.pat (.v 1)) (.call 5 (.cons false (.var 0) (.cons false (.glob 3) .nil))))
  (.cons (.ite (.cmp .isnot (.var 1) (.con .non))
    (.cons (.ret (.tup (.cons false (.con (.str [110, 117, 109, 98, 101, 114])) (.cons false (.var 1) .nil))))
  .nil)
    .nil)
  (.cons (.ret (.ife (.call 3 (.cons false (.var 0) .nil)) (.tup (.cons false (.con (.str [110, 97, 109, 101])) (.cons false (.var 0) .nil))) (.con .non)))
  .nil)))⟩
def d_opening_at : Df := ⟨2, 4,
  (.cons (.for_ (.t [(.v 2), (.v 3)]) (.ex (.glob 5))
    (.cons (.ite (.cmp .eq (.slc (.var 0) (.some (.var 1)) (.some (.bin .add (.var 1) (.bi .len (.cons false (.var 2) .nil))))) (.var 2))
    (.cons (.ret (.tup (.cons false (.var 2) (.cons false (.var 3) .nil))))
  .nil)
    .nil)
  .nil))
  (.cons (.ret (.con .non))
  .nil))⟩
def d_is_closed : Df := ⟨2, 2,
  (.cons (.ret (.or (.cmp .eq (.bi .len (.cons false (.var 1) .nil)) (.con (.int 2))) (.and (.cmp .eq (.var 0) (.con (.str [109, 97, 120]))) (.cmp .gt (.bi .len (.cons false (.var 1) .nil)) (.con (.int 2))))))
  .nil)⟩
def d_Reader___init__ : Df := ⟨2, 2,
  (.cons (.asg (.attr (.var 0) 0) (.var 1))
  (.cons (.asg (.attr (.var 0) 1) (.con (.int 0)))
  (.cons (.asg (.attr (.var 0) 2) (.lst (.cons false (.tup (.cons false (.con (.str [116, 111, 112])) (.cons false (.lst .nil) .nil))) .nil)))
  (.cons (.asg (.attr (.var 0) 3) (.con (.bl false)))
  .nil))))⟩
def d_Reader_read_part : Df := ⟨1, 4,
  (.cons (.asg (.pat (.v 1)) (.call 9 (.cons false (.attr (.var 0) 0) (.cons false (.attr (.var 0) 1) .nil))))
  (.cons (.whl (.cmp .isnot (.var 1) (.con .non))
    (.cons (.augAttr (.var 0) 1 .add (.bi .len (.cons false (.sub (.var 1) (.con (.int 0))) .nil)))
  (.cons (.expr (.bm .append (.attr (.var 0) 2) (.cons false (.tup (.cons false (.sub (.var 1) (.con (.int 1))) (.cons false (.lst .nil) .nil))) .nil)))
  (.cons (.asg (.pat (.v 1)) (.call 9 (.cons false (.attr (.var 0) 0) (.cons false (.attr (.var 0) 1) .nil))))
  .nil))))
  (.cons (.asg (.pat (.v 2)) (.call 7 (.cons false (.attr (.var 0) 0) (.cons false (.attr (.var 0) 1) .nil))))
  (.cons (.asg (.pat (.v 3)) (.call 8 (.cons false (.var 2) .nil)))
  (.cons (.ite (.cmp .is (.var 3) (.con .non))
    (.cons (.asg (.attr (.var 0) 3) (.con (.bl true)))
  .nil)
    .nil)
  (.cons (.expr (.bm .append (.sub (.sub (.attr (.var 0) 2) (.neg (.con (.int 1)))) (.con (.int 1))) (.cons false (.var 3) .nil)))
  (.cons (.augAttr (.var 0) 1 .add (.bi .len (.cons false (.var 2) .nil)))
  .nil)))))))⟩
def d_Reader_read_more : Df := ⟨1, 5,
  (.cons (.whl (.and (.not (.attr (.var 0) 3)) (.and (.cmp .lt (.attr (.var 0) 1) (.bi .len (.cons false (.attr (.var 0) 0) .nil))) (.cmp .ne (.sub (.attr (.var 0) 0) (.attr (.var 0) 1)) (.con (.str [44])))))
    (.cons (.ite (.cmp .eq (.slc (.attr (.var 0) 0) (.some (.attr (.var 0) 1)) (.some (.bin .add (.attr (.var 0) 1) (.con (.int 3))))) (.con (.str [32, 43, 32])))
    (.cons (.asg (.pat (.v 1)) (.call 7 (.cons false (.attr (.var 0) 0) (.cons false (.bin .add (.attr (.var 0) 1) (.con (.int 3))) .nil))))
  (.cons (.asg (.pat (.v 2)) (.call 5 (.cons false (.var 1) (.cons false (.glob 3) .nil))))
  (.cons (.expr (.bm .append (.sub (.sub (.attr (.var 0) 2) (.neg (.con (.int 1)))) (.con (.int 1))) (.cons false (.tup (.cons false (.con (.str [112, 108, 117, 115])) (.cons false (.bm .pop (.sub (.sub (.attr (.var 0) 2) (.neg (.con (.int 1)))) (.con (.int 1))) .nil) (.cons false (.var 2) .nil)))) .nil)))
  (.cons (.augAttr (.var 0) 1 .add (.bin .add (.con (.int 3)) (.bi .len (.cons false (.var 1) .nil))))
  (.cons (.asg (.attr (.var 0) 3) (.cmp .is (.var 2) (.con .non)))
  .nil)))))
    (.cons (.ite (.and (.cmp .eq (.sub (.attr (.var 0) 0) (.attr (.var 0) 1)) (.con (.str [41]))) (.cmp .gt (.bi .len (.cons false (.attr (.var 0) 2) .nil)) (.con (.int 1))))
    (.cons (.asg (.pat (.t [(.v 3), (.v 4)])) (.bm .pop (.attr (.var 0) 2) .nil))
  (.cons (.expr (.bm .append (.sub (.sub (.attr (.var 0) 2) (.neg (.con (.int 1)))) (.con (.int 1))) (.cons false (.tup (.cons false (.var 3) (.cons true (.var 4) .nil))) .nil)))
  (.cons (.augAttr (.var 0) 1 .add (.con (.int 1)))
  (.cons (.asg (.attr (.var 0) 3) (.not (.call 10 (.cons false (.var 3) (.cons false (.var 4) .nil)))))
  .nil))))
    (.cons (.asg (.attr (.var 0) 3) (.con (.bl true)))
  .nil))
  .nil))
  .nil))
  .nil)⟩
def d_Reader_level : Df := ⟨1, 1,
  (.cons (.expr (.meth (.var 0) 16 .nil))
  (.cons (.expr (.meth (.var 0) 17 .nil))
  (.cons (.whl (.and (.not (.attr (.var 0) 3)) (.cmp .lt (.attr (.var 0) 1) (.bi .len (.cons false (.attr (.var 0) 0) .nil))))
    (.cons (.asg (.attr (.var 0) 3) (.or (.cmp .ne (.slc (.attr (.var 0) 0) (.some (.attr (.var 0) 1)) (.some (.bin .add (.attr (.var 0) 1) (.con (.int 2))))) (.con (.str [44, 32]))) (.cmp .eq (.bi .len (.cons false (.attr (.var 0) 2) .nil)) (.con (.int 1)))))
  (.cons (.augAttr (.var 0) 1 .add (.con (.int 2)))
  (.cons (.ite (.not (.attr (.var 0) 3))
    (.cons (.expr (.meth (.var 0) 16 .nil))
  (.cons (.expr (.meth (.var 0) 17 .nil))
  .nil))
    .nil)
  .nil))))
  (.cons (.ret (.ife (.or (.attr (.var 0) 3) (.cmp .gt (.bi .len (.cons false (.attr (.var 0) 2) .nil)) (.con (.int 1)))) (.con .non) (.sub (.sub (.sub (.attr (.var 0) 2) (.con (.int 0))) (.con (.int 1))) (.con (.int 0)))))
  .nil))))⟩
def d_read_level : Df := ⟨1, 1,
  (.cons (.ret (.ife (.isi (.var 0) [.str]) (.meth (.new 0 (.cons false (.var 0) .nil)) 18 .nil) (.con .non)))
  .nil)⟩
def d_demand_in : Df := ⟨1, 7,
  (.cons (.ite (.not (.isi (.var 0) [.str]))
    (.cons (.ret (.con .non))
  .nil)
    .nil)
  (.cons (.for_ (.v 1) (.ex (.glob 4))
    (.cons (.asg (.pat (.t [(.v 2), (.v 3), (.v 4)])) (.bm .partition (.var 0) (.cons false (.var 1) .nil)))
  (.cons (.ite (.cmp .ne (.var 3) (.con (.str [])))
    (.cons (.asg (.pat (.t [(.v 5), (.v 6)])) (.tup (.cons false (.call 15 (.cons false (.var 2) .nil)) (.cons false (.call 15 (.cons false (.var 4) .nil)) .nil))))
  (.cons (.ret (.ife (.or (.cmp .is (.var 5) (.con .non)) (.cmp .is (.var 6) (.con .non))) (.con .non) (.tup (.cons false (.var 5) (.cons false (.bm .strip (.var 1) (.cons false (.con (.str [32])) .nil)) (.cons false (.var 6) .nil))))))
  .nil))
    .nil)
  .nil)))
  (.cons (.ret (.con .non))
  .nil)))⟩
def d_need_demand : Df := ⟨1, 2,
  (.cons (.asg (.pat (.v 1)) (.call 17 (.cons false (.var 0) .nil)))
  (.cons (.ite (.cmp .is (.var 1) (.con .non))
    (.cons (.raise 2 .nil)
  .nil)
    .nil)
  (.cons (.ret (.var 1))
  .nil)))⟩
def d_written : Df := ⟨2, 3,
  (.cons (.ite (.cmp .eq (.sub (.var 0) (.con (.int 0))) (.con (.str [110, 117, 109, 98, 101, 114])))
    (.cons (.ret (.bi .str (.cons false (.sub (.var 0) (.con (.int 1))) .nil)))
  .nil)
    .nil)
  (.cons (.ite (.cmp .eq (.sub (.var 0) (.con (.int 0))) (.con (.str [110, 97, 109, 101])))
    (.cons (.ret (.bm .get (.var 1) (.cons false (.sub (.var 0) (.con (.int 1))) (.cons false (.sub (.var 0) (.con (.int 1))) .nil))))
  .nil)
    .nil)
  (.cons (.ite (.cmp .eq (.sub (.var 0) (.con (.int 0))) (.con (.str [112, 108, 117, 115])))
    (.cons (.ret (.fstr (.cons false (.call 22 (.cons false (.sub (.var 0) (.con (.int 1))) (.cons false (.var 1) .nil))) (.cons false (.con (.str [32, 43, 32])) (.cons false (.sub (.var 0) (.con (.int 2))) .nil)))))
  .nil)
    .nil)
  (.cons (.ret (.fstr (.cons false (.sub (.var 0) (.con (.int 0))) (.cons false (.con (.str [40])) (.cons false (.bm .join (.con (.str [44, 32])) (.cons false (.lc [2] (.v 2) (.ex (.slc (.var 0) (.some (.con (.int 1))) .none)) .nil (.call 22 (.cons false (.var 2) (.cons false (.var 1) .nil)))) .nil)) (.cons false (.con (.str [41])) .nil))))))
  .nil))))⟩
def d_text_of : Df := ⟨1, 1,
  (.cons (.ret (.call 22 (.cons false (.var 0) (.cons false (.dic .nil) .nil))))
  .nil)⟩
def d_denied : Df := ⟨1, 4,
  (.cons (.asg (.pat (.t [(.v 1), (.v 2), (.v 3)])) (.var 0))
  (.cons (.ite (.cmp .eq (.var 2) (.con (.str [61])))
    (.cons (.ret (.lst (.cons false (.tup (.cons false (.var 1) (.cons false (.con (.str [60])) (.cons false (.var 3) .nil)))) (.cons false (.tup (.cons false (.var 3) (.cons false (.con (.str [60])) (.cons false (.var 1) .nil)))) .nil))))
  .nil)
    .nil)
  (.cons (.ret (.lst (.cons false (.tup (.cons false (.var 3) (.cons false (.ife (.cmp .eq (.var 2) (.con (.str [60, 61]))) (.con (.str [60])) (.con (.str [60, 61]))) (.cons false (.var 1) .nil)))) .nil)))
  .nil)))⟩
def d_denials : Df := ⟨1, 5,
  (.cons (.asg (.pat (.v 1)) (.call 74 (.cons false (.call 18 (.cons false (.var 0) .nil)) .nil)))
  (.cons (.ret (.bi .tuple (.cons false (.lc [2, 3, 4] (.t [(.v 2), (.v 3), (.v 4)]) (.ex (.var 1)) .nil (.fstr (.cons false (.call 23 (.cons false (.var 2) .nil)) (.cons false (.con (.str [32])) (.cons false (.var 3) (.cons false (.con (.str [32])) (.cons false (.call 23 (.cons false (.var 4) .nil)) .nil))))))) .nil)))
  .nil))⟩
def d__law_box : Df := ⟨2, 4,
  (.cons (.asg (.pat (.v 2)) (.bin .add (.bin .mul (.con (.int 7349)) (.var 1)) (.con (.int 167))))
  (.cons (.ite (.cmp .lt (.var 1) (.bi .len (.cons false (.var 0) .nil)))
    (.cons (.asg (.pat (.v 2)) (.bi .abs (.cons false (.sub (.var 0) (.var 1)) .nil)))
  .nil)
    (.cons (.ite (.cmp .gt (.bi .len (.cons false (.var 0) .nil)) (.con (.int 0)))
    (.cons (.asg (.pat (.v 2)) (.bin .add (.var 2) (.bin .mul (.bin .mod (.bi .int (.cons false (.bi .abs (.cons false (.bi .int (.cons false (.sub (.var 0) (.bin .mod (.bi .int (.cons false (.var 1) .nil)) (.bi .len (.cons false (.var 0) .nil)))) .nil)) .nil)) .nil)) (.con (.int 2147483629))) (.con (.int 71503)))))
  .nil)
    .nil)
  .nil))
  (.cons (.asg (.pat (.v 3)) (.bin .add (.bin .mod (.bi .int (.cons false (.bin .add (.bin .mul (.bin .mod (.bi .int (.cons false (.var 2) .nil)) (.con (.int 2147483629))) (.con (.int 48271))) (.bin .mul (.con (.int 42023)) (.var 1))) .nil)) (.con (.int 2147483629))) (.con (.int 1))))
  (.cons (.ret (.lst (.cons false (.sub (.lst (.cons false (.con (.int 0)) (.cons false (.var 2) .nil))) (.bi .int (.cons false (.cmp .ge (.var 2) (.bin .pow (.con (.int 10)) (.con (.int 18)))) .nil))) (.cons false (.var 3) (.cons false (.con (.int 0)) .nil)))))
  .nil))))⟩
def d__law_take : Df := ⟨2, 4,
  (.cons (.ite (.cmp .gt (.sub (.var 0) (.con (.int 0))) (.con (.int 0)))
    (.cons (.asg (.pat (.v 2)) (.bin .mod (.bi .int (.cons false (.sub (.var 0) (.con (.int 0))) .nil)) (.var 1)))
  (.cons (.asg (.sub (.var 0) (.con (.int 0))) (.bin .fdiv (.sub (.var 0) (.con (.int 0))) (.var 1)))
  (.cons (.ret (.var 2))
  .nil)))
    .nil)
  (.cons (.asg (.sub (.var 0) (.con (.int 2))) (.bin .add (.sub (.var 0) (.con (.int 2))) (.con (.int 1))))
  (.cons (.asg (.pat (.v 3)) (.bin .mod (.bi .int (.cons false (.bin .mul (.bin .add (.sub (.var 0) (.con (.int 1))) (.bin .mul (.con (.int 106907)) (.sub (.var 0) (.con (.int 2))))) (.con (.int 71711))) .nil)) (.con (.int 2147483647))))
  (.cons (.asg (.sub (.var 0) (.con (.int 1))) (.bin .add (.bin .mod (.bi .int (.cons false (.bin .add (.bin .mul (.var 3) (.con (.int 48271))) (.con (.int 32009))) .nil)) (.con (.int 2147483629))) (.con (.int 1))))
  (.cons (.ret (.bin .mod (.bi .int (.cons false (.bin .fdiv (.bin .add (.bin .mul (.var 3) (.con (.int 2147483647))) (.sub (.var 0) (.con (.int 1)))) (.con (.int 8191))) .nil)) (.var 1)))
  .nil)))))⟩
def d__law_pick : Df := ⟨2, 2,
  (.cons (.ret (.sub (.var 1) (.call 201 (.cons false (.var 0) (.cons false (.bi .len (.cons false (.var 1) .nil)) .nil)))))
  .nil)⟩
def d__law_level : Df := ⟨5, 8,
  (.cons (.asg (.pat (.v 5)) (.ife (.cmp .gt (.var 2) (.con (.int 0))) (.call 201 (.cons false (.var 0) (.cons false (.bin .add (.con (.int 7)) (.bi .int (.cons false (.var 4) .nil))) .nil))) (.call 201 (.cons false (.var 0) (.cons false (.con (.int 3)) .nil)))))
  (.cons (.ite (.cmp .eq (.var 5) (.con (.int 0)))
    (.cons (.ret (.tup (.cons false (.con (.str [110, 117, 109, 98, 101, 114])) (.cons false (.call 201 (.cons false (.var 0) (.cons false (.bin .add (.var 3) (.con (.int 1))) .nil))) .nil))))
  .nil)
    .nil)
  (.cons (.ite (.cmp .lt (.var 5) (.con (.int 3)))
    (.cons (.ret (.tup (.cons false (.con (.str [110, 97, 109, 101])) (.cons false (.call 202 (.cons false (.var 0) (.cons false (.var 1) .nil))) .nil))))
  .nil)
    .nil)
  (.cons (.ite (.cmp .lt (.var 5) (.con (.int 5)))
    (.cons (.ret (.tup (.cons false (.con (.str [112, 108, 117, 115])) (.cons false (.call 204 (.cons false (.var 0) (.cons false (.var 1) (.cons false (.bin .sub (.var 2) (.con (.int 1))) (.cons false (.var 3) (.cons false (.var 4) .nil)))))) (.cons false (.call 201 (.cons false (.var 0) (.cons false (.bin .add (.var 3) (.con (.int 1))) .nil))) .nil)))))
  .nil)
    .nil)
  (.cons (.asg (.pat (.t [(.v 6), (.v 7)])) (.tup (.cons false (.call 204 (.cons false (.var 0) (.cons false (.var 1) (.cons false (.bin .sub (.var 2) (.con (.int 1))) (.cons false (.var 3) (.cons false (.var 4) .nil)))))) (.cons false (.call 204 (.cons false (.var 0) (.cons false (.var 1) (.cons false (.bin .sub (.var 2) (.con (.int 1))) (.cons false (.var 3) (.cons false (.var 4) .nil)))))) .nil))))
  (.cons (.ret (.tup (.cons false (.ife (.cmp .gt (.var 5) (.con (.int 6))) (.con (.str [105, 109, 97, 120])) (.con (.str [109, 97, 120]))) (.cons false (.var 6) (.cons false (.var 7) .nil)))))
  .nil))))))⟩
def d__law_text : Df := ⟨1, 1,
  (.cons (.ite (.cmp .in_ (.sub (.var 0) (.con (.int 0))) (.tup (.cons false (.con (.str [110, 117, 109, 98, 101, 114])) (.cons false (.con (.str [110, 97, 109, 101])) .nil))))
    (.cons (.ret (.bi .str (.cons false (.sub (.var 0) (.con (.int 1))) .nil)))
  .nil)
    .nil)
  (.cons (.ite (.cmp .eq (.sub (.var 0) (.con (.int 0))) (.con (.str [112, 108, 117, 115])))
    (.cons (.ret (.bin .add (.bin .add (.call 205 (.cons false (.sub (.var 0) (.con (.int 1))) .nil)) (.con (.str [32, 43, 32]))) (.bi .str (.cons false (.sub (.var 0) (.con (.int 2))) .nil))))
  .nil)
    .nil)
  (.cons (.ret (.bin .add (.bin .add (.bin .add (.bin .add (.bin .add (.sub (.var 0) (.con (.int 0))) (.con (.str [40]))) (.call 205 (.cons false (.sub (.var 0) (.con (.int 1))) .nil))) (.con (.str [44, 32]))) (.call 205 (.cons false (.sub (.var 0) (.con (.int 2))) .nil))) (.con (.str [41]))))
  .nil)))⟩
def d__law_worth : Df := ⟨2, 4,
  (.cons (.ite (.cmp .eq (.sub (.var 0) (.con (.int 0))) (.con (.str [110, 117, 109, 98, 101, 114])))
    (.cons (.ret (.sub (.var 0) (.con (.int 1))))
  .nil)
    .nil)
  (.cons (.ite (.cmp .eq (.sub (.var 0) (.con (.int 0))) (.con (.str [110, 97, 109, 101])))
    (.cons (.ret (.sub (.var 1) (.sub (.var 0) (.con (.int 1)))))
  .nil)
    .nil)
  (.cons (.ite (.cmp .eq (.sub (.var 0) (.con (.int 0))) (.con (.str [112, 108, 117, 115])))
    (.cons (.ret (.bin .add (.call 206 (.cons false (.sub (.var 0) (.con (.int 1))) (.cons false (.var 1) .nil))) (.sub (.var 0) (.con (.int 2)))))
  .nil)
    .nil)
  (.cons (.asg (.pat (.t [(.v 2), (.v 3)])) (.tup (.cons false (.bi .int (.cons false (.call 206 (.cons false (.sub (.var 0) (.con (.int 1))) (.cons false (.var 1) .nil))) .nil)) (.cons false (.bi .int (.cons false (.call 206 (.cons false (.sub (.var 0) (.con (.int 2))) (.cons false (.var 1) .nil))) .nil)) .nil))))
  (.cons (.ret (.ife (.and (.cmp .eq (.sub (.var 0) (.con (.int 0))) (.con (.str [105, 109, 97, 120]))) (.cmp .eq (.var 3) (.con (.int 0)))) (.con (.int 0)) (.bi .max (.cons false (.var 2) (.cons false (.var 3) .nil)))))
  .nil)))))⟩
def d__law_demand : Df := ⟨4, 5,
  (.cons (.asg (.pat (.v 4)) (.call 202 (.cons false (.var 0) (.cons false (.lst (.cons false (.con (.str [60, 61])) (.cons false (.con (.str [60, 61])) (.cons false (.con (.str [60, 61])) (.cons false (.con (.str [60])) (.cons false (.con (.str [60])) (.cons false (.con (.str [61])) .nil))))))) .nil))))
  (.cons (.ret (.tup (.cons false (.call 204 (.cons false (.var 0) (.cons false (.var 1) (.cons false (.con (.int 1)) (.cons false (.var 2) (.cons false (.var 3) .nil)))))) (.cons false (.var 4) (.cons false (.call 204 (.cons false (.var 0) (.cons false (.var 1) (.cons false (.con (.int 2)) (.cons false (.var 2) (.cons false (.var 3) .nil)))))) .nil)))))
  .nil))⟩
def d__law_is_true : Df := ⟨2, 4,
  (.cons (.asg (.pat (.t [(.v 2), (.v 3)])) (.tup (.cons false (.call 206 (.cons false (.sub (.var 0) (.con (.int 0))) (.cons false (.var 1) .nil))) (.cons false (.call 206 (.cons false (.sub (.var 0) (.con (.int 2))) (.cons false (.var 1) .nil))) .nil))))
  (.cons (.ret (.ife (.cmp .eq (.sub (.var 0) (.con (.int 1))) (.con (.str [60, 61]))) (.cmp .le (.var 2) (.var 3)) (.ife (.cmp .eq (.sub (.var 0) (.con (.int 1))) (.con (.str [60]))) (.cmp .lt (.var 2) (.var 3)) (.cmp .eq (.var 2) (.var 3)))))
  .nil))⟩
def d__law_said : Df := ⟨1, 1,
  (.cons (.ret (.bin .add (.bin .add (.bin .add (.bin .add (.call 205 (.cons false (.sub (.var 0) (.con (.int 0))) .nil)) (.con (.str [32]))) (.sub (.var 0) (.con (.int 1)))) (.con (.str [32]))) (.call 205 (.cons false (.sub (.var 0) (.con (.int 2))) .nil))))
  .nil)⟩
def d_law : Df := ⟨1, 14,
  (.cons (.for_ (.v 1) (.range1 (.bi .max (.cons false (.con (.int 1)) (.cons false (.bi .min (.cons false (.con (.int 4)) (.cons false (.bi .len (.cons false (.var 0) .nil)) .nil))) .nil))))
    (.cons (.asg (.pat (.v 2)) (.call 200 (.cons false (.var 0) (.cons false (.var 1) .nil))))
  (.cons (.asg (.pat (.v 3)) (.lst (.cons false (.con (.str [117])) (.cons false (.con (.str [118, 118])) (.cons false (.con (.str [119])) .nil)))))
  (.cons (.for_ (.v 4) (.range1 (.con (.int 6)))
    (.cons (.asg (.pat (.t [(.v 5), (.v 6), (.v 7)])) (.call 207 (.cons false (.var 2) (.cons false (.var 3) (.cons false (.con (.int 4)) (.cons false (.cmp .eq (.bin .mod (.var 4) (.con (.int 2))) (.con (.int 0))) .nil))))))
  (.cons (.asg (.pat (.v 6)) (.sub (.lst (.cons false (.con (.str [60, 61])) (.cons false (.con (.str [60])) (.cons false (.con (.str [61])) .nil)))) (.bin .mod (.var 4) (.con (.int 3)))))
  (.cons (.asg (.pat (.v 8)) (.ife (.cmp .eq (.var 6) (.con (.str [60, 61]))) (.lst (.cons false (.tup (.cons false (.var 7) (.cons false (.con (.str [60])) (.cons false (.var 5) .nil)))) .nil)) (.ife (.cmp .eq (.var 6) (.con (.str [60]))) (.lst (.cons false (.tup (.cons false (.var 7) (.cons false (.con (.str [60, 61])) (.cons false (.var 5) .nil)))) .nil)) (.lst .nil))))
  (.cons (.asg (.pat (.v 8)) (.ife (.cmp .ne (.var 8) (.lst .nil)) (.var 8) (.lst (.cons false (.tup (.cons false (.var 5) (.cons false (.con (.str [60])) (.cons false (.var 7) .nil)))) (.cons false (.tup (.cons false (.var 7) (.cons false (.con (.str [60])) (.cons false (.var 5) .nil)))) .nil)))))
  (.cons (.ite (.cmp .ne (.call 83 (.cons false (.call 209 (.cons false (.tup (.cons false (.var 5) (.cons false (.var 6) (.cons false (.var 7) .nil)))) .nil)) .nil)) (.bi .tuple (.cons false (.lc [9] (.v 9) (.ex (.var 8)) .nil (.call 209 (.cons false (.var 9) .nil))) .nil)))
    (.cons (.ret (.con (.bl false)))
  .nil)
    .nil)
  (.cons (.for_ (.v 10) (.range1 (.con (.int 6)))
    (.cons (.asg (.pat (.v 11)) (.bi .dict (.cons false (.lc [12] (.v 12) (.ex (.var 3)) .nil (.tup (.cons false (.var 12) (.cons false (.call 201 (.cons false (.var 2) (.cons false (.con (.int 7)) .nil))) .nil)))) .nil)))
  (.cons (.asg (.pat (.v 13)) (.bi .len (.cons false (.lc [9] (.v 9) (.ex (.var 8)) (.cons false (.call 208 (.cons false (.var 9) (.cons false (.var 11) .nil))) .nil) (.con (.int 1))) .nil)))
  (.cons (.ite (.cmp .ne (.var 13) (.bi .int (.cons false (.not (.call 208 (.cons false (.tup (.cons false (.var 5) (.cons false (.var 6) (.cons false (.var 7) .nil)))) (.cons false (.var 11) .nil)))) .nil)))
    (.cons (.ret (.con (.bl false)))
  .nil)
    .nil)
  .nil))))
  .nil)))))))
  .nil))))
  (.cons (.ret (.and (.cmp .eq (.call 83 (.cons false (.con (.str [117, 32, 60, 61, 32, 109, 97, 120, 40, 118, 44, 32, 50, 41])) .nil)) (.tup (.cons false (.con (.str [109, 97, 120, 40, 118, 44, 32, 50, 41, 32, 60, 32, 117])) .nil))) (.cmp .eq (.call 83 (.cons false (.con (.str [48, 32, 60, 32, 117, 32, 43, 32, 49])) .nil)) (.tup (.cons false (.con (.str [117, 32, 43, 32, 49, 32, 60, 61, 32, 48])) .nil)))))
  .nil))⟩
abbrev f_is_name : Nat := 3
abbrev f_number_in : Nat := 5
abbrev f_word_at : Nat := 7
abbrev f_single : Nat := 8
abbrev f_opening_at : Nat := 9
abbrev f_is_closed : Nat := 10
abbrev f_Reader___init__ : Nat := 11
abbrev f_Reader_read_part : Nat := 12
abbrev f_Reader_read_more : Nat := 13
abbrev f_Reader_level : Nat := 14
abbrev f_read_level : Nat := 15
abbrev f_demand_in : Nat := 17
abbrev f_need_demand : Nat := 18
abbrev f_written : Nat := 22
abbrev f_text_of : Nat := 23
abbrev f_denied : Nat := 74
abbrev f_denials : Nat := 83
abbrev f__law_box : Nat := 200
abbrev f__law_take : Nat := 201
abbrev f__law_pick : Nat := 202
abbrev f__law_level : Nat := 204
abbrev f__law_text : Nat := 205
abbrev f__law_worth : Nat := 206
abbrev f__law_demand : Nat := 207
abbrev f__law_is_true : Nat := 208
abbrev f__law_said : Nat := 209
abbrev f_law : Nat := 400
def pg : Pg := ⟨[.str [48, 49, 50, 51, 52, 53, 54, 55, 56, 57], .str [97, 98, 99, 100, 101, 102, 103, 104, 105, 106, 107, 108, 109, 110, 111, 112, 113, 114, 115, 116, 117, 118, 119, 120, 121, 122], .tup [.str [109, 97, 120], .str [105, 109, 97, 120]], .int 4, .tup [.str [32, 60, 61, 32], .str [32, 60, 32], .str [32, 61, 32]], .tup [.tup [.str [105, 109, 97, 120, 40], .str [105, 109, 97, 120]], .tup [.str [109, 97, 120, 40], .str [109, 97, 120]]], .non, .non, .non], [
  ⟨some 11, [(16, 12), (17, 13), (18, 14)], [], [0, 1, 2, 3]⟩,
  {},
  {},
  {},
  {},
  {}]⟩
def Dtab : Nat → Option Df
  | 3 => some d_is_name
  | 5 => some d_number_in
  | 7 => some d_word_at
  | 8 => some d_single
  | 9 => some d_opening_at
  | 10 => some d_is_closed
  | 11 => some d_Reader___init__
  | 12 => some d_Reader_read_part
  | 13 => some d_Reader_read_more
  | 14 => some d_Reader_level
  | 15 => some d_read_level
  | 17 => some d_demand_in
  | 18 => some d_need_demand
  | 22 => some d_written
  | 23 => some d_text_of
  | 74 => some d_denied
  | 83 => some d_denials
  | 200 => some d__law_box
  | 201 => some d__law_take
  | 202 => some d__law_pick
  | 204 => some d__law_level
  | 205 => some d__law_text
  | 206 => some d__law_worth
  | 207 => some d__law_demand
  | 208 => some d__law_is_true
  | 209 => some d__law_said
  | 400 => some d_law
  | _ => none
end Ev.T


set_option hygiene false in
local macro_rules | `(tactic| wtm_at "ev") => `(tactic| (repeat' (first | (refine q_next ?_) | (refine q_ret ?_) | (refine e_ret ?_) | (refine e_next ?_) | (refine o_next ?_) | (refine o_ret ?_) | (refine o_brk ?_) | (refine o_cnt ?_) | (refine q_brk ?_) | (refine q_cnt ?_) | (refine w_snil ?_) | (refine w_scons ?_) | (refine w_expr ?_) | (refine w_asg ?_) | (refine w_ret ?_) | (refine w_if ?_) | (refine w_aug rfl ?_) | (refine w_augAttr ?_) | (refine w_tpat rfl ?_) | (refine w_tsub ?_) | (refine w_tattr ?_) | (refine w_var rfl ?_) | (refine w_glob (by assumption) ?_) | (refine w_con ?_) | (refine w_bin ?_) | (refine w_not ?_) | (refine w_neg ?_) | (refine w_and ?_) | (refine w_or ?_) | (refine w_cmp ?_) | (refine w_chain ?_) | (refine w_ife ?_) | (refine w_tup ?_) | (refine w_lst ?_) | (refine w_dic ?_) | (refine w_sub ?_) | (refine w_slc ?_) | (refine w_onone ?_) | (refine w_osome ?_) | (refine w_attr ?_) | (refine w_call ?_) | (refine w_new ?_) | (refine w_meth ?_) | (refine w_bi ?_) | (refine w_isi ?_) | (refine w_bm ?_) | (refine w_fstr ?_) | (refine w_fnil ?_) | (refine w_fcons ?_) | (refine w_anil ?_) | (refine w_acons ?_) | (refine w_dnil ?_) | (refine w_dkv ?_) | (refine w_inil ?_) | (refine w_icons ?_) | (refine w_iex ?_) | (refine w_irange1 ?_) | (first | (refine ⟨_, rfl, fun _ => ?_, fun t => absurd t (by decide)⟩) | (refine ⟨_, rfl, fun t => absurd t (by decide), fun _ => ?_⟩) | (refine ⟨_, rfl, fun _ => ?_, fun t => Bool.noConfusion t⟩) | (refine ⟨_, rfl, fun t => Bool.noConfusion t, fun _ => ?_⟩) | (refine ⟨_, rfl, fun t => ?_, fun t => ?_⟩)) | (refine ⟨_, (f_meth (by assumption) (by assumption) rfl rfl), ?_⟩) | (refine ⟨_, (f_rd (by assumption) (by assumption) rfl rfl), ?_⟩) | (refine ⟨_, (c_lt), ?_⟩) | (refine ⟨_, (c_le), ?_⟩) | (refine ⟨_, (c_gt), ?_⟩) | (refine ⟨_, (c_ge), ?_⟩) | (refine ⟨_, (c_eqs), ?_⟩) | (refine ⟨_, (c_nes), ?_⟩) | (refine ⟨_, (c_eqi), ?_⟩) | (refine ⟨_, (c_nei), ?_⟩) | (refine ⟨_, (c_eqb), ?_⟩) | (refine ⟨_, (c_neb), ?_⟩) | (refine ⟨_, (c_isn), ?_⟩) | (refine ⟨_, (c_isnn), ?_⟩) | (refine ⟨_, (c_inS), ?_⟩) | (refine ⟨_, (c_inT rfl), ?_⟩) | (refine ⟨_, (c_ninT rfl), ?_⟩) | (refine ⟨_, rfl, ?_⟩) | (refine ⟨(rfl : (_ : Bool) = true), ?_⟩) | (refine ⟨p_list (by first | assumption | exact get_new | exact push_get (by assumption) | exact set_get (by assumption) | exact set_get (set_get (by assumption)) | exact set_get (set_get (set_get (by assumption))) | exact push_get (push_get (by assumption)) | exact push_get get_new) rfl, ?_⟩) | (refine ⟨p_dict (by first | assumption | exact get_new | exact push_get (by assumption) | exact set_get (by assumption) | exact set_get (set_get (by assumption)) | exact set_get (set_get (set_get (by assumption))) | exact push_get (push_get (by assumption)) | exact push_get get_new) rfl, ?_⟩) | (refine b_add ?_) | (refine b_sub ?_) | (refine b_pow rfl ?_) | (refine b_mulc (mulOk_r (by decide) (by decide)) ?_) | (refine b_mulc (mulOk_l (by decide) (by decide)) ?_) | (refine b_mod (by first | decide | assumption) ?_) | (refine b_fdiv (by first | decide | assumption) (by first | decide | assumption) ?_) | (refine a_add ?_) | (refine a_sub ?_) | (refine s_t0 ?_) | (refine s_ln (k := 0) (by first | assumption | exact get_new | exact push_get (by assumption) | exact set_get (by assumption) | exact set_get (set_get (by assumption)) | exact set_get (set_get (set_get (by assumption))) | exact push_get (push_get (by assumption)) | exact push_get get_new) rfl ?_) | (refine s_ln (k := 1) (by first | assumption | exact get_new | exact push_get (by assumption) | exact set_get (by assumption) | exact set_get (set_get (by assumption)) | exact set_get (set_get (set_get (by assumption))) | exact push_get (push_get (by assumption)) | exact push_get get_new) rfl ?_) | (refine s_ln (k := 2) (by first | assumption | exact get_new | exact push_get (by assumption) | exact set_get (by assumption) | exact set_get (set_get (by assumption)) | exact set_get (set_get (set_get (by assumption))) | exact push_get (push_get (by assumption)) | exact push_get get_new) rfl ?_) | (refine t_list (k := 0) (by first | assumption | exact get_new | exact push_get (by assumption) | exact set_get (by assumption) | exact set_get (set_get (by assumption)) | exact set_get (set_get (set_get (by assumption))) | exact push_get (push_get (by assumption)) | exact push_get get_new) (by simp) ?_) | (refine t_list (k := 1) (by first | assumption | exact get_new | exact push_get (by assumption) | exact set_get (by assumption) | exact set_get (set_get (by assumption)) | exact set_get (set_get (set_get (by assumption))) | exact push_get (push_get (by assumption)) | exact push_get get_new) (by simp) ?_) | (refine t_list (k := 2) (by first | assumption | exact get_new | exact push_get (by assumption) | exact set_get (by assumption) | exact set_get (set_get (by assumption)) | exact set_get (set_get (set_get (by assumption))) | exact push_get (push_get (by assumption)) | exact push_get get_new) (by simp) ?_) | (refine w_slcT1 ?_) | (refine g_tup ?_) | (refine g_str ?_) | (refine g_lst (by first | assumption | exact get_new | exact push_get (by assumption) | exact set_get (by assumption) | exact set_get (set_get (by assumption)) | exact set_get (set_get (set_get (by assumption))) | exact push_get (push_get (by assumption)) | exact push_get get_new) ?_) | (refine a_rd (by assumption) (by assumption) rfl rfl ?_) | (refine s_sn (by assumption) (by assumption) ?_) | (refine s_t1 ?_) | (refine s_t2 ?_) | (refine w_lenS (by assumption) ?_) | (refine l_lenL (by first | assumption | exact get_new | exact push_get (by assumption) | exact set_get (by assumption) | exact set_get (set_get (by assumption)) | exact set_get (set_get (set_get (by assumption))) | exact push_get (push_get (by assumption)) | exact push_get get_new) ?_) | (refine l_lenT ?_) | (refine l_inti ?_) | (refine l_intb ?_) | (refine l_abs ?_) | (refine l_max2 ?_) | (refine l_min2 ?_) | (refine l_strs ?_) | (refine l_tupL (by first | assumption | exact get_new | exact push_get (by assumption) | exact set_get (by assumption) | exact set_get (set_get (by assumption)) | exact set_get (set_get (set_get (by assumption))) | exact push_get (push_get (by assumption)) | exact push_get get_new) ?_) | (refine l_tupT ?_) | (refine l_listL (by first | assumption | exact get_new | exact push_get (by assumption) | exact set_get (by assumption) | exact set_get (set_get (by assumption)) | exact set_get (set_get (set_get (by assumption))) | exact push_get (push_get (by assumption)) | exact push_get get_new) ?_) | (refine l_listT ?_) | (refine l_all (by first | assumption | exact get_new | exact push_get (by assumption) | exact set_get (by assumption) | exact set_get (set_get (by assumption)) | exact set_get (set_get (set_get (by assumption))) | exact push_get (push_get (by assumption)) | exact push_get get_new) (allBl_map _ _) ?_))))
set_option hygiene false in
local macro_rules | `(tactic| wtm_at "ee") => `(tactic| (repeat' (first | (refine q_ret ?_) | (refine e_ret ?_) | (refine e_next ?_) | (refine o_next ?_) | (refine o_ret ?_) | (refine o_brk ?_) | (refine o_cnt ?_) | (refine q_brk ?_) | (refine q_cnt ?_) | (refine w_snil ?_) | (refine w_scons ?_) | (refine w_expr ?_) | (refine w_asg ?_) | (refine w_ret ?_) | (refine w_if ?_) | (refine w_aug rfl ?_) | (refine w_augAttr ?_) | (refine w_tpat rfl ?_) | (refine w_tsub ?_) | (refine w_tattr ?_) | (refine w_var rfl ?_) | (refine w_glob (by assumption) ?_) | (refine w_con ?_) | (refine w_bin ?_) | (refine w_not ?_) | (refine w_neg ?_) | (refine w_and ?_) | (refine w_or ?_) | (refine w_cmp ?_) | (refine w_chain ?_) | (refine w_ife ?_) | (refine w_tup ?_) | (refine w_lst ?_) | (refine w_dic ?_) | (refine w_sub ?_) | (refine w_slc ?_) | (refine w_onone ?_) | (refine w_osome ?_) | (refine w_attr ?_) | (refine w_call ?_) | (refine w_new ?_) | (refine w_meth ?_) | (refine w_bi ?_) | (refine w_isi ?_) | (refine w_bm ?_) | (refine w_fstr ?_) | (refine w_fnil ?_) | (refine w_fcons ?_) | (refine w_anil ?_) | (refine w_acons ?_) | (refine w_dnil ?_) | (refine w_dkv ?_) | (refine w_inil ?_) | (refine w_icons ?_) | (refine w_iex ?_) | (refine w_irange1 ?_) | (first | (refine ⟨_, rfl, fun _ => ?_, fun t => absurd t (by decide)⟩) | (refine ⟨_, rfl, fun t => absurd t (by decide), fun _ => ?_⟩) | (refine ⟨_, rfl, fun _ => ?_, fun t => Bool.noConfusion t⟩) | (refine ⟨_, rfl, fun t => Bool.noConfusion t, fun _ => ?_⟩) | (refine ⟨_, rfl, fun t => ?_, fun t => ?_⟩)) | (refine ⟨_, (f_meth (by assumption) (by assumption) rfl rfl), ?_⟩) | (refine ⟨_, (f_rd (by assumption) (by assumption) rfl rfl), ?_⟩) | (refine ⟨_, (c_lt), ?_⟩) | (refine ⟨_, (c_le), ?_⟩) | (refine ⟨_, (c_gt), ?_⟩) | (refine ⟨_, (c_ge), ?_⟩) | (refine ⟨_, (c_eqs), ?_⟩) | (refine ⟨_, (c_nes), ?_⟩) | (refine ⟨_, (c_eqi), ?_⟩) | (refine ⟨_, (c_nei), ?_⟩) | (refine ⟨_, (c_eqb), ?_⟩) | (refine ⟨_, (c_neb), ?_⟩) | (refine ⟨_, (c_isn), ?_⟩) | (refine ⟨_, (c_isnn), ?_⟩) | (refine ⟨_, (c_inS), ?_⟩) | (refine ⟨_, (c_inT rfl), ?_⟩) | (refine ⟨_, (c_ninT rfl), ?_⟩) | (refine ⟨_, rfl, ?_⟩) | (refine ⟨(rfl : (_ : Bool) = true), ?_⟩) | (refine ⟨p_list (by first | assumption | exact get_new | exact push_get (by assumption) | exact set_get (by assumption) | exact set_get (set_get (by assumption)) | exact set_get (set_get (set_get (by assumption))) | exact push_get (push_get (by assumption)) | exact push_get get_new) rfl, ?_⟩) | (refine ⟨p_dict (by first | assumption | exact get_new | exact push_get (by assumption) | exact set_get (by assumption) | exact set_get (set_get (by assumption)) | exact set_get (set_get (set_get (by assumption))) | exact push_get (push_get (by assumption)) | exact push_get get_new) rfl, ?_⟩) | (refine b_add ?_) | (refine b_sub ?_) | (refine b_pow rfl ?_) | (refine b_mulc (mulOk_r (by decide) (by decide)) ?_) | (refine b_mulc (mulOk_l (by decide) (by decide)) ?_) | (refine b_mod (by first | decide | assumption) ?_) | (refine b_fdiv (by first | decide | assumption) (by first | decide | assumption) ?_) | (refine a_add ?_) | (refine a_sub ?_) | (refine s_t0 ?_) | (refine s_ln (k := 0) (by first | assumption | exact get_new | exact push_get (by assumption) | exact set_get (by assumption) | exact set_get (set_get (by assumption)) | exact set_get (set_get (set_get (by assumption))) | exact push_get (push_get (by assumption)) | exact push_get get_new) rfl ?_) | (refine s_ln (k := 1) (by first | assumption | exact get_new | exact push_get (by assumption) | exact set_get (by assumption) | exact set_get (set_get (by assumption)) | exact set_get (set_get (set_get (by assumption))) | exact push_get (push_get (by assumption)) | exact push_get get_new) rfl ?_) | (refine s_ln (k := 2) (by first | assumption | exact get_new | exact push_get (by assumption) | exact set_get (by assumption) | exact set_get (set_get (by assumption)) | exact set_get (set_get (set_get (by assumption))) | exact push_get (push_get (by assumption)) | exact push_get get_new) rfl ?_) | (refine t_list (k := 0) (by first | assumption | exact get_new | exact push_get (by assumption) | exact set_get (by assumption) | exact set_get (set_get (by assumption)) | exact set_get (set_get (set_get (by assumption))) | exact push_get (push_get (by assumption)) | exact push_get get_new) (by simp) ?_) | (refine t_list (k := 1) (by first | assumption | exact get_new | exact push_get (by assumption) | exact set_get (by assumption) | exact set_get (set_get (by assumption)) | exact set_get (set_get (set_get (by assumption))) | exact push_get (push_get (by assumption)) | exact push_get get_new) (by simp) ?_) | (refine t_list (k := 2) (by first | assumption | exact get_new | exact push_get (by assumption) | exact set_get (by assumption) | exact set_get (set_get (by assumption)) | exact set_get (set_get (set_get (by assumption))) | exact push_get (push_get (by assumption)) | exact push_get get_new) (by simp) ?_) | (refine w_slcT1 ?_) | (refine g_tup ?_) | (refine g_str ?_) | (refine g_lst (by first | assumption | exact get_new | exact push_get (by assumption) | exact set_get (by assumption) | exact set_get (set_get (by assumption)) | exact set_get (set_get (set_get (by assumption))) | exact push_get (push_get (by assumption)) | exact push_get get_new) ?_) | (refine a_rd (by assumption) (by assumption) rfl rfl ?_) | (refine s_sn (by assumption) (by assumption) ?_) | (refine s_t1 ?_) | (refine s_t2 ?_) | (refine w_lenS (by assumption) ?_) | (refine l_lenL (by first | assumption | exact get_new | exact push_get (by assumption) | exact set_get (by assumption) | exact set_get (set_get (by assumption)) | exact set_get (set_get (set_get (by assumption))) | exact push_get (push_get (by assumption)) | exact push_get get_new) ?_) | (refine l_lenT ?_) | (refine l_inti ?_) | (refine l_intb ?_) | (refine l_abs ?_) | (refine l_max2 ?_) | (refine l_min2 ?_) | (refine l_strs ?_) | (refine l_tupL (by first | assumption | exact get_new | exact push_get (by assumption) | exact set_get (by assumption) | exact set_get (set_get (by assumption)) | exact set_get (set_get (set_get (by assumption))) | exact push_get (push_get (by assumption)) | exact push_get get_new) ?_) | (refine l_tupT ?_) | (refine l_listL (by first | assumption | exact get_new | exact push_get (by assumption) | exact set_get (by assumption) | exact set_get (set_get (by assumption)) | exact set_get (set_get (set_get (by assumption))) | exact push_get (push_get (by assumption)) | exact push_get get_new) ?_) | (refine l_listT ?_) | (refine l_all (by first | assumption | exact get_new | exact push_get (by assumption) | exact set_get (by assumption) | exact set_get (set_get (by assumption)) | exact set_get (set_get (set_get (by assumption))) | exact push_get (push_get (by assumption)) | exact push_get get_new) (allBl_map _ _) ?_))))
set_option maxRecDepth 100000
namespace Ev
open Pr
def SML : Tx := [97, 98, 99, 100, 101, 102, 103, 104, 105, 106, 107, 108, 109, 110, 111, 112, 113, 114, 115, 116, 117, 118, 119, 120, 121, 122]
def DIG : Tx := [48, 49, 50, 51, 52, 53, 54, 55, 56, 57]
def BAR : List Val := [.str [109, 97, 120], .str [105, 109, 97, 120]]
/-- the reading of words -/
structure HasW (P : Pg) (D : Nat → Option Df) : Prop where
  dig : P.consts[0]? = some (.str DIG)
  sml : P.consts[1]? = some (.str SML)
  bar : P.consts[2]? = some (.tup BAR)
  most : P.consts[3]? = some (.int 4)
  isName : D 3 = some d_is_name
  numIn : D 5 = some d_number_in
  wordAt : D 7 = some d_word_at
  single : D 8 = some d_single
def isNameB (s : Tx) : Bool := decide (1 ≤ s.length) && decide (s.length ≤ 4) && !(s == [109, 97, 120]) && !(s == [105, 109, 97, 120]) && s.all (SML.contains ·)
def optV : Option Val → Val
  | none => .non
  | some v => v
/-- the number of a word of at most four digits -/
def numIn (s : Tx) : Option Nat := if (decide (1 ≤ s.length) && decide (s.length ≤ 4) && s.all (DIG.contains ·)) = true then (if (s.head? == some 48 && !(s == [48])) = true then none else some (digVal s 0)) else none
def optN : Option Nat → Val
  | none => .non
  | some n => .int n
/-- the letters and digits ahead -/
def alnum (c : Nat) : Bool := SML.contains c || DIG.contains c
def wordOf (s : Tx) : Tx := s.takeWhile alnum
def singleOf (s : Tx) : Option Val := match numIn s with
  | some n => some (.tup [.str [110, 117, 109, 98, 101, 114], .int n])
  | none => if isNameB s = true then some (.tup [.str [110, 97, 109, 101], .str s]) else none
section
variable {P : Pg} {D : Nat → Option Df} {W k : Nat} {h : Hp} {Q : Val → Hp → Prop}
theorem allBl_map (l : Tx) (f : Nat → Bool) : allBl (l.map fun c => Val.bl (f c)) = some (l.map f) := by
  induction l with
  | nil => rfl
  | cons a l ih => simp [allBl, ih]
/-- [sign in CONST for sign in text] -/
theorem m_signs {F : Fn} {st : St} {s : Tx} {i j g : Nat} {t : Tx} (hx : st[j]? = some (some (.str s))) (hi : i < st.length) (hg : P.consts[g]? = some (.str t)) (hl : s.length ≤ LIM)
    (q : Q (.ref h.length) (h ++ [.list false (s.map fun c => .bl (t.contains c))])) : wevE P F (.lc [i] (.v i) (.ex (.var j)) .nil (.cmp .in_ (.var i) (.glob g))) st h Q := by
  refine w_lcV (s.map fun c => Val.str [c]) (fun j acc h' => h' = h ∧ acc = (s.take j).map fun c => Val.bl (t.contains c)) ?_ ?_ ?_
  · refine w_iex (w_var hx ?_)
    unfold wwalkOf
    exact wok rfl ⟨rfl, rfl, ⟨rfl, rfl⟩, fun _ _ _ _ => rfl⟩
  · rintro j v acc h' hv ⟨rfl, rfl⟩
    rw [List.getElem?_map] at hv
    cases hc : s[j]? with
    | none => rw [hc] at hv; cases hv
    | some c =>
      rw [hc] at hv
      cases hv
      refine ⟨_, rfl, w_inil ⟨fun _ => ?_, fun z => absurd z (by decide)⟩⟩
      have hlt := (List.getElem?_eq_some_iff.mp hc).1
      refine w_cmp (w_var (v := .str [c]) (by simp [wipe, hi]) (w_glob hg ⟨_, c_inS, ?_, rfl, ?_⟩))
      · simp only [List.length_map, List.length_take]; omega
      · rw [List.take_add_one, hc]; simp
  · rintro acc h' ⟨rfl, rfl⟩
    rw [List.length_map, List.take_length]
    exact q
theorem beq_sw {a b : Tx} : (a == b) = (b == a) := by rw [Bool.eq_iff_iff, beq_iff_eq, beq_iff_eq]; exact ⟨Eq.symm, Eq.symm⟩
theorem isNameB_len {s : Tx} (h : ¬ (1 ≤ s.length ∧ s.length ≤ 4)) : isNameB s = false := by
  cases e : isNameB s with
  | false => rfl
  | true =>
    simp only [isNameB, Bool.and_eq_true, decide_eq_true_eq] at e
    exact absurd ⟨e.1.1.1.1, e.1.1.1.2⟩ h
theorem isNameB_bar {s : Tx} (h : (BAR.any fun y => eqS y (Val.str s)) = true) : isNameB s = false := by
  simp only [BAR, List.any_cons, List.any_nil, Bool.or_false, eqS, Bool.or_eq_true, beq_iff_eq] at h
  rcases h with rfl | rfl <;> rfl
theorem isNameB_all {s : Tx} (h1 : 1 ≤ s.length) (h2 : s.length ≤ 4) (h : (BAR.any fun y => eqS y (Val.str s)) = false) : isNameB s = s.all (SML.contains ·) := by
  simp only [BAR, List.any_cons, List.any_nil, Bool.or_false, eqS, Bool.or_eq_false_iff] at h
  have e1 : (s == [109, 97, 120]) = false := by rw [beq_sw]; exact h.1
  have e2 : (s == [105, 109, 97, 120]) = false := by rw [beq_sw]; exact h.2
  simp only [isNameB, e1, e2, decide_eq_true h1, decide_eq_true h2, Bool.not_false, Bool.true_and, Bool.and_true]
theorem m_is_name (H : HasW P D) (s : Tx) (hl : s.length ≤ LIM) (q : ∀ h', Kp [] h h' → Q (.bl (isNameB s)) h') : wF (calls P D W (k + 1)) 3 [.str s] h Q := by
  have c1 := H.sml
  have c2 := H.bar
  refine w_def H.isName rfl ?_
  wtm_at "ev"
  · rw [← isNameB_len (s := s) (by (try simp only [decide_eq_true_eq, decide_eq_false_iff_not, Bool.not_eq_true', Bool.not_eq_false', Bool.not_true, Bool.not_false] at *); omega)]; exact q h (.refl _ _)
  · rw [← isNameB_bar (s := s) (by assumption)]; exact q h (.refl _ _)
  · refine m_signs (j := 0) rfl (Nat.lt_succ_self 1) c1 hl ?_
    wtm_at "ev"
    have e : s.all (id ∘ SML.contains) = isNameB s := by rw [isNameB_all (by (try simp only [decide_eq_true_eq, decide_eq_false_iff_not, Bool.not_eq_true', Bool.not_eq_false', Bool.not_true, Bool.not_false] at *); omega) (by (try simp only [decide_eq_true_eq, decide_eq_false_iff_not, Bool.not_eq_true', Bool.not_eq_false', Bool.not_true, Bool.not_false] at *); omega) (by assumption)]; rfl
    rw [List.all_map]
    exact e ▸ q _ ((Kp.refl _ _).push _)
  · rw [← isNameB_len (s := s) (by (try simp only [decide_eq_true_eq, decide_eq_false_iff_not, Bool.not_eq_true', Bool.not_eq_false', Bool.not_true, Bool.not_false] at *); omega)]; exact q h (.refl _ _)
theorem digs_all {s : Tx} (h : s.all (DIG.contains ·) = true) : s.all isDig = true := by
  rw [List.all_eq_true] at h ⊢
  intro c hc
  have := h c hc
  simp only [DIG, List.contains_eq_mem, List.mem_cons, List.not_mem_nil, or_false, decide_eq_true_eq] at this
  unfold isDig
  simp only [Bool.and_eq_true, decide_eq_true_eq]
  omega
theorem digVal_int {s : Tx} (h1 : s.length ≤ 4) (h0 : 1 ≤ s.length) (h : s.all (DIG.contains ·) = true) : intOf s = some ((digVal s 0 : Nat) : Int) := by
  unfold intOf
  have e2 := digs_all h
  rw [if_pos]
  rw [e2]
  have e : s.isEmpty = false := by cases s with | nil => simp at h0 | cons _ _ => rfl
  rw [e]
  simp only [Bool.not_false, Bool.and_true, decide_eq_true_eq]
  omega
theorem numIn_len {s : Tx} (h : ¬ (1 ≤ s.length ∧ s.length ≤ 4)) : numIn s = none := by
  unfold numIn
  rw [if_neg]
  simp only [Bool.and_eq_true, decide_eq_true_eq]
  exact fun z => h z.1
theorem numIn_dig {s : Tx} (h : s.all (DIG.contains ·) = false) : numIn s = none := by
  unfold numIn
  rw [if_neg]
  simp only [Bool.and_eq_true, h]
  exact fun z => nomatch z.2
theorem numIn_do {s : Tx} (h1 : 1 ≤ s.length) (h2 : s.length ≤ 4) (h : s.all (DIG.contains ·) = true) : numIn s = if (s.head? == some 48 && !(s == [48])) = true then none else some (digVal s 0) := by
  unfold numIn
  rw [if_pos]
  simp only [Bool.and_eq_true, decide_eq_true_eq]
  exact ⟨⟨h1, h2⟩, h⟩
theorem m_number_in (H : HasW P D) (s : Tx) (hl : s.length ≤ LIM) (q : ∀ h', Kp [] h h' → Q (optN (numIn s)) h') : wF (calls P D W (k + 1)) 5 [.str s, .int 4] h Q := by
  have c0 := H.dig
  refine w_def H.numIn rfl ?_
  wtm_at "ev"
  · rw [numIn_len (s := s) (by (try simp only [decide_eq_true_eq, decide_eq_false_iff_not, Bool.not_eq_true', Bool.not_eq_false', Bool.not_true, Bool.not_false] at *); omega)] at q; exact q h (.refl _ _)
  · refine m_signs (j := 0) rfl (Nat.lt_succ_self 2) c0 hl ?_
    wtm_at "ev"
    · have e : s.all (DIG.contains ·) = false := by
        rw [List.all_map] at t
        simpa using t
      rw [numIn_dig e] at q
      exact q _ ((Kp.refl _ _).push _)
    · have e : s.all (DIG.contains ·) = true := by
        rw [List.all_map] at t
        simpa using t
      have h1 : 1 ≤ s.length := (by (try simp only [decide_eq_true_eq, decide_eq_false_iff_not, Bool.not_eq_true', Bool.not_eq_false', Bool.not_true, Bool.not_false] at *); omega)
      have h2 : s.length ≤ 4 := (by (try simp only [decide_eq_true_eq, decide_eq_false_iff_not, Bool.not_eq_true', Bool.not_eq_false', Bool.not_true, Bool.not_false] at *); omega)
      rw [numIn_do h1 h2 e] at q
      have hi := digVal_int h2 h1 e
      obtain ⟨c, r, rfl⟩ : ∃ c r, s = c :: r := by
        cases s with
        | nil => simp at h1
        | cons c r => exact ⟨c, r, rfl⟩
      have hd : ((c :: r).head? == some 48) = ([c] == [48]) := by
        rw [Bool.eq_iff_iff, beq_iff_eq, beq_iff_eq]; simp
      rw [hd] at q
      refine s_sn (k := 0) (by omega) rfl ?_
      wtm_at "ev"
      · rename_i t1
        rw [if_pos (by rw [t1, t]; rfl)] at q
        exact q _ ((Kp.refl _ _).push _)
      · rename_i t1
        refine l_ints hi ?_
        rw [if_neg (by rw [t1, t]; decide)] at q
        wtm_at "ev"
        exact q _ ((Kp.refl _ _).push _)
      · refine l_ints hi ?_
        rw [if_neg (by rw [t, Bool.false_and]; decide)] at q
        wtm_at "ev"
        exact q _ ((Kp.refl _ _).push _)
  · rw [numIn_len (s := s) (by (try simp only [decide_eq_true_eq, decide_eq_false_iff_not, Bool.not_eq_true', Bool.not_eq_false', Bool.not_true, Bool.not_false] at *); omega)] at q; exact q h (.refl _ _)
theorem m_single (H : HasW P D) (s : Tx) (hl : s.length ≤ LIM) (q : ∀ h', Kp [] h h' → Q (optV (singleOf s)) h') : wF (calls P D W (k + 2)) 8 [.str s] h Q := by
  have c3 := H.most
  refine w_def H.single rfl ?_
  wtm_at "ev"
  refine m_number_in H s hl fun h1 k1 => ?_
  unfold singleOf at q
  cases e : numIn s with
  | some n =>
    rw [e] at q
    simp only [optN]
    wtm_at "ev"
    exact q _ k1
  | none =>
    rw [e] at q
    simp only [optN]
    wtm_at "ev"
    refine m_is_name H s hl fun h2 k2 => ?_
    wtm_at "ev"
    · simp only [t, if_true] at q
      exact q _ (k1.trans k2)
    · simp only [t] at q
      exact q _ (k1.trans k2)
theorem take_tw (p : Nat → Bool) : ∀ l : Tx, l.take (l.takeWhile p).length = l.takeWhile p
  | [] => rfl
  | a :: l => by
    rw [List.takeWhile_cons]
    split
    · rw [List.length_cons, List.take_succ_cons, take_tw p l]
    · rfl
theorem cut_word (s : Tx) (at_ : Nat) (h : at_ ≤ s.length) : cut s (some (at_ : Int)) (some ((at_ + (wordOf (s.drop at_)).length : Nat) : Int)) = wordOf (s.drop at_) := by
  have hw : (wordOf (s.drop at_)).length ≤ s.length - at_ := by
    have := (List.takeWhile_sublist (p := alnum) (l := s.drop at_)).length_le
    rw [List.length_drop] at this
    exact this
  unfold cut bdOf
  simp only [show ¬ ((at_ : Int) < 0) by omega, if_false, show ¬ (((at_ + (wordOf (s.drop at_)).length : Nat) : Int) < 0) by omega, Int.toNat_natCast]
  rw [Nat.min_eq_left h, Nat.min_eq_left (by omega), Nat.add_sub_cancel_left]
  exact take_tw ..
theorem m_word_at (H : HasW P D) (s : Tx) (at_ : Nat) (ha : at_ ≤ s.length) (hl : s.length ≤ LIM) (hW : s.length < W) (q : Q (.str (wordOf (s.drop at_))) h) : wF (calls P D W (k + 1)) 7 [.str s, .int (at_ : Int)] h Q := by
  have c0 := H.dig
  have c1 := H.sml
  refine w_def H.wordAt rfl ?_
  wtm_at "ev"
  refine w_whl (fun m st h' => h' = h ∧ ∃ j : Nat, m + j = s.length ∧ at_ ≤ j ∧ wordOf (s.drop at_) = (s.drop at_).take (j - at_) ++ wordOf (s.drop j) ∧ st = [some (.str s), some (.int (at_ : Int)), some (.int (j : Int))]) (s.length - at_) (by omega) ⟨rfl, at_, by omega, by omega, by simp, rfl⟩ ?_
  rintro m st h' ⟨rfl, j, hm, hj, hw, rfl⟩
  wtm_at "ev"
  · have hlt : j < s.length := (by (try simp only [decide_eq_true_eq, decide_eq_false_iff_not, Bool.not_eq_true', Bool.not_eq_false', Bool.not_true, Bool.not_false] at *); omega)
    have hc : s[j]? = some s[j] := List.getElem?_eq_getElem hlt
    have hdr : s.drop j = s[j] :: s.drop (j + 1) := List.drop_eq_getElem_cons hlt
    have more : alnum s[j] = true → wordOf (s.drop at_) = (s.drop at_).take (j + 1 - at_) ++ wordOf (s.drop (j + 1)) := fun ha => by
      have e1 : wordOf (s.drop j) = s[j] :: wordOf (s.drop (j + 1)) := by
        rw [hdr]; unfold wordOf; rw [List.takeWhile_cons, if_pos ha]
      have e2 : (s.drop at_).take (j + 1 - at_) = (s.drop at_).take (j - at_) ++ [s[j]] := by
        have : j + 1 - at_ = (j - at_) + 1 := by omega
        rw [this, List.take_add_one, List.getElem?_drop, show at_ + (j - at_) = j by omega, hc]
        rfl
      rw [hw, e1, e2, List.append_assoc]; rfl
    have fin : alnum s[j] = false → wordOf (s.drop j) = [] := fun ha => by
      rw [hdr]; unfold wordOf; rw [List.takeWhile_cons, if_neg (by rw [ha]; decide)]
    wtm_at "ev"
    · exact ⟨m - 1, by omega, rfl, j + 1, by omega, by omega, more (by unfold alnum; rw [t]; rfl), rfl⟩
    · rename_i t1
      exact ⟨m - 1, by omega, rfl, j + 1, by omega, by omega, more (by unfold alnum; rw [t1, t]; rfl), rfl⟩
    · rename_i t1
      have e0 := fin (by unfold alnum; rw [t1, t]; rfl)
      rw [e0, List.append_nil] at hw
      have hl2 : at_ + (wordOf (s.drop at_)).length = j := by
        rw [hw, List.length_take, List.length_drop]; omega
      have := cut_word s at_ ha
      rw [hl2] at this
      unfold wslcCall
      refine wguard (by simpa using hl) ?_
      rw [this]
      wtm_at "ev"
      exact q
  · have e0 : j = s.length := (by (try simp only [decide_eq_true_eq, decide_eq_false_iff_not, Bool.not_eq_true', Bool.not_eq_false', Bool.not_true, Bool.not_false] at *); omega)
    subst e0
    rw [List.drop_length] at hw
    have hl2 : at_ + (wordOf (s.drop at_)).length = s.length := by
      rw [hw]; unfold wordOf; simp; omega
    have := cut_word s at_ ha
    rw [hl2] at this
    unfold wslcCall
    refine wguard (by simpa using hl) ?_
    rw [this]
    wtm_at "ev"
    exact q
end
end Ev

set_option maxRecDepth 100000
namespace Ev
open Pr
/-! ### what a reader holds -/
abbrev Ent := Tx × List Val × Nat
def ent (e : Ent) : Val := .tup [.str e.1, .ref e.2.2]
structure RR (h0 h : Hp) (r bg : Nat) (s : Tx) (at_ : Int) (w : Bool) (es : List Ent) : Prop where
  o : h[r]? = some (.inst 0 [(0, .str s), (1, .int at_), (2, .ref bg), (3, .bl w)])
  b : h[bg]? = some (.list false (es.map ent).reverse)
  l : ∀ e ∈ es, h[e.2.2]? = some (.list false e.2.1)
  nd : (es.map (·.2.2)).Nodup
  ne : r ≠ bg
  nr : ∀ e ∈ es, e.2.2 ≠ r ∧ e.2.2 ≠ bg
  kp : Kp [] h0 h
  fr : h0.length ≤ r ∧ h0.length ≤ bg ∧ ∀ e ∈ es, h0.length ≤ e.2.2
section
variable {h0 h : Hp} {r bg : Nat} {s : Tx} {at_ : Int} {w : Bool} {es : List Ent}
theorem RR.inst (R : RR h0 h r bg s at_ w es) (at' : Int) (w' : Bool) : RR h0 (h.set r (.inst 0 [(0, .str s), (1, .int at'), (2, .ref bg), (3, .bl w')])) r bg s at' w' es :=
  ⟨set_get R.o, by rw [set_ne R.ne]; exact R.b, fun e he => by rw [set_ne (R.nr e he).1.symm]; exact R.l e he, R.nd, R.ne, R.nr, R.kp.set (.inl R.fr.1) _, R.fr⟩
theorem RR.push (R : RR h0 h r bg s at_ w es) (kd : Tx) : RR h0 ((h ++ [Obj.list false []]).set bg (Obj.list false ((es.map ent).reverse ++ [Val.tup [.str kd, .ref h.length]]))) r bg s at_ w ((kd, [], h.length) :: es) := by
  have lr := get_lt R.o
  have lb := get_lt R.b
  have le : ∀ e ∈ es, e.2.2 < h.length := fun e he => get_lt (R.l e he)
  refine ⟨?_, ?_, fun e he => ?_, ?_, R.ne, fun e he => ?_, (R.kp.push _).set (.inl R.fr.2.1) _, R.fr.1, R.fr.2.1, fun e he => ?_⟩
  · rw [set_ne R.ne.symm]; exact push_get R.o
  · rw [set_get (push_get R.b), List.map_cons, List.reverse_cons]; rfl
  · rcases List.mem_cons.mp he with rfl | he
    · rw [set_ne (show bg ≠ h.length by omega)]; exact get_new
    · rw [set_ne (R.nr e he).2.symm]; exact push_get (R.l e he)
  · rw [List.map_cons, List.nodup_cons]
    refine ⟨fun z => ?_, R.nd⟩
    obtain ⟨e, he, q⟩ := List.mem_map.mp z
    have := le e he
    simp only at q
    omega
  · rcases List.mem_cons.mp he with rfl | he
    · simp only; omega
    · exact R.nr e he
  · rcases List.mem_cons.mp he with rfl | he
    · exact R.kp.len
    · exact R.fr.2.2 e he
theorem RR.top {kd : Tx} {ps : List Val} {a : Nat} (R : RR h0 h r bg s at_ w ((kd, ps, a) :: es)) (ps' : List Val) : RR h0 (h.set a (.list false ps')) r bg s at_ w ((kd, ps', a) :: es) := by
  have h1 := R.nr (kd, ps, a) List.mem_cons_self
  refine ⟨by rw [set_ne h1.1]; exact R.o, by rw [set_ne h1.2]; exact R.b, fun e he => ?_, R.nd, R.ne, fun e he => ?_, R.kp.set (.inl (R.fr.2.2 _ List.mem_cons_self)) _, R.fr.1, R.fr.2.1, fun e he => ?_⟩
  · rcases List.mem_cons.mp he with rfl | he
    · exact set_get (R.l (kd, ps, a) List.mem_cons_self)
    · have hn := R.nd
      rw [List.map_cons, List.nodup_cons] at hn
      rw [set_ne (fun z => hn.1 (List.mem_map.mpr ⟨e, he, z.symm⟩))]
      exact R.l e (List.mem_cons_of_mem _ he)
  · rcases List.mem_cons.mp he with rfl | he
    · exact h1
    · exact R.nr e (List.mem_cons_of_mem _ he)
  · rcases List.mem_cons.mp he with rfl | he
    · exact R.fr.2.2 (kd, ps, a) List.mem_cons_self
    · exact R.fr.2.2 e (List.mem_cons_of_mem _ he)
theorem RR.pop {e : Ent} (R : RR h0 h r bg s at_ w (e :: es)) : RR h0 (h.set bg (.list false (es.map ent).reverse)) r bg s at_ w es := by
  refine ⟨by rw [set_ne R.ne.symm]; exact R.o, set_get R.b, fun x hx => ?_, ?_, R.ne, fun x hx => R.nr x (List.mem_cons_of_mem _ hx), R.kp.set (.inl R.fr.2.1) _, R.fr.1, R.fr.2.1, fun x hx => R.fr.2.2 x (List.mem_cons_of_mem _ hx)⟩
  · rw [set_ne (R.nr x (List.mem_cons_of_mem _ hx)).2.symm]; exact R.l x (List.mem_cons_of_mem _ hx)
  · have hn := R.nd
    rw [List.map_cons, List.nodup_cons] at hn
    exact hn.2
end
/-! ### fields -/
def RdCl : Cl := ⟨some 11, [(16, 12), (17, 13), (18, 14)], [], [0, 1, 2, 3]⟩
def SIG : List Val := [.str [32, 60, 61, 32], .str [32, 60, 32], .str [32, 61, 32]]
def OPN : List Val := [.tup [.str [105, 109, 97, 120, 40], .str [105, 109, 97, 120]], .tup [.str [109, 97, 120, 40], .str [109, 97, 120]]]
/-- the reading of levels -/
structure HasR (P : Pg) (D : Nat → Option Df) : Prop extends HasW P D where
  opn : P.consts[5]? = some (.tup OPN)
  cls : P.cls[0]? = some RdCl
  openAt : D 9 = some d_opening_at
  isClosed : D 10 = some d_is_closed
  init : D 11 = some d_Reader___init__
  readPart : D 12 = some d_Reader_read_part
  readMore : D 13 = some d_Reader_read_more
  level : D 14 = some d_Reader_level
  readLevel : D 15 = some d_read_level
section
variable {P : Pg} {F : Fn} {h : Hp} {Q : Val → Hp → Prop}
theorem a_rd {a c f : Nat} {fs : List (Nat × Val)} {C : Cl} {v : Val} (hr : h[a]? = some (.inst c fs)) (hC : P.cls[c]? = some C) (hf : C.flds.contains f = true) (hv : fs.lookup f = some v) (q : Q v h) : wattrCall P F (.ref a) f h Q := by
  unfold wattrCall
  simp only [attrCall, hr, hC, hf, if_true, hv]
  exact q
theorem a_st {a c f : Nat} {fs : List (Nat × Val)} {C : Cl} {v : Val} {Q : Unit → Hp → Prop} (hr : h[a]? = some (.inst c fs)) (hC : P.cls[c]? = some C) (hf : (C.flds.contains f && decide (fs.length < 1000)) = true) (q : Q () (h.set a (.inst c (putF fs f v)))) : wsetAttr P (.ref a) f v h Q := by
  unfold wsetAttr
  simp only [setAttr, hr, hC]
  exact wguard hf q
theorem f_rd {a c f : Nat} {fs : List (Nat × Val)} {C : Cl} {v : Val} (hr : h[a]? = some (.inst c fs)) (hC : P.cls[c]? = some C) (hf : C.flds.contains f = true) (hv : fs.lookup f = some v) : fldOf P (.ref a) f h = some v := by
  simp only [fldOf, hr, hC, hf, if_true, hv]
end
/-! ### the machine -/
def openOf (r : Tx) : Option (Tx × Tx) := if pre [105, 109, 97, 120, 40] r = true then some ([105, 109, 97, 120, 40], [105, 109, 97, 120]) else if pre [109, 97, 120, 40] r = true then some ([109, 97, 120, 40], [109, 97, 120]) else none
def optP : Option (Tx × Tx) → Val
  | none => .non
  | some p => .tup [.str p.1, .str p.2]
theorem pre_take (p : Tx) : ∀ r : Tx, (r.take p.length == p) = pre p r := by
  induction p with
  | nil => intro r; rfl
  | cons a p ih =>
    intro r
    cases r with
    | nil => rfl
    | cons b r =>
      rw [List.length_cons, List.take_succ_cons]
      show ((b == a) && (r.take p.length == p)) = ((a == b) && pre p r)
      rw [ih r]
      congr 1
      rw [Bool.eq_iff_iff, beq_iff_eq, beq_iff_eq]; exact ⟨Eq.symm, Eq.symm⟩
theorem pre5 (r : Tx) : (r.take 5 == [105, 109, 97, 120, 40]) = pre [105, 109, 97, 120, 40] r := pre_take [105, 109, 97, 120, 40] r
theorem pre4 (r : Tx) : (r.take 4 == [109, 97, 120, 40]) = pre [109, 97, 120, 40] r := pre_take [109, 97, 120, 40] r
theorem cut_at (s : Tx) (a n : Nat) (h : a ≤ s.length) : cut s (some (a : Int)) (some ((a : Int) + n)) = (s.drop a).take n := by
  unfold cut bdOf
  simp only [show ¬ ((a : Int) < 0) by omega, if_false, show ¬ ((a : Int) + n < 0) by omega, Int.toNat_natCast, show ((a : Int) + n).toNat = a + n by omega]
  rw [Nat.min_eq_left h]
  by_cases hn : a + n ≤ s.length
  · rw [Nat.min_eq_left hn, Nat.add_sub_cancel_left]
  · rw [Nat.min_eq_right (by omega), List.take_of_length_le (by rw [List.length_drop]; omega), List.take_of_length_le (by rw [List.length_drop]; omega)]
section
variable {P : Pg} {D : Nat → Option Df} {W k : Nat} {h : Hp} {Q : Val → Hp → Prop}
theorem w_slcS {s : Tx} {a n : Nat} (hl : s.length ≤ LIM) (ha : a ≤ s.length) (q : Q (.str ((s.drop a).take n)) h) : wslcCall (.str s) (some (a : Int)) (some ((a : Int) + n)) h Q := by
  unfold wslcCall
  refine wguard (by simpa using hl) ?_
  rw [cut_at s a n ha]
  exact q
theorem m_opening_at (H : HasR P D) (s : Tx) (a : Nat) (ha : a ≤ s.length) (hl : s.length ≤ LIM) (q : Q (optP (openOf (s.drop a))) h) : wF (calls P D W (k + 1)) 9 [.str s, .int (a : Int)] h Q := by
  have c5 := H.opn
  refine w_def H.openAt rfl ?_
  refine w_scons ?_
  refine w_forV OPN (fun i st h' => h' = h ∧ (∃ x y, st = [some (.str s), some (.int (a : Int)), x, y]) ∧ (1 ≤ i → pre [105, 109, 97, 120, 40] (s.drop a) = false) ∧ (2 ≤ i → pre [109, 97, 120, 40] (s.drop a) = false)) ?_ ?_ ?_
  · refine w_iex (w_glob c5 ?_)
    unfold wwalkOf
    exact wok rfl ⟨rfl, rfl, ⟨rfl, ⟨_, _, rfl⟩, fun z => absurd z (by decide), fun z => absurd z (by decide)⟩, fun _ _ _ _ => rfl⟩
  · rintro i v st h' hv ⟨rfl, ⟨x, y, rfl⟩, h1, h2⟩
    have l5 : ([105, 109, 97, 120, 40] : Tx).length ≤ LIM := by decide
    have l4 : ([109, 97, 120, 40] : Tx).length ≤ LIM := by decide
    match i, hv with
    | 0, hv =>
      cases hv
      refine ⟨_, rfl, ?_⟩
      wtm_at "ev"
      refine w_slcS (n := 5) hl ha ?_
      wtm_at "ev"
      · rw [pre5] at t
        simp only [openOf, t, if_true, optP] at q
        exact q
      · rw [pre5] at t
        exact ⟨rfl, ⟨_, _, rfl⟩, fun _ => t, fun z => absurd z (by decide)⟩
    | 1, hv =>
      cases hv
      refine ⟨_, rfl, ?_⟩
      wtm_at "ev"
      refine w_slcS (n := 4) hl ha ?_
      wtm_at "ev"
      · rw [pre4] at t
        simp only [openOf, h1 (by decide), t, if_true, optP] at q
        exact q
      · rw [pre4] at t
        exact ⟨rfl, ⟨_, _, rfl⟩, fun _ => h1 (by decide), fun _ => t⟩
    | i + 2, hv => simp [OPN] at hv
  · rintro st h' ⟨rfl, _, h1, h2⟩
    wtm_at "ev"
    simp only [openOf, h1 (by decide), h2 (by decide), optP] at q
    exact q
end
end Ev

set_option maxRecDepth 100000
namespace Ev
open Pr
abbrev Stk := List (Tx × List Val)
def stkOf (es : List Ent) : Stk := es.map fun e => (e.1, e.2.1)
def pushV (v : Val) : Stk → Stk
  | (k, ps) :: r => (k, ps ++ [v]) :: r
  | [] => []
/-- a part: what opens, then a number or a name -/
def partN : Nat → Tx → Stk → Option (Tx × Stk)
  | 0, _, _ => none
  | n + 1, r, stk => match openOf r with
    | some (sg, kd) => partN n (r.drop sg.length) ((kd, []) :: stk)
    | none => match singleOf (wordOf r) with
      | some v => some (r.drop (wordOf r).length, pushV v stk)
      | none => none
theorem openOf_len {r sg kd : Tx} (h : openOf r = some (sg, kd)) : 1 ≤ sg.length ∧ sg.length ≤ r.length ∧ sg.length ≤ 5 := by
  have hp : ∀ p r : Tx, pre p r = true → p.length ≤ r.length := by
    intro p
    induction p with
    | nil => intro r _; exact Nat.zero_le _
    | cons a p ih =>
      intro r h
      cases r with
      | nil => cases h
      | cons b r =>
        have h2 : (a == b && pre p r) = true := h
        rw [Bool.and_eq_true] at h2
        have := ih r h2.2
        simp only [List.length_cons]
        omega
  unfold openOf at h
  split at h
  · rename_i g; cases h; exact ⟨by decide, hp _ _ g, by decide⟩
  · split at h
    · rename_i g; cases h; exact ⟨by decide, hp _ _ g, by decide⟩
    · cases h
theorem wordOf_len (r : Tx) : (wordOf r).length ≤ r.length := (List.takeWhile_sublist (p := alnum) (l := r)).length_le
section
variable {P : Pg} {D : Nat → Option Df} {W k : Nat} {h0 h : Hp} {r bg : Nat} {s : Tx} {at_ : Int} {w : Bool} {es : List Ent}
theorem RR.setAt (R : RR h0 h r bg s at_ w es) (hC : P.cls[0]? = some RdCl) (a : Int) {Q : Unit → Hp → Prop} (q : ∀ h1, RR h0 h1 r bg s a w es → Q () h1) : wsetAttr P (.ref r) 1 (.int a) h Q :=
  a_st R.o hC rfl (q _ (R.inst a w))
theorem RR.setW (R : RR h0 h r bg s at_ w es) (hC : P.cls[0]? = some RdCl) (w' : Bool) {Q : Unit → Hp → Prop} (q : ∀ h1, RR h0 h1 r bg s at_ w' es → Q () h1) : wsetAttr P (.ref r) 3 (.bl w') h Q :=
  a_st R.o hC rfl (q _ (R.inst at_ w'))
theorem RR.opened (R : RR h0 h r bg s at_ w es) (kd : Tx) (g : es.length < LIM) {Q : Val → Hp → Prop} (q : ∀ h1 a, RR h0 h1 r bg s at_ w ((kd, [], a) :: es) → Q .non h1) : wbmCall .append (.ref bg) [.tup [.str kd, .ref h.length]] (h ++ [.list false []]) Q :=
  m_append (push_get R.b) (by simpa using g) (q _ _ (R.push kd))
theorem RR.app {kd : Tx} {ps : List Val} {a : Nat} (R : RR h0 h r bg s at_ w ((kd, ps, a) :: es)) (v : Val) (g : ps.length < LIM) {Q : Val → Hp → Prop} (q : ∀ h1, RR h0 h1 r bg s at_ w ((kd, ps ++ [v], a) :: es) → Q .non h1) : wbmCall .append (.ref a) [v] h Q :=
  m_append (R.l (kd, ps, a) List.mem_cons_self) g (q _ (R.top _))
theorem RR.last {kd : Tx} {ps : List Val} {a : Nat} (R : RR h0 h r bg s at_ w ((kd, ps, a) :: es)) {Q : Val → Hp → Prop} (q : Q (.tup [.str kd, .ref a]) h) : wsubCall (.ref bg) (.int (-1)) h Q := by
  have := R.b
  rw [List.map_cons, List.reverse_cons] at this
  exact s_ll this q
theorem RR.keep {h' : Hp} (R : RR h0 h r bg s at_ w es) (k : Kp [] h h') : RR h0 h' r bg s at_ w es :=
  ⟨k.at_ _ _ R.o (by simp), k.at_ _ _ R.b (by simp), fun e he => k.at_ _ _ (R.l e he) (by simp), R.nd, R.ne, R.nr, R.kp.trans k, R.fr⟩
variable {Q : Val → Hp → Prop}
theorem drop_add (s : Tx) (a n : Nat) : (s.drop a).drop n = s.drop (a + n) := by rw [List.drop_drop]
theorem m_read_part (H : HasR P D) {a : Nat} (R : RR h0 h r bg s (a : Int) false es) (ha : a ≤ s.length) (hl : s.length + 8 ≤ LIM) (hW : s.length < W) (he : es ≠ []) (hn : es.length ≤ a + 1) (hp : ∀ e ∈ es, e.2.1.length ≤ a) (N : Nat) (hN : (s.drop a).length < N)
    (q1 : ∀ h1 (a1 : Nat) es1, RR h0 h1 r bg s (a1 : Int) false es1 → a1 ≤ s.length → es1 ≠ [] → es1.length ≤ a1 + 1 → (∀ e ∈ es1, e.2.1.length ≤ a1) → partN N (s.drop a) (stkOf es) = some (s.drop a1, stkOf es1) → Q .non h1)
    (q2 : ∀ h1 a1 es1, RR h0 h1 r bg s a1 true es1 → partN N (s.drop a) (stkOf es) = none → Q .non h1) : wF (calls P D W (k + 3)) 12 [.ref r] h Q := by
  have hC := H.cls
  have hl1 : s.length ≤ LIM := by omega
  refine w_def H.readPart rfl ?_
  have hR := R.o
  wtm_at "ev"
  refine m_opening_at H s a ha hl1 ?_
  wtm_at "ev"
  refine w_whl (fun m st h' => ∃ (a1 : Nat) (es1 : List Ent) (n : Nat), a1 ≤ s.length ∧ m + a1 = s.length ∧ RR h0 h' r bg s (a1 : Int) false es1 ∧ es1 ≠ [] ∧ es1.length ≤ a1 + 1 ∧ (∀ e ∈ es1, e.2.1.length ≤ a1) ∧ (s.drop a1).length < n ∧ partN N (s.drop a) (stkOf es) = partN n (s.drop a1) (stkOf es1) ∧ st = [some (.ref r), some (optP (openOf (s.drop a1))), none, none]) (s.length - a) (by omega) ⟨a, es, N, ha, by omega, R, he, hn, hp, hN, rfl, rfl⟩ ?_
  rintro m st h' ⟨a1, es1, n, ha1, hm, R1, he1, hn1, hp1, hnn, eq, rfl⟩
  have hR1 := R1.o
  have hB1 := R1.b
  cases ho : openOf (s.drop a1) with
  | some p =>
    obtain ⟨sg, kd⟩ := p
    obtain ⟨l1, l2, l3⟩ := openOf_len ho
    rw [List.length_drop] at l2
    have lsg : sg.length ≤ LIM := by have : (5 : Nat) ≤ LIM := by decide
                                     omega
    simp only [optP]
    wtm_at "ev"
    refine R1.setAt hC _ fun h2 R2 => ?_
    have hR2 := R2.o
    have hB2 := R2.b
    wtm_at "ev"
    refine R2.opened kd (by omega) fun h3 b3 R3 => ?_
    have e2 : (a1 : Int) + (sg.length : Int) = ((a1 + sg.length : Nat) : Int) := by omega
    rw [e2] at R3
    have hR3 := R3.o
    wtm_at "ev"
    refine m_opening_at H s (a1 + sg.length) (by omega) hl1 ?_
    wtm_at "ev"
    refine ⟨m - sg.length, by omega, a1 + sg.length, (kd, [], b3) :: es1, n - 1, by omega, by omega, R3, by simp, by simp; omega, fun e he => ?_, ?_, ?_, rfl⟩
    · rcases List.mem_cons.mp he with rfl | he
      · exact Nat.zero_le _
      · have := hp1 e he; omega
    · rw [List.length_drop] at hnn ⊢; omega
    · rw [eq]
      obtain ⟨n', rfl⟩ : ∃ n', n = n' + 1 := ⟨n - 1, by omega⟩
      rw [partN, ho]
      simp only [drop_add, Nat.add_sub_cancel]
      rfl
  | none =>
    simp only [optP]
    wtm_at "ev"
    refine m_word_at H.toHasW s a1 ha1 hl1 hW ?_
    wtm_at "ev"
    have hwl := wordOf_len (s.drop a1)
    rw [List.length_drop] at hwl
    refine m_single H.toHasW (wordOf (s.drop a1)) (by omega) fun h2 k2 => ?_
    obtain ⟨n', rfl⟩ : ∃ n', n = n' + 1 := ⟨n - 1, by omega⟩
    rw [partN, ho] at eq
    simp only at eq
    have R2 := R1.keep k2
    have hR2 := R2.o
    have hB2 := R2.b
    obtain ⟨⟨kd, ps, b⟩, es2, rfl⟩ : ∃ e r, es1 = e :: r := by
      cases es1 with
      | nil => exact absurd rfl he1
      | cons e r => exact ⟨e, r, rfl⟩
    have hps := hp1 (kd, ps, b) List.mem_cons_self
    simp only at hps
    cases hs : singleOf (wordOf (s.drop a1)) with
    | none =>
      rw [hs] at eq
      simp only [optV]
      wtm_at "ev"
      refine R2.setW hC true fun h3 R3 => ?_
      have hR3 := R3.o
      wtm_at "ev"
      refine R3.last ?_
      wtm_at "ev"
      refine ⟨p_list (R3.l (kd, ps, b) List.mem_cons_self) rfl, ?_⟩
      wtm_at "ev"
      refine R3.app _ (by omega) fun h4 R4 => ?_
      have hR4 := R4.o
      have hwl2 : (wordOf (s.drop a1)).length ≤ LIM := by omega
      wtm_at "ev"
      refine R4.setAt hC _ fun h5 R5 => ?_
      wtm_at "ev"
      exact q2 _ _ _ R5 eq
    | some v =>
      rw [hs] at eq
      have hv : isNon v = false := by
        unfold singleOf at hs
        split at hs
        · cases hs; rfl
        · split at hs
          · cases hs; rfl
          · cases hs
      simp only [optV]
      have hw1 : (wordOf (s.drop a1)).length ≥ 1 := by
        cases hww : wordOf (s.drop a1) with
        | nil =>
          have e0 : singleOf [] = none := by decide
          rw [hww, e0] at hs; cases hs
        | cons _ _ => simp
      wtm_at "ev"
      · rw [hv] at t; cases t
      refine R2.last ?_
      wtm_at "ev"
      refine ⟨p_list (R2.l (kd, ps, b) List.mem_cons_self) rfl, ?_⟩
      wtm_at "ev"
      refine R2.app _ (by omega) fun h4 R4 => ?_
      have hR4 := R4.o
      have hwl2 : (wordOf (s.drop a1)).length ≤ LIM := by omega
      wtm_at "ev"
      refine R4.setAt hC _ fun h5 R5 => ?_
      have e2 : (a1 : Int) + ((wordOf (s.drop a1)).length : Int) = ((a1 + (wordOf (s.drop a1)).length : Nat) : Int) := by omega
      rw [e2] at R5
      wtm_at "ev"
      refine q1 _ _ _ R5 (by omega) (by simp) (by simp at hn1 ⊢; omega) (fun e he => ?_) ?_
      · rcases List.mem_cons.mp he with rfl | he
        · simp only [List.length_append, List.length_singleton]; omega
        · have := hp1 e (List.mem_cons_of_mem _ he); omega
      · rw [eq, drop_add]; rfl
end
end Ev

set_option maxRecDepth 100000
namespace Ev
open Pr
def closedB (kd : Tx) (n : Nat) : Bool := decide (n = 2) || (kd == [109, 97, 120] && decide (2 < n))
def plusT (x : Val) (m : Nat) : Val := .tup [.str [112, 108, 117, 115], x, .int (m : Int)]
def plusV (m : Nat) : Stk → Stk
  | (k, ps) :: r => match ps.getLast? with
    | some x => (k, ps.dropLast ++ [plusT x m]) :: r
    | none => []
  | [] => []
def closeV : Stk → Option Stk
  | (kd, ps) :: r => if closedB kd ps.length = true then some (pushV (.tup (.str kd :: ps)) r) else none
  | [] => none
/-- what is added and closed behind a part -/
def moreN : Nat → Tx → Stk → Option (Tx × Stk)
  | 0, _, _ => none
  | _ + 1, [], stk => some ([], stk)
  | n + 1, c :: r, stk => if c = 44 then some (c :: r, stk) else
      if pre [32, 43, 32] (c :: r) = true then (match numIn (wordOf ((c :: r).drop 3)) with
        | some m => moreN n ((c :: r).drop (3 + (wordOf ((c :: r).drop 3)).length)) (plusV m stk)
        | none => none)
      else if c = 41 ∧ 1 < stk.length then (match closeV stk with
        | some z => moreN n r z
        | none => none)
      else none
theorem moreN_nil (n : Nat) (stk : Stk) : moreN (n + 1) [] stk = some ([], stk) := rfl
theorem moreN_cons (n c : Nat) (r : Tx) (stk : Stk) : moreN (n + 1) (c :: r) stk = if c = 44 then some (c :: r, stk) else
      if pre [32, 43, 32] (c :: r) = true then (match numIn (wordOf ((c :: r).drop 3)) with
        | some m => moreN n ((c :: r).drop (3 + (wordOf ((c :: r).drop 3)).length)) (plusV m stk)
        | none => none)
      else if c = 41 ∧ 1 < stk.length then (match closeV stk with
        | some z => moreN n r z
        | none => none)
      else none := rfl
section
variable {P : Pg} {D : Nat → Option Df} {W k : Nat} {h0 h : Hp} {r bg : Nat} {s : Tx} {at_ : Int} {w : Bool} {es : List Ent} {Q : Val → Hp → Prop}
theorem m_is_closed (H : HasR P D) {kd : Tx} {b : Nat} {ps : List Val} (hb : h[b]? = some (.list false ps)) (q : Q (.bl (closedB kd ps.length)) h) : wF (calls P D W (k + 1)) 10 [.str kd, .ref b] h Q := by
  refine w_def H.isClosed rfl ?_
  have e2 : ((ps.length : Int) == 2) = decide (ps.length = 2) := by
    rw [Bool.eq_iff_iff, beq_iff_eq, decide_eq_true_eq]; omega
  have e3 : decide ((2 : Int) < ps.length) = decide (2 < ps.length) := by
    rw [Bool.eq_iff_iff, decide_eq_true_eq, decide_eq_true_eq]; omega
  unfold closedB at q
  wtm_at "ev"
  · rw [e2] at t; rw [t] at q; exact q
  · rename_i t1
    rw [e2] at t1; rw [t1, t, Bool.false_or, Bool.true_and] at q
    rw [e3]; exact q
  · rename_i t1
    rw [e2] at t1; rw [t1, t] at q; exact q
theorem RR.popP {kd : Tx} {ps : List Val} {x : Val} {a : Nat} (R : RR h0 h r bg s at_ w ((kd, ps ++ [x], a) :: es)) {Q : Val → Hp → Prop} (q : ∀ h1, RR h0 h1 r bg s at_ w ((kd, ps, a) :: es) → Q x h1) : wbmCall .pop (.ref a) [] h Q :=
  m_pop (R.l (kd, ps ++ [x], a) List.mem_cons_self) (q _ (R.top _))
theorem RR.popE {kd : Tx} {ps : List Val} {a : Nat} (R : RR h0 h r bg s at_ w ((kd, ps, a) :: es)) {Q : Val → Hp → Prop} (q : ∀ h1, RR h0 h1 r bg s at_ w es → h1[a]? = some (.list false ps) → (∀ e ∈ es, e.2.2 ≠ a) → Q (.tup [.str kd, .ref a]) h1) : wbmCall .pop (.ref bg) [] h Q := by
  have hb := R.b
  rw [List.map_cons, List.reverse_cons] at hb
  have hn := R.nd
  rw [List.map_cons, List.nodup_cons] at hn
  exact m_pop hb (q _ R.pop (by rw [set_ne (R.nr (kd, ps, a) List.mem_cons_self).2.symm]; exact R.l (kd, ps, a) List.mem_cons_self) fun e he z => hn.1 (List.mem_map.mpr ⟨e, he, z⟩))
theorem RR.appK {kd : Tx} {ps : List Val} {a : Nat} (R : RR h0 h r bg s at_ w ((kd, ps, a) :: es)) (v : Val) (g : ps.length < LIM) {Q : Val → Hp → Prop} (q : ∀ h1, RR h0 h1 r bg s at_ w ((kd, ps ++ [v], a) :: es) → (∀ i, i ≠ a → h1[i]? = h[i]?) → Q .non h1) : wbmCall .append (.ref a) [v] h Q :=
  m_append (R.l (kd, ps, a) List.mem_cons_self) g (q _ (R.top _) fun i hi => set_ne hi.symm)
theorem RR.setAtK (R : RR h0 h r bg s at_ w es) (hC : P.cls[0]? = some RdCl) (a : Int) {Q : Unit → Hp → Prop} (q : ∀ h1, RR h0 h1 r bg s a w es → (∀ i, i ≠ r → h1[i]? = h[i]?) → Q () h1) : wsetAttr P (.ref r) 1 (.int a) h Q :=
  a_st R.o hC rfl (q _ (R.inst a w) fun i hi => set_ne hi.symm)
def TopNe (es : List Ent) : Prop := ∃ kd ps x b r, es = (kd, ps ++ [x], b) :: r
theorem m_read_more (H : HasR P D) {a : Nat} (R : RR h0 h r bg s (a : Int) false es) (ha : a ≤ s.length) (hl : s.length + 8 ≤ LIM) (hW : s.length < W) (he : TopNe es) (hn : es.length ≤ a + 1) (hp : ∀ e ∈ es, e.2.1.length ≤ a) (N : Nat) (hN : (s.drop a).length < N)
    (q1 : ∀ h1 (a1 : Nat) es1, RR h0 h1 r bg s (a1 : Int) false es1 → a1 ≤ s.length → TopNe es1 → es1.length ≤ a1 + 1 → (∀ e ∈ es1, e.2.1.length ≤ a1) → moreN N (s.drop a) (stkOf es) = some (s.drop a1, stkOf es1) → Q .non h1)
    (q2 : ∀ h1 a1 es1, RR h0 h1 r bg s a1 true es1 → moreN N (s.drop a) (stkOf es) = none → Q .non h1) : wF (calls P D W (k + 3)) 13 [.ref r] h Q := by
  have hC := H.cls
  have c3 := H.most
  have hl1 : s.length ≤ LIM := by omega
  refine w_def H.readMore rfl ?_
  refine w_scons ?_
  refine w_whl (fun m st h' => (∃ x1 x2 x3 x4, st = [some (.ref r), x1, x2, x3, x4]) ∧ ((∃ (a1 : Nat) (es1 : List Ent) (n : Nat), a1 ≤ s.length ∧ m + a1 = s.length ∧ RR h0 h' r bg s (a1 : Int) false es1 ∧ TopNe es1 ∧ es1.length ≤ a1 + 1 ∧ (∀ e ∈ es1, e.2.1.length ≤ a1) ∧ (s.drop a1).length < n ∧ moreN N (s.drop a) (stkOf es) = moreN n (s.drop a1) (stkOf es1)) ∨ ∃ a1 es1, RR h0 h' r bg s a1 true es1 ∧ moreN N (s.drop a) (stkOf es) = none)) (s.length - a) (by omega) ⟨⟨_, _, _, _, rfl⟩, .inl ⟨a, es, N, ha, by omega, R, he, hn, hp, hN, rfl⟩⟩ ?_
  rintro m st h' ⟨⟨x1, x2, x3, x4, rfl⟩, ⟨a1, es1, n, ha1, hm, R1, he1, hn1, hp1, hnn, eq⟩ | ⟨a1, es1, R1, eq⟩⟩
  rotate_left
  · have hR1 := R1.o
    wtm_at "ev"
    exact q2 _ _ _ R1 eq
  have hR1 := R1.o
  have hB1 := R1.b
  obtain ⟨n', rfl⟩ : ∃ n', n = n' + 1 := ⟨n - 1, by omega⟩
  wtm_at "ev"
  rotate_left
  · -- the end of the text
    have e0 : a1 = s.length := (by (try simp only [decide_eq_true_eq, decide_eq_false_iff_not, Bool.not_eq_true', Bool.not_eq_false', Bool.not_true, Bool.not_false] at *); omega)
    subst e0
    refine q1 _ _ _ R1 (Nat.le_refl _) he1 hn1 hp1 ?_
    rw [eq, List.drop_length, moreN_nil]
  have hlt : a1 < s.length := (by (try simp only [decide_eq_true_eq, decide_eq_false_iff_not, Bool.not_eq_true', Bool.not_eq_false', Bool.not_true, Bool.not_false] at *); omega)
  have hc : s[a1]? = some s[a1] := List.getElem?_eq_getElem hlt
  have hdr : s.drop a1 = s[a1] :: s.drop (a1 + 1) := List.drop_eq_getElem_cons hlt
  rw [hdr, moreN_cons] at eq
  rw [List.length_drop] at hnn
  wtm_at "ev"
  rotate_left
  · -- a comma
    have e1 : s[a1] = 44 := by simpa using t
    refine q1 _ _ _ R1 ha1 he1 hn1 hp1 ?_
    rw [eq, if_pos e1, ← hdr]
  have hne : ¬ s[a1] = 44 := by simpa using t
  rw [if_neg hne] at eq
  refine w_slcS (n := 3) hl1 ha1 ?_
  have p3 : ((s.drop a1).take 3 == [32, 43, 32]) = pre [32, 43, 32] (s.drop a1) := pre_take [32, 43, 32] _
  wtm_at "ev"
  · -- plus
    have tt := t
    rw [p3, hdr] at tt
    rw [if_pos tt] at eq
    have hle3 : a1 + 3 ≤ s.length := by
      have h4 := congrArg List.length (eq_of_beq t)
      rw [List.length_take, List.length_drop] at h4
      simp only [List.length_cons, List.length_nil] at h4
      omega
    have e3 : (a1 : Int) + 3 = ((a1 + 3 : Nat) : Int) := by omega
    rw [e3]
    refine m_word_at H.toHasW s (a1 + 3) hle3 hl1 hW ?_
    have hwl := wordOf_len (s.drop (a1 + 3))
    rw [List.length_drop] at hwl
    have hwl2 : (wordOf (s.drop (a1 + 3))).length ≤ LIM := by omega
    wtm_at "ev"
    refine m_number_in H.toHasW (wordOf (s.drop (a1 + 3))) hwl2 fun h2 k2 => ?_
    have R2 := R1.keep k2
    have hR2 := R2.o
    have hB2 := R2.b
    obtain ⟨kd, ps, x, b, es2, rfl⟩ := he1
    wtm_at "ev"
    refine R2.last ?_
    wtm_at "ev"
    refine ⟨p_list (R2.l (kd, ps ++ [x], b) List.mem_cons_self) rfl, ?_⟩
    wtm_at "ev"
    refine R2.last ?_
    wtm_at "ev"
    refine ⟨p_list (R2.l (kd, ps ++ [x], b) List.mem_cons_self) rfl, ?_⟩
    wtm_at "ev"
    refine R2.popP fun h3 R3 => ?_
    have hps := hp1 (kd, ps ++ [x], b) List.mem_cons_self
    simp only [List.length_append, List.length_singleton] at hps
    wtm_at "ev"
    refine R3.app _ (by omega) fun h4 R4 => ?_
    have hR4 := R4.o
    wtm_at "ev"
    refine R4.setAt hC _ fun h5 R5 => ?_
    have e4 : (a1 : Int) + (3 + ((wordOf (s.drop (a1 + 3))).length : Int)) = ((a1 + (3 + (wordOf (s.drop (a1 + 3))).length) : Nat) : Int) := by omega
    rw [e4] at R5
    have hR5 := R5.o
    wtm_at "ev"
    refine R5.setW hC _ fun h6 R6 => ?_
    wtm_at "ev"
    rw [← hdr, drop_add] at eq
    cases hnum : numIn (wordOf (s.drop (a1 + 3))) with
    | none =>
      rw [hnum] at R6 eq
      exact ⟨0, by omega, ⟨_, _, _, _, rfl⟩, .inr ⟨_, _, R6, eq⟩⟩
    | some mm =>
      rw [hnum] at R6 eq
      refine ⟨m - (3 + (wordOf (s.drop (a1 + 3))).length), by omega, ⟨_, _, _, _, rfl⟩, .inl ⟨a1 + (3 + (wordOf (s.drop (a1 + 3))).length), _, n', by omega, by omega, R6, ⟨kd, ps, _, b, es2, rfl⟩, by simp at hn1 ⊢; omega, fun e he => ?_, by rw [List.length_drop]; omega, ?_⟩⟩
      · rcases List.mem_cons.mp he with rfl | he
        · simp only [List.length_append, List.length_singleton]; omega
        · have := hp1 e (List.mem_cons_of_mem _ he); omega
      · rw [eq, drop_add]
        simp only [stkOf, List.map_cons, plusV, List.getLast?_append, List.getLast?_singleton, List.dropLast_concat, Option.some_or]
        rfl
  · -- closed
    rename_i t2 t1
    rw [p3, hdr] at t2
    rw [if_neg (by rw [t2]; decide)] at eq
    have e41 : s[a1] = 41 := by simpa using t1
    have hst : 1 < es1.length := by
      simp only [decide_eq_true_eq, List.length_reverse, List.length_map] at t
      omega
    rw [if_pos ⟨e41, by unfold stkOf; rw [List.length_map]; exact hst⟩] at eq
    obtain ⟨kd, ps, x, b, es2, rfl⟩ := he1
    obtain ⟨⟨kd2, ps2, b2⟩, es3, rfl⟩ : ∃ e r, es2 = e :: r := by
      cases es2 with
      | nil => simp at hst
      | cons e r => exact ⟨e, r, rfl⟩
    wtm_at "ev"
    refine R1.popE fun h2 R2 hb2 hne2 => ?_
    have hR2 := R2.o
    have hps := hp1 (kd, ps ++ [x], b) List.mem_cons_self
    have hps2 := hp1 (kd2, ps2, b2) (List.mem_cons_of_mem _ List.mem_cons_self)
    simp only at hps hps2
    wtm_at "ev"
    refine R2.last ?_
    wtm_at "ev"
    refine ⟨p_list (R2.l (kd2, ps2, b2) List.mem_cons_self) rfl, ?_⟩
    have hsq : seqOf h2 (.ref b) = some (ps ++ [x]) := by simp only [seqOf, hb2]
    have hlen : decide ((Val.str kd :: (ps ++ [x] ++ [])).length ≤ LIM) = true := by
      rw [decide_eq_true_eq, List.append_nil, List.length_cons]; omega
    refine w_acons (w_tup (w_acons (w_var rfl (w_astar (w_var rfl ⟨_, hsq, w_anil ⟨hlen, w_anil ?_⟩⟩)))))
    refine R2.appK _ (by omega) fun h3 R3 K3 => ?_
    have hR3 := R3.o
    have hb3 : h3[b]? = some (.list false (ps ++ [x])) := by rw [K3 b (hne2 _ List.mem_cons_self).symm]; exact hb2
    wtm_at "ev"
    refine R3.setAtK hC _ fun h4 R4 K4 => ?_
    have e4 : (a1 : Int) + 1 = ((a1 + 1 : Nat) : Int) := by omega
    rw [e4] at R4
    have hR4 := R4.o
    have hbr : b ≠ r := (R1.nr (kd, ps ++ [x], b) List.mem_cons_self).1
    have hb4 : h4[b]? = some (.list false (ps ++ [x])) := by rw [K4 b hbr]; exact hb3
    wtm_at "ev"
    refine m_is_closed H hb4 ?_
    wtm_at "ev"
    refine R4.setW hC _ fun h5 R5 => ?_
    wtm_at "ev"
    rw [List.append_nil] at R5
    have ec : closeV (stkOf ((kd, ps ++ [x], b) :: (kd2, ps2, b2) :: es3)) = if closedB kd (ps ++ [x]).length = true then some (stkOf ((kd2, ps2 ++ [Val.tup (Val.str kd :: (ps ++ [x]))], b2) :: es3)) else none := rfl
    rw [ec] at eq
    cases hcl : closedB kd (ps ++ [x]).length with
    | false =>
      rw [hcl] at R5 eq
      exact ⟨0, by omega, ⟨_, _, _, _, rfl⟩, .inr ⟨_, _, R5, eq⟩⟩
    | true =>
      rw [hcl, if_pos rfl] at eq
      rw [hcl] at R5
      refine ⟨m - 1, by omega, ⟨_, _, _, _, rfl⟩, .inl ⟨a1 + 1, _, n', by omega, by omega, R5, ⟨kd2, ps2, _, b2, es3, rfl⟩, by simp at hn1 ⊢; omega, fun e he => ?_, by rw [List.length_drop]; omega, eq⟩⟩
      rcases List.mem_cons.mp he with rfl | he
      · simp only [List.length_append, List.length_singleton]; omega
      · have := hp1 e (List.mem_cons_of_mem _ (List.mem_cons_of_mem _ he)); omega
  · rename_i t2 t1
    rw [p3, hdr] at t2
    rw [if_neg (by rw [t2]; decide)] at eq
    have hst : ¬ 1 < es1.length := by
      simp only [decide_eq_false_iff_not, List.length_reverse, List.length_map] at t
      omega
    rw [if_neg (fun z => hst (by have := z.2; unfold stkOf at this; rw [List.length_map] at this; exact this))] at eq
    refine R1.setW hC true fun h2 R2 => ?_
    wtm_at "ev"
    exact ⟨0, by omega, ⟨_, _, _, _, rfl⟩, .inr ⟨_, _, R2, eq⟩⟩
  · rename_i t2 _
    rw [p3, hdr] at t2
    rw [if_neg (by rw [t2]; decide)] at eq
    have e41 : ¬ s[a1] = 41 := by simpa using t
    rw [if_neg (fun z => e41 z.1)] at eq
    refine R1.setW hC true fun h2 R2 => ?_
    wtm_at "ev"
    exact ⟨0, by omega, ⟨_, _, _, _, rfl⟩, .inr ⟨_, _, R2, eq⟩⟩
end
end Ev

set_option maxRecDepth 100000
namespace Ev
open Pr
theorem f_meth {P : Pg} {h : Hp} {a c m g : Nat} {fs : List (Nat × Val)} {C : Cl} (hr : h[a]? = some (.inst c fs)) (hC : P.cls[c]? = some C) (hf : fs.lookup m = none) (hg : C.meths.lookup m = some g) : methOf P (.ref a) m h = some g := by
  simp only [methOf, hr, hf, hC, hg]
theorem partN_len : ∀ (n : Nat) (r : Tx) (stk : Stk) (r' : Tx) (k' : Stk), partN n r stk = some (r', k') → r'.length < r.length
  | 0, _, _, _, _, h => by cases h
  | n + 1, r, stk, r', k', h => by
    rw [partN] at h
    split at h
    · rename_i sg kd ho
      have := partN_len n _ _ _ _ h
      obtain ⟨l1, l2, _⟩ := openOf_len ho
      rw [List.length_drop] at this
      omega
    · split at h
      · rename_i v hs
        cases h
        have hw := wordOf_len r
        have : 1 ≤ (wordOf r).length := by
          cases hww : wordOf r with
          | nil =>
            have e0 : singleOf [] = none := by decide
            rw [hww, e0] at hs; cases hs
          | cons _ _ => simp
        rw [List.length_drop]; omega
      · cases h
theorem moreN_len : ∀ (n : Nat) (r : Tx) (stk : Stk) (r' : Tx) (k' : Stk), moreN n r stk = some (r', k') → r'.length ≤ r.length
  | 0, _, _, _, _, h => by cases h
  | n + 1, [], stk, r', k', h => by cases h; exact Nat.le_refl _
  | n + 1, c :: r, stk, r', k', h => by
    rw [moreN_cons] at h
    split at h
    · cases h; exact Nat.le_refl _
    · split at h
      · split at h
        · have := moreN_len n _ _ _ _ h
          rw [List.length_drop] at this
          omega
        · cases h
      · split at h
        · split at h
          · have := moreN_len n _ _ _ _ h
            simp only [List.length_cons]; omega
          · cases h
        · cases h
def pm (r : Tx) (stk : Stk) : Option (Tx × Stk) := match partN (r.length + 1) r stk with
  | some p => moreN (p.1.length + 1) p.1 p.2
  | none => none
def firstV : Stk → Option Val
  | [(_, v :: _)] => some v
  | _ => none
def levN : Nat → Tx → Stk → Option Val
  | 0, _, _ => none
  | n + 1, r, stk => if r = [] then firstV stk
    else if r.take 2 = [44, 32] ∧ ¬ stk.length = 1 then (match pm (r.drop 2) stk with
      | some p => levN n p.1 p.2
      | none => none) else none
theorem levN_succ (n : Nat) (r : Tx) (stk : Stk) : levN (n + 1) r stk = if r = [] then firstV stk
    else if r.take 2 = [44, 32] ∧ ¬ stk.length = 1 then (match pm (r.drop 2) stk with
      | some p => levN n p.1 p.2
      | none => none) else none := rfl
def levelOf (s : Tx) : Option Val := match pm s [([116, 111, 112], [])] with
  | some p => levN (p.1.length + 1) p.1 p.2
  | none => none
section
variable {P : Pg} {D : Nat → Option Df} {W k : Nat} {h0 h : Hp} {r bg : Nat} {s : Tx} {at_ : Int} {w : Bool} {es : List Ent} {Q : Val → Hp → Prop}
theorem topNe_of {v : Val} {x y : Tx} {n : Nat} {stk : Stk} {es : List Ent} (h : partN n x stk = some (y, stkOf es)) (h0 : stk ≠ []) : TopNe es := by
  have key : ∀ (n : Nat) (x : Tx) (stk : Stk) (y : Tx) (k : Stk), stk ≠ [] → partN n x stk = some (y, k) → ∃ kd ps v r, k = (kd, ps ++ [v]) :: r := by
    intro n
    induction n with
    | zero => intro x stk y k _ h; cases h
    | succ n ih =>
      intro x stk y k h0 h
      rw [partN] at h
      split at h
      · exact ih _ _ _ _ (by simp) h
      · split at h
        · rename_i v _
          cases h
          cases stk with
          | nil => exact absurd rfl h0
          | cons e r => exact ⟨e.1, e.2, v, r, rfl⟩
        · cases h
  obtain ⟨kd, ps, v, r, e⟩ := key n x stk y _ h0 h
  cases es with
  | nil => cases e
  | cons a es =>
    obtain ⟨a1, a2, a3⟩ := a
    simp only [stkOf, List.map_cons, List.cons.injEq, Prod.mk.injEq] at e
    obtain ⟨⟨rfl, rfl⟩, _⟩ := e
    exact ⟨a1, ps, v, a3, es, rfl⟩
/-- a part and what is behind it -/
theorem m_pm (H : HasR P D) {a : Nat} (R : RR h0 h r bg s (a : Int) false es) (ha : a ≤ s.length) (hl : s.length + 8 ≤ LIM) (hW : s.length < W) (he : es ≠ []) (hn : es.length ≤ a + 1) (hp : ∀ e ∈ es, e.2.1.length ≤ a)
    {st : St} {st0 : st[0]? = some (some (.ref r))} {ss : Ss} {R' : Fl × St → Hp → Prop}
    (q1 : ∀ h1 (a1 : Nat) es1, RR h0 h1 r bg s (a1 : Int) false es1 → a1 ≤ s.length → a ≤ a1 → TopNe es1 → es1.length ≤ a1 + 1 → (∀ e ∈ es1, e.2.1.length ≤ a1) → pm (s.drop a) (stkOf es) = some (s.drop a1, stkOf es1) → wevSs P (calls P D W (k + 3)) W ss st h1 R')
    (q2 : ∀ h1 a1 es1, RR h0 h1 r bg s a1 true es1 → pm (s.drop a) (stkOf es) = none → wevSs P (calls P D W (k + 3)) W ss st h1 R') : wevSs P (calls P D W (k + 3)) W (.cons (.expr (.meth (.var 0) 16 .nil)) (.cons (.expr (.meth (.var 0) 17 .nil)) ss)) st h R' := by
  have hC := H.cls
  have hR := R.o
  refine w_scons (w_expr (w_meth (w_var st0 ⟨_, f_meth hR hC rfl rfl, w_anil ?_⟩)))
  refine m_read_part H R ha hl hW he hn hp _ (Nat.lt_succ_self _) ?_ ?_
  · intro h1 a1 es1 R1 ha1 he1 hn1 hp1 e1
    have hR1 := R1.o
    have hlen := partN_len _ _ _ _ _ e1
    rw [List.length_drop, List.length_drop] at hlen
    have ht : TopNe es1 := topNe_of (v := .non) e1 (by
      cases es with
      | nil => exact absurd rfl he
      | cons _ _ => simp [stkOf])
    refine q_next (w_scons (w_expr (w_meth (w_var st0 ⟨_, f_meth hR1 hC rfl rfl, w_anil ?_⟩))))
    refine m_read_more H R1 ha1 hl hW ht hn1 hp1 _ (Nat.lt_succ_self _) ?_ ?_
    · intro h2 a2 es2 R2 ha2 he2 hn2 hp2 e2
      have hlen2 := moreN_len _ _ _ _ _ e2
      rw [List.length_drop, List.length_drop] at hlen2
      refine q_next (q1 h2 a2 es2 R2 ha2 (by omega) he2 hn2 hp2 ?_)
      unfold pm
      rw [e1]
      exact e2
    · intro h2 a2 es2 R2 e2
      refine q_next (q2 h2 a2 es2 R2 ?_)
      unfold pm
      rw [e1]
      exact e2
  · intro h1 a1 es1 R1 e1
    have hR1 := R1.o
    have e0 : pm (s.drop a) (stkOf es) = none := by unfold pm; rw [e1]
    refine q_next (w_scons (w_expr (w_meth (w_var st0 ⟨_, f_meth hR1 hC rfl rfl, w_anil ?_⟩))))
    refine w_def H.readMore rfl ?_
    refine w_scons ?_
    refine w_whl (fun m st h' => h' = h1 ∧ ∃ x1 x2 x3 x4, st = [some (.ref r), x1, x2, x3, x4]) 0 (by omega) ⟨rfl, _, _, _, _, rfl⟩ ?_
    rintro m st h' ⟨rfl, x1, x2, x3, x4, rfl⟩
    wtm_at "ev"
    exact q2 h' a1 es1 R1 e0
theorem m_level (H : HasR P D) (R : RR h0 h r bg s 0 false [([116, 111, 112], [], bb)]) (hl : s.length + 8 ≤ LIM) (hW : s.length < W) (q : ∀ h1, Kp [] h0 h1 → Q (optV (levelOf s)) h1) : wF (calls P D W (k + 4)) 14 [.ref r] h Q := by
  have hC := H.cls
  have hl1 : s.length ≤ LIM := by omega
  refine w_def H.level rfl ?_
  refine m_pm (a := 0) H R (Nat.zero_le _) hl hW (by simp) (by simp) (by simp) (st0 := rfl) ?_ ?_
  · intro h1 a1 es1 R1 ha1 _ he1 hn1 hp1 e1
    rw [List.drop_zero] at e1
    have el : levelOf s = levN ((s.drop a1).length + 1) (s.drop a1) (stkOf es1) := by
      unfold levelOf
      rw [show ([([116, 111, 112], [])] : Stk) = stkOf [([116, 111, 112], [], bb)] from rfl, e1]
    refine w_scons ?_
    refine w_whl (fun m st h' => st = [some (.ref r)] ∧ ((∃ (a1 : Nat) (es1 : List Ent) (n : Nat), a1 ≤ s.length ∧ m + a1 = s.length ∧ RR h0 h' r bg s (a1 : Int) false es1 ∧ TopNe es1 ∧ es1.length ≤ a1 + 1 ∧ (∀ e ∈ es1, e.2.1.length ≤ a1) ∧ (s.drop a1).length < n ∧ levelOf s = levN n (s.drop a1) (stkOf es1)) ∨ ∃ a1 es1, RR h0 h' r bg s a1 true es1 ∧ levelOf s = none)) (s.length - a1) (by omega) ⟨rfl, .inl ⟨a1, es1, _, ha1, by omega, R1, he1, hn1, hp1, Nat.lt_succ_self _, el⟩⟩ ?_
    rintro m st h' ⟨rfl, ⟨a2, es2, n, ha2, hm, R2, he2, hn2, hp2, hnn, eq⟩ | ⟨a2, es2, R2, eq⟩⟩
    rotate_left
    · have hR2 := R2.o
      wtm_at "ev"
      rw [eq] at q
      exact q _ R2.kp
    have hR2 := R2.o
    have hB2 := R2.b
    obtain ⟨n', rfl⟩ : ∃ n', n = n' + 1 := ⟨n - 1, by omega⟩
    rw [levN_succ] at eq
    rw [List.length_drop] at hnn
    wtm_at "ev"
    · -- something is left
      have hlt : a2 < s.length := (by (try simp only [decide_eq_true_eq, decide_eq_false_iff_not, Bool.not_eq_true', Bool.not_eq_false', Bool.not_true, Bool.not_false] at *); omega)
      have hne : ¬ s.drop a2 = [] := fun z => by
        have := congrArg List.length z
        rw [List.length_drop] at this
        simp at this; omega
      rw [if_neg hne] at eq
      refine w_slcS (n := 2) hl1 ha2 ?_
      wtm_at "ev"
      · -- no comma
        have tt : ¬ (s.drop a2).take 2 = [44, 32] := by simpa using t
        rw [if_neg (fun z => tt z.1)] at eq
        refine R2.setW hC true fun h3 R3 => ?_
        have hR3 := R3.o
        wtm_at "ev"
        refine R3.setAt hC _ fun h4 R4 => ?_
        have hR4 := R4.o
        wtm_at "ev"
        exact ⟨0, by omega, rfl, .inr ⟨_, _, R4, eq⟩⟩
      · have tt : (s.drop a2).take 2 = [44, 32] := by simpa using t
        have hle2 : a2 + 2 ≤ s.length := by
          have h4 := congrArg List.length tt
          rw [List.length_take, List.length_drop] at h4
          simp only [List.length_cons, List.length_nil] at h4
          omega
        have e2 : (a2 : Int) + 2 = ((a2 + 2 : Nat) : Int) := by omega
        refine R2.setW hC _ fun h3 R3 => ?_
        have hR3 := R3.o
        have hlen : (((es2.map ent).reverse.length : Int) == 1) = decide ((stkOf es2).length = 1) := by
          rw [Bool.eq_iff_iff, beq_iff_eq, decide_eq_true_eq]
          simp only [List.length_reverse, List.length_map, stkOf]
          omega
        rw [hlen] at R3 hR3
        cases hone : decide ((stkOf es2).length = 1) with
        | true =>
          rw [hone] at R3 hR3
          rw [if_neg (fun z => z.2 (of_decide_eq_true hone))] at eq
          wtm_at "ev"
          refine R3.setAt hC _ fun h4 R4 => ?_
          have hR4 := R4.o
          wtm_at "ev"
          exact ⟨0, by omega, rfl, .inr ⟨_, _, R4, eq⟩⟩
        | false =>
          rw [hone] at R3 hR3
          rw [if_pos ⟨tt, of_decide_eq_false hone⟩, drop_add] at eq
          wtm_at "ev"
          refine R3.setAt hC _ fun h4 R4 => ?_
          rw [e2] at R4
          have hR4 := R4.o
          refine q_next (w_scons (w_if (w_not (w_attr (w_var rfl (a_rd hR4 hC rfl rfl ⟨_, rfl, _, rfl, fun _ => ?_, fun t => Bool.noConfusion t⟩))))))
          refine m_pm H R4 hle2 hl hW (by obtain ⟨_, _, _, _, _, z⟩ := he2; rw [z]; simp) (by omega) (fun e he => by have := hp2 e he; omega) (st0 := rfl) ?_ ?_
          · intro h5 a5 es5 R5 ha5 hge he5 hn5 hp5 e5
            rw [e5] at eq
            wtm_at "ev"
            exact ⟨s.length - a5, by omega, rfl, .inl ⟨a5, es5, n', ha5, by omega, R5, he5, hn5, hp5, by rw [List.length_drop]; omega, eq⟩⟩
          · intro h5 a5 es5 R5 e5
            rw [e5] at eq
            wtm_at "ev"
            exact ⟨0, by omega, rfl, .inr ⟨_, _, R5, eq⟩⟩
    · -- the end: something is open
      rename_i t1 _
      have e0 : a2 = s.length := by
        simp only [decide_eq_false_iff_not] at t1
        omega
      subst e0
      rw [List.drop_length, if_pos rfl] at eq
      have hlen : 1 < es2.length := by
        simp only [decide_eq_true_eq, List.length_reverse, List.length_map] at t
        omega
      have e3 : firstV (stkOf es2) = none := by
        match es2, hlen with
        | ⟨x1, x2, x3⟩ :: y :: z, _ => cases x2 <;> rfl
      rw [e3] at eq
      rw [eq] at q
      exact q _ R2.kp
    · rename_i t1 _
      have e0 : a2 = s.length := by
        simp only [decide_eq_false_iff_not] at t1
        omega
      subst e0
      rw [List.drop_length, if_pos rfl] at eq
      have hlen : ¬ 1 < es2.length := by
        simp only [decide_eq_false_iff_not, List.length_reverse, List.length_map] at t
        omega
      obtain ⟨kd, ps, x, b, es3, rfl⟩ := he2
      have e3 : es3 = [] := by
        cases es3 with
        | nil => rfl
        | cons _ _ => simp at hlen
      subst e3
      refine s_ln (k := 0) hB2 rfl ?_
      wtm_at "ev"
      have hl0 := R2.l (kd, ps ++ [x], b) List.mem_cons_self
      obtain ⟨v, l, hv⟩ : ∃ v l, ps ++ [x] = v :: l := by
        cases ps with
        | nil => exact ⟨_, _, rfl⟩
        | cons v l => exact ⟨_, _, rfl⟩
      have ef : firstV (stkOf [(kd, ps ++ [x], b)]) = some v := by simp only [stkOf, List.map_cons, List.map_nil, hv, firstV]
      rw [ef] at eq
      rw [eq] at q
      simp only [hv] at hl0
      refine s_ln (k := 0) hl0 rfl ?_
      wtm_at "ev"
      exact q _ R2.kp
  · intro h1 a1 es1 R1 e1
    rw [List.drop_zero] at e1
    have el : levelOf s = none := by
      unfold levelOf
      rw [show ([([116, 111, 112], [])] : Stk) = stkOf [([116, 111, 112], [], bb)] from rfl, e1]
    have hR1 := R1.o
    refine w_scons ?_
    refine w_whl (fun m st h' => h' = h1 ∧ st = [some (.ref r)]) 0 (by omega) ⟨rfl, rfl⟩ ?_
    rintro m st h' ⟨rfl, rfl⟩
    wtm_at "ev"
    rw [el] at q
    exact q _ R1.kp
theorem m_read_level (H : HasR P D) (s : Tx) (hl : s.length + 8 ≤ LIM) (hW : s.length < W) (q : ∀ h1, Kp [] h h1 → Q (optV (levelOf s)) h1) : wF (calls P D W (k + 5)) 15 [.str s] h Q := by
  have hC := H.cls
  refine w_def H.readLevel rfl ?_
  wtm_at "ev"
  unfold wnewCall
  simp only [newCall, hC, RdCl]
  refine wbind ?_
  have key : wF (calls P D W (k + 4)) 11 [.ref h.length, .str s] (h ++ [.inst 0 []]) fun v h1 => v = .non ∧ RR h h1 h.length (h.length + 2) s 0 false [([116, 111, 112], [], h.length + 1)] := by
    refine w_def H.init rfl ?_
    have hR0 : (h ++ [Obj.inst 0 []])[h.length]? = some (.inst 0 []) := get_new
    wtm_at "ev"
    refine a_st hR0 hC rfl ?_
    wtm_at "ev"
    refine a_st (set_get hR0) hC rfl ?_
    wtm_at "ev"
    refine a_st (push_get (push_get (set_get (set_get hR0)))) hC rfl ?_
    wtm_at "ev"
    refine a_st (set_get (push_get (push_get (set_get (set_get hR0))))) hC rfl ?_
    wtm_at "ev"
    refine ⟨rfl, ?_⟩
    have kk : Kp [] h (h ++ [Obj.inst 0 []]) := (Kp.refl _ _).push _
    refine ⟨(set_get (set_get (push_get (push_get (set_get (set_get hR0)))))).trans (by simp [putF]), ?_, fun e he => ?_, by simp, by omega, fun e he => ?_, ?_, Nat.le_refl _, by omega, fun e he => ?_⟩
    · rw [set_ne (by omega), set_ne (by omega)]
      simp [ent]
    · simp only [List.mem_singleton] at he
      subst he
      simp only
      rw [set_ne (by omega), set_ne (by omega)]
      simp
    · simp only [List.mem_singleton] at he
      subst he
      simp only; omega
    · exact (((((kk.set (.inl (Nat.le_refl _)) _).set (.inl (Nat.le_refl _)) _).push _).push _).set (.inl (Nat.le_refl _)) _).set (.inl (Nat.le_refl _)) _
    · simp only [List.mem_singleton] at he
      subst he
      simp only; omega
  unfold wF at key
  refine wmono key fun v h1 ⟨e, R⟩ => ?_
  subst e
  have hR := R.o
  refine ⟨_, f_meth hR hC rfl rfl, w_anil ?_⟩
  refine m_level H R hl hW fun h2 k2 => ?_
  wtm_at "ev"
  exact q _ k2
end
end Ev

set_option maxRecDepth 100000
namespace Ev
/-! ### levels -/
inductive Lv where
  | num (n : Nat) | nam (s : Tx) | plus (l : Lv) (n : Nat) | mx (ls : List Lv) | im (a b : Lv)
def txMax : Tx := [109, 97, 120]
def txImax : Tx := [105, 109, 97, 120]
mutual
def Lv.text : Lv → Tx
  | .num n => decTx n
  | .nam s => s
  | .plus l n => l.text ++ ([32, 43, 32] ++ decTx n)
  | .mx ls => [109, 97, 120, 40] ++ (joinTx [44, 32] (Lv.texts ls) ++ [41])
  | .im a b => [105, 109, 97, 120, 40] ++ (a.text ++ ([44, 32] ++ (b.text ++ [41])))
def Lv.texts : List Lv → List Tx
  | [] => []
  | l :: ls => l.text :: Lv.texts ls
end
mutual
def Lv.enc : Lv → Val
  | .num n => .tup [.str [110, 117, 109, 98, 101, 114], .int n]
  | .nam s => .tup [.str [110, 97, 109, 101], .str s]
  | .plus l n => .tup [.str [112, 108, 117, 115], l.enc, .int n]
  | .mx ls => .tup (.str txMax :: Lv.encs ls)
  | .im a b => .tup [.str txImax, a.enc, b.enc]
def Lv.encs : List Lv → List Val
  | [] => []
  | l :: ls => l.enc :: Lv.encs ls
end
mutual
def Lv.ok : Lv → Prop
  | .num n => n ≤ 9999
  | .nam s => isNameB s = true
  | .plus l n => l.ok ∧ n ≤ 9999
  | .mx ls => 2 ≤ ls.length ∧ Lv.oks ls
  | .im a b => a.ok ∧ b.ok
def Lv.oks : List Lv → Prop
  | [] => True
  | l :: ls => l.ok ∧ Lv.oks ls
end
theorem Lv.encs_len : ∀ ls : List Lv, (Lv.encs ls).length = ls.length
  | [] => rfl
  | l :: ls => by simp [Lv.encs, Lv.encs_len ls]
/-! ### fuel -/
theorem partN_fuel : ∀ (n m : Nat) (r : Tx) (stk : Stk), r.length < n → r.length < m → partN n r stk = partN m r stk
  | 0, _, _, _, h, _ => by omega
  | _ + 1, 0, _, _, _, h => by omega
  | n + 1, m + 1, r, stk, h1, h2 => by
    rw [partN, partN]
    cases ho : openOf r with
    | none => rfl
    | some p =>
      obtain ⟨sg, kd⟩ := p
      obtain ⟨l1, l2, _⟩ := openOf_len ho
      exact partN_fuel n m _ _ (by rw [List.length_drop]; omega) (by rw [List.length_drop]; omega)
theorem moreN_fuel : ∀ (n m : Nat) (r : Tx) (stk : Stk), r.length < n → r.length < m → moreN n r stk = moreN m r stk
  | 0, _, _, _, h, _ => by omega
  | _ + 1, 0, _, _, _, h => by omega
  | n + 1, m + 1, [], stk, h1, h2 => rfl
  | n + 1, m + 1, c :: r, stk, h1, h2 => by
    rw [moreN_cons, moreN_cons]
    simp only [List.length_cons] at h1 h2
    have e1 : ∀ k stk', 1 ≤ k → moreN n ((c :: r).drop k) stk' = moreN m ((c :: r).drop k) stk' := fun k stk' hk => moreN_fuel n m _ _ (by rw [List.length_drop]; simp only [List.length_cons]; omega) (by rw [List.length_drop]; simp only [List.length_cons]; omega)
    have e2 : ∀ stk', moreN n r stk' = moreN m r stk' := fun stk' => moreN_fuel n m _ _ (by omega) (by omega)
    split
    · rfl
    · split
      · split
        · exact e1 _ _ (by omega)
        · rfl
      · split
        · split
          · exact e2 _
          · rfl
        · rfl
theorem pm_len {r : Tx} {stk : Stk} {p : Tx × Stk} (h : pm r stk = some p) : p.1.length < r.length := by
  unfold pm at h
  split at h
  · rename_i q e
    have h1 := partN_len _ _ _ _ _ e
    have h2 := moreN_len _ _ _ p.1 p.2 h
    omega
  · cases h
theorem levN_fuel : ∀ (n m : Nat) (r : Tx) (stk : Stk), r.length < n → r.length < m → levN n r stk = levN m r stk
  | 0, _, _, _, h, _ => by omega
  | _ + 1, 0, _, _, _, h => by omega
  | n + 1, m + 1, r, stk, h1, h2 => by
    rw [levN_succ, levN_succ]
    split
    · rfl
    · split
      · split
        · rename_i p e
          have := pm_len e
          rw [List.length_drop] at this
          exact levN_fuel n m _ _ (by omega) (by omega)
        · rfl
      · rfl
/-! ### the two states of the machine -/
def stM (r : Tx) (stk : Stk) : Option Val := match moreN (r.length + 1) r stk with
  | some p => levN (p.1.length + 1) p.1 p.2
  | none => none
def stP (r : Tx) (stk : Stk) : Option Val := match partN (r.length + 1) r stk with
  | some p => stM p.1 p.2
  | none => none
theorem pm_stP (r : Tx) (stk : Stk) : (match pm r stk with
  | some p => levN (p.1.length + 1) p.1 p.2
  | none => none) = stP r stk := by
  unfold pm stP stM
  cases partN (r.length + 1) r stk with
  | none => rfl
  | some p => rfl
theorem levelOf_stP (s : Tx) : levelOf s = stP s [([116, 111, 112], [])] := pm_stP _ _
/-- what may stand behind a part -/
def brk (r : Tx) : Prop := ∀ c r', r = c :: r' → c = 44 ∨ c = 41 ∨ c = 32
theorem not_alnum {c : Nat} (h : c = 44 ∨ c = 41 ∨ c = 32 ∨ c = 40) : alnum c = false := by
  rcases h with rfl | rfl | rfl | rfl <;> decide
theorem no_open : ∀ (p w r : Tx), p.all alnum = true → w.all alnum = true → brk r → pre (p ++ [40]) (w ++ r) = false
  | [], [], [], _, _, _ => rfl
  | [], [], c :: r, _, _, hb => by
    have h1 : c = 44 ∨ c = 41 ∨ c = 32 := hb c r rfl
    show ((40 == c) && true) = false
    have : (40 == c) = false := beq_eq_false_iff_ne.mpr (by omega)
    rw [this]; rfl
  | [], c :: w, r, _, hw, _ => by
    show ((40 == c) && true) = false
    have h1 : alnum c = true := by simp only [List.all_cons, Bool.and_eq_true] at hw; exact hw.1
    have : (40 == c) = false := beq_eq_false_iff_ne.mpr (fun e => by subst e; exact absurd h1 (by decide))
    rw [this]; rfl
  | a :: p, [], [], _, _, _ => rfl
  | a :: p, [], c :: r, hp, _, hb => by
    have h1 : c = 44 ∨ c = 41 ∨ c = 32 := hb c r rfl
    have h2 : alnum a = true := by simp only [List.all_cons, Bool.and_eq_true] at hp; exact hp.1
    show ((a == c) && _) = false
    have : (a == c) = false := beq_eq_false_iff_ne.mpr (fun e => by
      subst e
      rw [not_alnum (by omega)] at h2; cases h2)
    rw [this]; rfl
  | a :: p, c :: w, r, hp, hw, hb => by
    simp only [List.all_cons, Bool.and_eq_true] at hp hw
    show ((a == c) && pre (p ++ [40]) (w ++ r)) = false
    rw [no_open p w r hp.2 hw.2 hb, Bool.and_false]
theorem openOf_none {w r : Tx} (hw : w.all alnum = true) (hb : brk r) : openOf (w ++ r) = none := by
  unfold openOf
  have e1 : pre [105, 109, 97, 120, 40] (w ++ r) = false := no_open [105, 109, 97, 120] w r (by decide) hw hb
  have e2 : pre [109, 97, 120, 40] (w ++ r) = false := no_open [109, 97, 120] w r (by decide) hw hb
  rw [e1, e2]; rfl
theorem wordOf_app {w r : Tx} (hw : w.all alnum = true) (hb : brk r) : wordOf (w ++ r) = w := by
  unfold wordOf
  induction w with
  | nil =>
    cases r with
    | nil => rfl
    | cons c r =>
      have h1 : c = 44 ∨ c = 41 ∨ c = 32 := hb c r rfl
      show List.takeWhile alnum (c :: r) = []
      rw [List.takeWhile_cons, if_neg (by rw [not_alnum (by omega)]; decide)]
  | cons a w ih =>
    simp only [List.all_cons, Bool.and_eq_true] at hw
    show List.takeWhile alnum (a :: (w ++ r)) = a :: w
    rw [List.takeWhile_cons, if_pos hw.1, ih hw.2]
theorem stP_atom {w r : Tx} {v : Val} {stk : Stk} (hw : w.all alnum = true) (hb : brk r) (hs : singleOf w = some v) : stP (w ++ r) stk = stM r (pushV v stk) := by
  unfold stP
  rw [partN, openOf_none hw hb]
  simp only [wordOf_app hw hb, hs, List.drop_left]
theorem stP_open {kd : Tx} {sg r : Tx} {stk : Stk} (h : openOf (sg ++ r) = some (sg, kd)) : stP (sg ++ r) stk = stP r ((kd, []) :: stk) := by
  unfold stP
  obtain ⟨l1, _, _⟩ := openOf_len h
  rw [partN, h]
  simp only [List.drop_left]
  rw [partN_fuel _ (r.length + 1) r _ (by simp; omega) (by omega)]
theorem stM_comma {r : Tx} {stk : Stk} (h : ¬ stk.length = 1) : stM (44 :: 32 :: r) stk = stP r stk := by
  unfold stM
  rw [moreN_cons, if_pos rfl]
  simp only
  rw [levN_succ, if_neg (by simp), if_pos ⟨rfl, h⟩, ← pm_stP]
  simp only [List.drop_succ_cons, List.drop_zero]
  cases e : pm r stk with
  | none => rfl
  | some p =>
    have := pm_len e
    exact levN_fuel _ _ _ _ (by simp only [List.length_cons]; omega) (by omega)
theorem stM_close {kd : Tx} {ps : List Val} {r : Tx} {stk : Stk} (hc : closedB kd ps.length = true) (h : stk ≠ []) : stM (41 :: r) ((kd, ps) :: stk) = stM r (pushV (.tup (.str kd :: ps)) stk) := by
  unfold stM
  rw [moreN_cons, if_neg (by decide), if_neg (by
    show ¬ ((32 == 41) && _) = true
    simp), if_pos ⟨rfl, by
    cases stk with
    | nil => exact absurd rfl h
    | cons _ _ => simp⟩]
  simp only [closeV, hc, if_true]
  rw [moreN_fuel _ (r.length + 1) r _ (by simp) (by omega)]
theorem stM_plus {w r : Tx} {m : Nat} {stk : Stk} (hw : w.all alnum = true) (hb : brk r) (hn : numIn w = some m) : stM ([32, 43, 32] ++ (w ++ r)) stk = stM r (plusV m stk) := by
  unfold stM
  have e0 : [32, 43, 32] ++ (w ++ r) = 32 :: 43 :: 32 :: (w ++ r) := rfl
  rw [e0, moreN_cons, if_neg (by decide), if_pos (by rfl)]
  simp only [List.drop_succ_cons, List.drop_zero, wordOf_app hw hb, hn]
  have e1 : (32 :: 43 :: 32 :: (w ++ r)).drop (3 + w.length) = r := by
    rw [show 3 + w.length = w.length + 1 + 1 + 1 by omega, List.drop_succ_cons, List.drop_succ_cons, List.drop_succ_cons, List.drop_left]
  rw [e1, moreN_fuel _ (r.length + 1) r _ (by simp; omega) (by omega)]
theorem stM_end {k : Tx} {v : Val} {ps : List Val} : stM [] [(k, v :: ps)] = some v := rfl
/-! ### words -/
theorem decTx_digits (n : Nat) : decTx n = (Nat.toDigits 10 n).map Char.toNat := by
  unfold decTx
  rw [show toString (n : Int) = Nat.repr n from rfl]
  unfold Nat.repr
  rw [String.toList_ofList]
theorem decTx_lt {n : Nat} (h : n < 10) : decTx n = [48 + n] := by
  rw [decTx_digits, Nat.toDigits_of_lt_base h]
  have : n = 0 ∨ n = 1 ∨ n = 2 ∨ n = 3 ∨ n = 4 ∨ n = 5 ∨ n = 6 ∨ n = 7 ∨ n = 8 ∨ n = 9 := by omega
  rcases this with rfl | rfl | rfl | rfl | rfl | rfl | rfl | rfl | rfl | rfl <;> rfl
theorem decTx_ge {n : Nat} (h : 10 ≤ n) : decTx n = decTx (n / 10 : Nat) ++ [48 + n % 10] := by
  rw [decTx_digits, decTx_digits, Nat.toDigits_of_base_le (by decide) h, List.map_append]
  congr 1
  have : n % 10 < 10 := Nat.mod_lt _ (by decide)
  generalize n % 10 = m at this
  have : m = 0 ∨ m = 1 ∨ m = 2 ∨ m = 3 ∨ m = 4 ∨ m = 5 ∨ m = 6 ∨ m = 7 ∨ m = 8 ∨ m = 9 := by omega
  rcases this with rfl | rfl | rfl | rfl | rfl | rfl | rfl | rfl | rfl | rfl <;> rfl
theorem digVal_app : ∀ (l : Tx) (d a : Nat), digVal (l ++ [d]) a = digVal l a * 10 + (d - 48)
  | [], d, a => rfl
  | c :: l, d, a => by
    show digVal (l ++ [d]) _ = digVal l _ * 10 + _
    exact digVal_app l d _
theorem dig_ok {m : Nat} (h : m < 10) : DIG.contains (48 + m) = true := by
  have : m = 0 ∨ m = 1 ∨ m = 2 ∨ m = 3 ∨ m = 4 ∨ m = 5 ∨ m = 6 ∨ m = 7 ∨ m = 8 ∨ m = 9 := by omega
  rcases this with rfl | rfl | rfl | rfl | rfl | rfl | rfl | rfl | rfl | rfl <;> rfl
/-- the digits of a number -/
theorem dec_facts : ∀ n : Nat, (decTx n).all (DIG.contains ·) = true ∧ digVal (decTx n) 0 = n ∧ (∃ c r, decTx n = c :: r ∧ (c = 48 → n = 0))
  | n => by
    by_cases h : n < 10
    · rw [decTx_lt h]
      refine ⟨?_, ?_, _, _, rfl, by omega⟩
      · rw [List.all_cons, dig_ok h]; rfl
      · show 0 * 10 + (48 + n - 48) = n; omega
    · have h10 : 10 ≤ n := by omega
      obtain ⟨i1, i2, c, r, i3, i4⟩ := dec_facts (n / 10)
      rw [decTx_ge h10]
      refine ⟨?_, ?_, ?_⟩
      · rw [List.all_append, i1, List.all_cons, dig_ok (Nat.mod_lt _ (by decide))]; rfl
      · rw [digVal_app, i2]; omega
      · refine ⟨c, r ++ [48 + n % 10], by rw [i3]; rfl, fun e => ?_⟩
        have := i4 e
        omega
theorem num_len4 : ∀ (k n : Nat), n < 10 ^ (k + 1) → (decTx n).length ≤ k + 1
  | 0, n, h => by rw [decTx_lt (by omega)]; simp
  | k + 1, n, h => by
    by_cases h1 : n < 10
    · rw [decTx_lt h1]; simp
    · rw [decTx_ge (by omega), List.length_append]
      have := num_len4 k (n / 10) (by
        rw [Nat.pow_succ] at h
        omega)
      simp only [List.length_singleton]; omega
theorem dig_alnum {s : Tx} (h : s.all (DIG.contains ·) = true) : s.all alnum = true := by
  rw [List.all_eq_true] at h ⊢
  intro c hc
  unfold alnum
  rw [h c hc, Bool.or_true]
theorem num_al {n : Nat} (h : n ≤ 9999) : (decTx n).all alnum = true := dig_alnum (dec_facts n).1
theorem num_len {n : Nat} (h : n ≤ 9999) : (decTx n).length ≤ 4 := num_len4 3 n (by omega)
theorem num_in {n : Nat} (h : n ≤ 9999) : numIn (decTx n) = some n := by
  obtain ⟨h1, h2, c, r, h3, h4⟩ := dec_facts n
  rw [numIn_do (by rw [h3]; simp) (num_len h) h1, if_neg, h2]
  intro z
  rw [Bool.and_eq_true] at z
  have z1 := z.1
  rw [h3] at z1
  have z2 : c = 48 := by simpa using z1
  have z3 := h4 z2
  subst z3
  have z4 := z.2
  exact absurd z4 (by decide)
theorem num_single {n : Nat} (h : n ≤ 9999) : singleOf (decTx n) = some (.tup [.str [110, 117, 109, 98, 101, 114], .int n]) := by
  unfold singleOf; rw [num_in h]
theorem nam_al {s : Tx} (h : isNameB s = true) : s.all alnum = true := by
  simp only [isNameB, Bool.and_eq_true] at h
  have h1 := h.2
  rw [List.all_eq_true] at h1 ⊢
  intro c hc
  unfold alnum
  rw [h1 c hc]; rfl
theorem nam_single {s : Tx} (h : isNameB s = true) : singleOf s = some (.tup [.str [110, 97, 109, 101], .str s]) := by
  have hn : numIn s = none := by
    refine numIn_dig ?_
    have h2 := h
    simp only [isNameB, Bool.and_eq_true, decide_eq_true_eq] at h2
    cases s with
    | nil => have := h2.1.1.1.1; simp at this
    | cons c r =>
      have hc := h2.2
      simp only [List.all_cons, Bool.and_eq_true] at hc
      have h3 : DIG.contains c = false := by
        have h4 := hc.1
        simp only [SML, List.contains_eq_mem, List.mem_cons, List.not_mem_nil, or_false, decide_eq_true_eq] at h4
        simp only [DIG, List.contains_eq_mem, List.mem_cons, List.not_mem_nil, or_false, decide_eq_false_iff_not]
        omega
      rw [List.all_cons, h3]; rfl
  unfold singleOf; rw [hn, h]; rfl
/-! ### what is written is read -/
theorem brk_nil : brk [] := fun _ _ h => by cases h
theorem brk_comma {r : Tx} : brk (44 :: r) := fun _ _ h => by cases h; exact .inl rfl
theorem brk_close {r : Tx} : brk (41 :: r) := fun _ _ h => by cases h; exact .inr (.inl rfl)
theorem brk_blank {r : Tx} : brk (32 :: r) := fun _ _ h => by cases h; exact .inr (.inr rfl)
mutual
theorem read_text : ∀ (l : Lv), l.ok → ∀ (r : Tx) (stk : Stk), brk r → stk ≠ [] → stP (l.text ++ r) stk = stM r (pushV l.enc stk)
  | .num n, h, r, stk, hb, _ => by
    rw [Lv.text, Lv.enc]
    exact stP_atom (num_al h) hb (num_single h)
  | .nam s, h, r, stk, hb, _ => by
    rw [Lv.text, Lv.enc]
    exact stP_atom (nam_al h) hb (nam_single h)
  | .plus l n, h, r, stk, hb, hs => by
    rw [Lv.ok] at h
    rw [Lv.text, Lv.enc, List.append_assoc, List.append_assoc, read_text l h.1 ([32, 43, 32] ++ (decTx n ++ r)) stk brk_blank hs, stM_plus (num_al h.2) hb (num_in h.2)]
    cases stk with
    | nil => exact absurd rfl hs
    | cons e t =>
      obtain ⟨k, ps⟩ := e
      simp only [pushV, plusV, List.getLast?_append, List.getLast?_singleton, List.dropLast_concat, Option.some_or]
      rfl
  | .mx ls, h, r, stk, hb, hs => by
    rw [Lv.ok] at h
    rw [Lv.text, Lv.enc, List.append_assoc, List.append_assoc, stP_open (kd := [109, 97, 120]) (by rfl)]
    have hne : ls ≠ [] := fun z => by have := h.1; rw [z] at this; simp at this
    rw [read_texts ls hne h.2 r [] stk hs]
    simp only [List.nil_append]
    refine stM_close ?_ hs
    rw [Lv.encs_len]
    unfold closedB
    have h1 := h.1
    rcases Nat.lt_or_ge 2 ls.length with h2 | h2
    · rw [decide_eq_true h2]; simp
    · rw [decide_eq_true (show ls.length = 2 by omega)]; rfl
  | .im a b, h, r, stk, hb, hs => by
    rw [Lv.ok] at h
    rw [Lv.text, Lv.enc, List.append_assoc, stP_open (kd := [105, 109, 97, 120]) (by rfl)]
    simp only [List.append_assoc]
    rw [read_text a h.1 ([44, 32] ++ (b.text ++ ([41] ++ r))) _ brk_comma (by simp)]
    have e1 : [44, 32] ++ (b.text ++ ([41] ++ r)) = 44 :: 32 :: (b.text ++ ([41] ++ r)) := rfl
    rw [e1, stM_comma (by
      cases stk with
      | nil => exact absurd rfl hs
      | cons _ _ => simp [pushV]), read_text b h.2 ([41] ++ r) _ brk_close (by simp [pushV])]
    exact stM_close (by rfl) hs
theorem read_texts : ∀ (ls : List Lv), ls ≠ [] → Lv.oks ls → ∀ (r : Tx) (ps : List Val) (stk : Stk), stk ≠ [] → stP (joinTx [44, 32] (Lv.texts ls) ++ ([41] ++ r)) (([109, 97, 120], ps) :: stk) = stM (41 :: r) (([109, 97, 120], ps ++ Lv.encs ls) :: stk)
  | [], hn, _, _, _, _, _ => absurd rfl hn
  | l :: ls, _, h, r, ps, stk, hs => by
    rw [Lv.oks] at h
    by_cases hls : ls = []
    · subst hls
      show stP (l.text ++ ([41] ++ r)) _ = _
      rw [read_text l h.1 ([41] ++ r) _ brk_close (by simp)]
      rfl
    · have e0 : joinTx [44, 32] (Lv.texts (l :: ls)) = l.text ++ ([44, 32] ++ joinTx [44, 32] (Lv.texts ls)) := by
        cases ls with
        | nil => exact absurd rfl hls
        | cons l2 ls => simp only [Lv.texts, joinTx, List.append_assoc]
      rw [e0]
      simp only [List.append_assoc]
      rw [read_text l h.1 ([44, 32] ++ (joinTx [44, 32] (Lv.texts ls) ++ ([41] ++ r))) _ brk_comma (by simp)]
      have e1 : [44, 32] ++ (joinTx [44, 32] (Lv.texts ls) ++ ([41] ++ r)) = 44 :: 32 :: (joinTx [44, 32] (Lv.texts ls) ++ ([41] ++ r)) := rfl
      rw [e1, stM_comma (by
        cases stk with
        | nil => exact absurd rfl hs
        | cons _ _ => simp [pushV])]
      simp only [pushV]
      rw [read_texts ls hls h.2 r (ps ++ [l.enc]) stk hs, List.append_assoc]
      rfl
end
theorem levelOf_text {l : Lv} (h : l.ok) : levelOf l.text = some l.enc := by
  have := read_text l h [] [([116, 111, 112], [])] brk_nil (by simp)
  rw [List.append_nil] at this
  rw [levelOf_stP, this]
  rfl
end Ev

set_option maxRecDepth 100000
set_option maxHeartbeats 4000000
namespace Ev
open Pr
/-! ### levels with texts in the place of names -/
mutual
def Lv.wr (f : Tx → Tx) : Lv → Tx
  | .num n => decTx n
  | .nam s => f s
  | .plus l n => l.wr f ++ ([32, 43, 32] ++ decTx n)
  | .mx ls => [109, 97, 120, 40] ++ (joinTx [44, 32] (Lv.wrs f ls) ++ [41])
  | .im a b => [105, 109, 97, 120, 40] ++ (a.wr f ++ ([44, 32] ++ (b.wr f ++ [41])))
def Lv.wrs (f : Tx → Tx) : List Lv → List Tx
  | [] => []
  | l :: ls => l.wr f :: Lv.wrs f ls
end
mutual
theorem Lv.wr_id : ∀ l : Lv, l.wr id = l.text
  | .num n => rfl
  | .nam s => rfl
  | .plus l n => by rw [Lv.wr, Lv.text, Lv.wr_id l]
  | .mx ls => by rw [Lv.wr, Lv.text, Lv.wrs_id ls]
  | .im a b => by rw [Lv.wr, Lv.text, Lv.wr_id a, Lv.wr_id b]
theorem Lv.wrs_id : ∀ ls : List Lv, Lv.wrs id ls = Lv.texts ls
  | [] => rfl
  | l :: ls => by rw [Lv.wrs, Lv.texts, Lv.wr_id l, Lv.wrs_id ls]
end
mutual
def Lv.dep : Lv → Nat
  | .num _ => 1
  | .nam _ => 1
  | .plus l _ => l.dep + 1
  | .mx ls => Lv.deps ls + 1
  | .im a b => max a.dep b.dep + 1
def Lv.deps : List Lv → Nat
  | [] => 0
  | l :: ls => max l.dep (Lv.deps ls)
end
theorem Lv.dep_pos (l : Lv) : 1 ≤ l.dep := by cases l <;> simp [Lv.dep]
theorem Lv.wrs_len (f : Tx → Tx) : ∀ ls : List Lv, (Lv.wrs f ls).length = ls.length
  | [] => rfl
  | l :: ls => by simp [Lv.wrs, Lv.wrs_len f ls]
theorem Lv.encs_get : ∀ (ls : List Lv) (i : Nat), (Lv.encs ls)[i]? = ls[i]?.map Lv.enc
  | [], i => by simp [Lv.encs]
  | l :: ls, 0 => by simp [Lv.encs]
  | l :: ls, i + 1 => by simp [Lv.encs, Lv.encs_get ls i]
theorem Lv.wrs_get (f : Tx → Tx) : ∀ (ls : List Lv) (i : Nat), (Lv.wrs f ls)[i]? = ls[i]?.map (Lv.wr f)
  | [], i => by simp [Lv.wrs]
  | l :: ls, 0 => by simp [Lv.wrs]
  | l :: ls, i + 1 => by simp [Lv.wrs, Lv.wrs_get f ls i]
theorem Lv.oks_get : ∀ {ls : List Lv} {i : Nat} {l : Lv}, Lv.oks ls → ls[i]? = some l → l.ok
  | [], i, l, _, e => by simp at e
  | x :: ls, 0, l, h, e => by
    rw [Lv.oks] at h
    simp only [List.getElem?_cons_zero, Option.some.injEq] at e
    subst e; exact h.1
  | x :: ls, i + 1, l, h, e => by
    rw [Lv.oks] at h
    exact Lv.oks_get h.2 (by simpa using e)
theorem Lv.deps_get : ∀ {ls : List Lv} {i : Nat} {l : Lv}, ls[i]? = some l → l.dep ≤ Lv.deps ls
  | [], i, l, e => by simp at e
  | x :: ls, 0, l, e => by
    simp only [List.getElem?_cons_zero, Option.some.injEq] at e
    subst e; rw [Lv.deps]; omega
  | x :: ls, i + 1, l, e => by
    have := Lv.deps_get (ls := ls) (i := i) (l := l) (by simpa using e)
    rw [Lv.deps]; omega
theorem allStr_strs : ∀ ss : List Tx, allStr (ss.map Val.str) = some ss
  | [] => rfl
  | s :: ss => by simp [allStr, allStr_strs ss]
theorem joinTx_len (sep : Tx) : ∀ ss : List Tx, sumLen ss + sep.length * ss.length ≤ (joinTx sep ss).length + sep.length
  | [] => by simp [sumLen, joinTx]
  | [x] => by simp [sumLen, joinTx]
  | x :: y :: r => by
    have := joinTx_len sep (y :: r)
    simp only [sumLen, List.map_cons, List.sum_cons, List.length_cons, joinTx, List.length_append, Nat.mul_add, Nat.mul_one] at this ⊢
    omega
theorem join_mem_len (sep : Tx) : ∀ (ss : List Tx) (i : Nat) (x : Tx), ss[i]? = some x → x.length ≤ (joinTx sep ss).length
  | [], i, x, e => by simp at e
  | [y], 0, x, e => by simp at e; subst e; simp [joinTx]
  | [y], i + 1, x, e => by simp at e
  | y :: z :: r, 0, x, e => by simp at e; subst e; simp [joinTx]
  | y :: z :: r, i + 1, x, e => by
    have := join_mem_len sep (z :: r) i x (by simpa using e)
    simp only [joinTx, List.length_append] at this ⊢
    omega
/-- what stands for a name -/
def subs (kvs : List (Val × Val)) (s : Tx) : Tx := match look kvs (.str s) with
  | some (.str t) => t
  | _ => s
def StrVals (kvs : List (Val × Val)) : Prop := ∀ s v, look kvs (.str s) = some v → ∃ t, v = .str t
theorem subs_get {kvs : List (Val × Val)} (h : StrVals kvs) (s : Tx) : (look kvs (.str s)).getD (.str s) = .str (subs kvs s) := by
  unfold subs
  cases e : look kvs (.str s) with
  | none => rfl
  | some v => obtain ⟨t, rfl⟩ := h s v e; rfl
theorem small_log {n : Nat} (h : n ≤ 9999) : ((n : Int)).natAbs.log2 < 1920 := by
  have e : ((n : Int)).natAbs = n := by omega
  rw [e]
  by_cases h0 : n = 0
  · subst h0; decide
  · exact (Nat.log2_lt h0).mpr (Nat.lt_of_le_of_lt h (Nat.lt_of_lt_of_le (show 9999 < 2 ^ 14 by decide) (Nat.pow_le_pow_right (by decide) (by decide))))
theorem part_int {n : Nat} (h : n ≤ 9999) : partTx (.int (n : Int)) = some (decTx n) := by
  show (if ((n : Int)).natAbs.log2 < 1920 then some (decTx (n : Int)) else none) = _
  rw [if_pos (small_log h)]
theorem part_str {s : Tx} (h : s.length ≤ LIM) : partTx (.str s) = some s := by
  show (if s.length ≤ LIM then some s else none) = _
  rw [if_pos h]
section
variable {P : Pg} {D : Nat → Option Df} {W K : Nat}
theorem m_written (hD : D 22 = some d_written) : ∀ (l : Lv), l.ok → ∀ (K : Nat), l.dep ≤ K → ∀ {h : Hp} {a : Nat} {kvs : List (Val × Val)} {Q : Val → Hp → Prop}, h[a]? = some (.dict false kvs) → StrVals kvs → (l.wr (subs kvs)).length ≤ LIM → (∀ h', Kp [] h h' → Q (.str (l.wr (subs kvs))) h') → wF (calls P D W K) 22 [l.enc, .ref a] h Q
  | .num n, ok, K, hK, h, a, kvs, Q, ha, hv, hl, q => by
    rw [Lv.ok] at ok
    obtain ⟨K, rfl⟩ : ∃ j, K = j + 1 := ⟨K - 1, by rw [Lv.dep] at hK; omega⟩
    refine w_def hD rfl ?_
    rw [Lv.enc]
    rw [Lv.wr] at q
    wtm_at "ev"
    refine l_stri (small_log ok) ?_
    wtm_at "ev"
    exact q h (.refl _ _)
  | .nam s, ok, K, hK, h, a, kvs, Q, ha, hv, hl, q => by
    obtain ⟨K, rfl⟩ : ∃ j, K = j + 1 := ⟨K - 1, by rw [Lv.dep] at hK; omega⟩
    refine w_def hD rfl ?_
    rw [Lv.enc]
    rw [Lv.wr] at q
    wtm_at "ev"
    refine m_getD ha rfl ?_
    rw [subs_get hv]
    wtm_at "ev"
    exact q h (.refl _ _)
  | .plus l n, ok, K, hK, h, a, kvs, Q, ha, hv, hl, q => by
    rw [Lv.ok] at ok
    rw [Lv.dep] at hK
    obtain ⟨K, rfl⟩ : ∃ j, K = j + 1 := ⟨K - 1, by omega⟩
    refine w_def hD rfl ?_
    rw [Lv.enc]
    rw [Lv.wr] at q hl
    simp only [List.length_append] at hl
    wtm_at "ev"
    refine m_written hD l ok.1 K (by omega) ha hv (by omega) fun h1 k1 => ?_
    refine ⟨_, part_str (by omega), ?_⟩
    refine ⟨by (simp only [decide_eq_true_eq, List.length_append, List.length_cons, List.length_nil, List.nil_append, List.length_map] at *; omega), ?_⟩
    wtm_at "ev"
    refine ⟨by (simp only [decide_eq_true_eq, List.length_append, List.length_cons, List.length_nil, List.nil_append, List.length_map] at *; omega), ?_⟩
    wtm_at "ev"
    refine ⟨_, part_int ok.2, ?_⟩
    refine ⟨by (simp only [decide_eq_true_eq, List.length_append, List.length_cons, List.length_nil, List.nil_append, List.length_map] at *; omega), ?_⟩
    wtm_at "ev"
    simp only [List.nil_append, List.append_assoc]
    exact q h1 k1
  | .mx ls, ok, K, hK, h, a, kvs, Q, ha, hv, hl, q => by
    rw [Lv.ok] at ok
    rw [Lv.dep] at hK
    obtain ⟨K, rfl⟩ : ∃ j, K = j + 1 := ⟨K - 1, by omega⟩
    refine w_def hD rfl ?_
    rw [Lv.enc]
    rw [Lv.wr] at q hl
    simp only [List.length_append] at hl
    unfold txMax
    wtm_at "ev"
    have hjl := joinTx_len [44, 32] (Lv.wrs (subs kvs) ls)
    simp only [List.length_cons, List.length_nil] at hl hjl
    refine w_lcMap (Lv.encs ls) ((Lv.wrs (subs kvs) ls).map Val.str) [] (by rw [List.length_map, Lv.wrs_len, Lv.encs_len]) (by rw [Lv.encs_len]; rw [Lv.wrs_len] at hjl; omega) ?_ ?_ ?_
    · wtm_at "ev"
      exact ⟨rfl, rfl, .refl _ _, fun _ _ _ => rfl⟩
    · intro i v u h' hv' hu' k'
      rw [Lv.encs_get] at hv'
      rw [List.getElem?_map, Lv.wrs_get] at hu'
      cases hli : ls[i]? with
      | none => rw [hli] at hv'; cases hv'
      | some l =>
        rw [hli] at hv' hu'
        cases hv'; cases hu'
        refine ⟨_, rfl, ?_⟩
        wtm_at "ev"
        have hmem := join_mem_len [44, 32] (Lv.wrs (subs kvs) ls) i (l.wr (subs kvs)) (by rw [Lv.wrs_get, hli]; rfl)
        exact m_written hD l (Lv.oks_get ok.2 hli) K (by have := Lv.deps_get hli; omega) (k'.at_ _ _ ha (by simp)) hv (by omega) fun h2 k2 => ⟨rfl, k2⟩
    · intro h1 k1
      wtm_at "ev"
      refine m_joinL get_new (allStr_strs _) (by simp only [List.length_cons, List.length_nil]; omega) ?_
      refine ⟨_, part_str (by omega), ?_⟩
      refine ⟨by (simp only [decide_eq_true_eq, List.length_append, List.length_cons, List.length_nil, List.nil_append, List.length_map] at *; omega), ?_⟩
      wtm_at "ev"
      refine ⟨by (simp only [decide_eq_true_eq, List.length_append, List.length_cons, List.length_nil, List.nil_append, List.length_map] at *; omega), ?_⟩
      wtm_at "ev"
      have e : [] ++ [109, 97, 120] ++ [40] ++ joinTx [44, 32] (Lv.wrs (subs kvs) ls) ++ [41] = [109, 97, 120, 40] ++ (joinTx [44, 32] (Lv.wrs (subs kvs) ls) ++ [41]) := by simp
      rw [e]
      exact q _ (k1.push _)
  | .im x y, ok, K, hK, h, a, kvs, Q, ha, hv, hl, q => by
    rw [Lv.ok] at ok
    rw [Lv.dep] at hK
    obtain ⟨K, rfl⟩ : ∃ j, K = j + 1 := ⟨K - 1, by omega⟩
    refine w_def hD rfl ?_
    rw [Lv.enc]
    rw [Lv.wr] at q hl
    simp only [List.length_append, List.length_cons, List.length_nil] at hl
    unfold txImax
    wtm_at "ev"
    have ej : joinTx [44, 32] [x.wr (subs kvs), y.wr (subs kvs)] = x.wr (subs kvs) ++ ([44, 32] ++ y.wr (subs kvs)) := by simp [joinTx]
    have el : (joinTx [44, 32] [x.wr (subs kvs), y.wr (subs kvs)]).length = (x.wr (subs kvs)).length + (2 + (y.wr (subs kvs)).length) := by rw [ej]; simp; omega
    refine w_lcMap [x.enc, y.enc] ([x.wr (subs kvs), y.wr (subs kvs)].map Val.str) [] rfl (show 2 ≤ LIM by decide) ?_ ?_ ?_
    · wtm_at "ev"
      exact ⟨rfl, rfl, .refl _ _, fun _ _ _ => rfl⟩
    · intro i v u h' hv' hu' k'
      match i, hv', hu' with
      | 0, hv', hu' =>
        cases hv'; cases hu'
        refine ⟨_, rfl, ?_⟩
        wtm_at "ev"
        exact m_written hD x ok.1 K (by omega) (k'.at_ _ _ ha (by simp)) hv (by omega) fun h2 k2 => ⟨rfl, k2⟩
      | 1, hv', hu' =>
        cases hv'; cases hu'
        refine ⟨_, rfl, ?_⟩
        wtm_at "ev"
        exact m_written hD y ok.2 K (by omega) (k'.at_ _ _ ha (by simp)) hv (by omega) fun h2 k2 => ⟨rfl, k2⟩
      | i + 2, hv', _ => simp at hv'
    · intro h1 k1
      wtm_at "ev"
      refine m_joinL get_new (allStr_strs _) (by simp [sumLen]; omega) ?_
      refine ⟨_, part_str (by omega), ?_⟩
      refine ⟨by (simp only [decide_eq_true_eq, List.length_append, List.length_cons, List.length_nil, List.nil_append, List.length_map] at *; omega), ?_⟩
      wtm_at "ev"
      refine ⟨by (simp only [decide_eq_true_eq, List.length_append, List.length_cons, List.length_nil, List.nil_append, List.length_map] at *; omega), ?_⟩
      wtm_at "ev"
      have e : [] ++ [105, 109, 97, 120] ++ [40] ++ joinTx [44, 32] [x.wr (subs kvs), y.wr (subs kvs)] ++ [41] = [105, 109, 97, 120, 40] ++ (x.wr (subs kvs) ++ ([44, 32] ++ (y.wr (subs kvs) ++ [41]))) := by rw [ej]; simp
      rw [e]
      exact q _ (k1.push _)
theorem m_text_of (hD : D 22 = some d_written) (hD2 : D 23 = some d_text_of) (l : Lv) (ok : l.ok) (hK : l.dep ≤ K) (hl : l.text.length ≤ LIM) {h : Hp} {Q : Val → Hp → Prop} (q : ∀ h', Kp [] h h' → Q (.str l.text) h') : wF (calls P D W (K + 1)) 23 [l.enc] h Q := by
  refine w_def hD2 rfl ?_
  wtm_at "ev"
  have e : subs [] = id := by funext s; rfl
  have e2 : l.wr (subs []) = l.text := by rw [e, Lv.wr_id]
  refine m_written hD l ok K hK (kvs := []) get_new (fun s v z => by cases z) (by rw [e2]; exact hl) fun h1 k1 => ?_
  rw [e2]
  wtm_at "ev"
  exact q _ (((Kp.refl _ _).push _).trans k1)
end
/-! ### demands -/
inductive Sg where | le | lt | eq
  deriving DecidableEq
def Sg.tx : Sg → Tx
  | .le => [60, 61] | .lt => [60] | .eq => [61]
def Sg.mark : Sg → Tx
  | .le => [32, 60, 61, 32] | .lt => [32, 60, 32] | .eq => [32, 61, 32]
structure Dm where
  l : Lv
  s : Sg
  r : Lv
def Dm.text (d : Dm) : Tx := d.l.text ++ (d.s.mark ++ d.r.text)
def Dm.enc (d : Dm) : Val := .tup [d.l.enc, .str d.s.tx, d.r.enc]
def Dm.ok (d : Dm) : Prop := d.l.ok ∧ d.r.ok
/-- signs of levels -/
def lvSign (c : Nat) : Bool := alnum c || c == 32 || c == 40 || c == 41 || c == 43 || c == 44
theorem al_sign {s : Tx} (h : s.all alnum = true) : s.all lvSign = true := by
  rw [List.all_eq_true] at h ⊢
  intro c hc
  unfold lvSign; rw [h c hc]; rfl
theorem join_sign : ∀ ss : List Tx, (∀ s ∈ ss, s.all lvSign = true) → (joinTx [44, 32] ss).all lvSign = true
  | [], _ => rfl
  | [x], h => h x (by simp)
  | x :: y :: r, h => by
    rw [joinTx, List.all_append, List.all_append, h x (by simp), join_sign (y :: r) fun s hs => h s (by simp only [List.mem_cons] at hs ⊢; exact .inr hs)]
    rfl
mutual
theorem text_sign : ∀ l : Lv, l.ok → l.text.all lvSign = true
  | .num n, h => al_sign (num_al h)
  | .nam s, h => al_sign (nam_al h)
  | .plus l n, h => by
    rw [Lv.ok] at h
    rw [Lv.text, List.all_append, List.all_append, text_sign l h.1, al_sign (num_al h.2)]; rfl
  | .mx ls, h => by
    rw [Lv.ok] at h
    rw [Lv.text, List.all_append, List.all_append, join_sign _ (texts_sign ls h.2)]; rfl
  | .im a b, h => by
    rw [Lv.ok] at h
    rw [Lv.text, List.all_append, List.all_append, List.all_append, List.all_append, text_sign a h.1, text_sign b h.2]; rfl
theorem texts_sign : ∀ ls : List Lv, Lv.oks ls → ∀ s ∈ Lv.texts ls, s.all lvSign = true
  | [], _, s, hs => by cases hs
  | l :: ls, h, s, hs => by
    rw [Lv.oks] at h
    rw [Lv.texts] at hs
    rcases List.mem_cons.mp hs with rfl | hs
    · exact text_sign l h.1
    · exact texts_sign ls h.2 s hs
end
theorem sign_ne {c : Nat} (h : lvSign c = true) : c ≠ 60 ∧ c ≠ 61 := ⟨fun e => by subst e; exact absurd h (by decide), fun e => by subst e; exact absurd h (by decide)⟩
/-- a text whose second sign stands nowhere is not found -/
theorem cutAt_none {a b : Nat} {p : Tx} : ∀ t : Tx, (∀ c ∈ t, c ≠ b) → cutAt (a :: b :: p) t = none
  | [], _ => rfl
  | c :: t, h => by
    have hp : pre (a :: b :: p) (c :: t) = false := by
      cases t with
      | nil => show ((a == c) && false) = false; exact Bool.and_false _
      | cons d t =>
        show ((a == c) && ((b == d) && pre p t)) = false
        have : (b == d) = false := beq_eq_false_iff_ne.mpr (fun e => h d (by simp) e.symm)
        rw [this]; simp
    rw [cutAt, hp, cutAt_none t fun x hx => h x (by simp [hx])]
    rfl
theorem cutAt_third {a b b' : Nat} {p : Tx} : ∀ t : Tx, (∀ c ∈ t, c ≠ b') → cutAt (a :: b :: b' :: p) t = none
  | [], _ => rfl
  | c :: t, h => by
    have hp : pre (a :: b :: b' :: p) (c :: t) = false := by
      match t with
      | [] => show ((a == c) && false) = false; exact Bool.and_false _
      | [d] => show ((a == c) && ((b == d) && false)) = false; simp
      | d :: e :: t =>
        show ((a == c) && ((b == d) && ((b' == e) && pre p t))) = false
        have : (b' == e) = false := beq_eq_false_iff_ne.mpr (fun z => h e (by simp) z.symm)
        rw [this]; simp
    rw [cutAt, hp, cutAt_third t fun x hx => h x (by simp [hx])]
    rfl
/-- .. and the first one is found -/
theorem cutAt_here {a b : Nat} {p : Tx} : ∀ t r : Tx, (∀ c ∈ t, c ≠ b) → a ≠ b → pre (a :: b :: p) (a :: b :: r) = true → cutAt (a :: b :: p) (t ++ (a :: b :: r)) = some (t, (a :: b :: r).drop (a :: b :: p).length)
  | [], r, _, _, h => by rw [List.nil_append, cutAt, h]; rfl
  | c :: t, r, h, hab, hp => by
    have hp' : pre (a :: b :: p) ((c :: t) ++ (a :: b :: r)) = false := by
      cases t with
      | nil =>
        show ((a == c) && ((b == a) && _)) = false
        have : (b == a) = false := beq_eq_false_iff_ne.mpr (fun e => hab e.symm)
        rw [this]; simp
      | cons d t =>
        show ((a == c) && ((b == d) && _)) = false
        have : (b == d) = false := beq_eq_false_iff_ne.mpr (fun e => h d (by simp) e.symm)
        rw [this]; simp
    have ih := cutAt_here t r (fun x hx => h x (by simp [hx])) hab hp
    show cutAt (a :: b :: p) (c :: (t ++ (a :: b :: r))) = _
    rw [cutAt]
    have e : c :: (t ++ (a :: b :: r)) = (c :: t) ++ (a :: b :: r) := rfl
    rw [e, hp', ih]
    rfl
end Ev

set_option maxRecDepth 100000
set_option maxHeartbeats 4000000
namespace Ev
open Pr
theorem enc_tup : ∀ l : Lv, isNon l.enc = false
  | .num _ => rfl
  | .nam _ => rfl
  | .plus _ _ => rfl
  | .mx _ => rfl
  | .im _ _ => rfl
/-- the reading of demands -/
structure HasD (P : Pg) (D : Nat → Option Df) : Prop extends HasR P D where
  sig : P.consts[4]? = some (.tup SIG)
  demandIn : D 17 = some d_demand_in
  needDemand : D 18 = some d_need_demand
theorem lv_no {l : Lv} (h : l.ok) : ∀ c ∈ l.text, c ≠ 60 ∧ c ≠ 61 := fun c hc => sign_ne (List.all_eq_true.mp (text_sign l h) c hc)
theorem cut_le {l r : Lv} (hl : l.ok) (hr : r.ok) : cutAt [32, 60, 61, 32] (l.text ++ ([32, 60, 61, 32] ++ r.text)) = some (l.text, r.text) :=
  cutAt_here l.text (61 :: 32 :: r.text) (fun c hc => (lv_no hl c hc).1) (by decide) (by rfl)
theorem cut_lt {l r : Lv} (hl : l.ok) (hr : r.ok) : cutAt [32, 60, 61, 32] (l.text ++ ([32, 60, 32] ++ r.text)) = none ∧ cutAt [32, 60, 32] (l.text ++ ([32, 60, 32] ++ r.text)) = some (l.text, r.text) := by
  refine ⟨cutAt_third _ fun c hc => ?_, cutAt_here l.text (32 :: r.text) (fun c hc => (lv_no hl c hc).1) (by decide) (by rfl)⟩
  rcases List.mem_append.mp hc with z | z
  · exact (lv_no hl c z).2
  · rcases List.mem_append.mp z with z | z
    · simp only [List.mem_cons, List.not_mem_nil, or_false] at z; omega
    · exact (lv_no hr c z).2
theorem cut_eq {l r : Lv} (hl : l.ok) (hr : r.ok) : cutAt [32, 60, 61, 32] (l.text ++ ([32, 61, 32] ++ r.text)) = none ∧ cutAt [32, 60, 32] (l.text ++ ([32, 61, 32] ++ r.text)) = none ∧ cutAt [32, 61, 32] (l.text ++ ([32, 61, 32] ++ r.text)) = some (l.text, r.text) := by
  have no : ∀ c ∈ l.text ++ ([32, 61, 32] ++ r.text), c ≠ 60 := fun c hc => by
    rcases List.mem_append.mp hc with z | z
    · exact (lv_no hl c z).1
    · rcases List.mem_append.mp z with z | z
      · simp only [List.mem_cons, List.not_mem_nil, or_false] at z; omega
      · exact (lv_no hr c z).1
  exact ⟨cutAt_none _ no, cutAt_none _ no, cutAt_here l.text (32 :: r.text) (fun c hc => (lv_no hl c hc).2) (by decide) (by rfl)⟩
section
variable {P : Pg} {D : Nat → Option Df} {W k : Nat} {h : Hp} {Q : Val → Hp → Prop}
theorem m_demand_in (H : HasD P D) (d : Dm) (ok : d.ok) (hl : d.text.length + 8 ≤ LIM) (hW : d.text.length < W) (q : ∀ h1, Kp [] h h1 → Q d.enc h1) : wF (calls P D W (k + 6)) 17 [.str d.text] h Q := by
  have c4 := H.sig
  obtain ⟨l, sg, r⟩ := d
  have hll : l.text.length + 8 ≤ LIM ∧ r.text.length + 8 ≤ LIM ∧ l.text.length < W ∧ r.text.length < W := by
    simp only [Dm.text, List.length_append] at hl hW
    omega
  have ok1 : l.ok := ok.1
  have ok2 : r.ok := ok.2
  have n1 := enc_tup l
  have n2 := enc_tup r
  refine w_def H.demandIn rfl ?_
  wtm_at "ev"
  generalize ht : Dm.text ⟨l, sg, r⟩ = tx at hl hW ⊢
  have hlt : tx.length ≤ LIM := by omega
  refine w_forV SIG (fun i st h' => h' = h ∧ (i = 0 ∨ i = 1 ∧ sg ≠ .le ∨ i = 2 ∧ sg = .eq) ∧ ∃ x1 x2 x3 x4, st = [some (.str tx), x1, x2, x3, x4, none, none]) ?_ ?_ ?_
  · wtm_at "ev"
    exact ⟨rfl, rfl, ⟨rfl, .inl rfl, _, _, _, _, rfl⟩, fun _ _ _ _ => rfl⟩
  · rintro i v st h' hv ⟨rfl, hi, x1, x2, x3, x4, rfl⟩
    rcases hi with rfl | ⟨rfl, hs⟩ | ⟨rfl, hs⟩
    · cases hv
      refine ⟨_, rfl, ?_⟩
      wtm_at "ev"
      cases sg with
      | le =>
        have e := cut_le ok1 ok2
        have ht' : l.text ++ ([32, 60, 61, 32] ++ r.text) = tx := ht
        rw [ht'] at e
        refine m_partS hlt e ?_
        wtm_at "ev"
        refine m_read_level H.toHasR l.text hll.1 hll.2.2.1 fun h1 k1 => ?_
        rw [levelOf_text ok1]
        simp only [optV]
        wtm_at "ev"
        refine m_read_level H.toHasR r.text hll.2.1 hll.2.2.2 fun h2 k2 => ?_
        rw [levelOf_text ok2]
        simp only [optV]
        wtm_at "ev"
        · rw [n1] at t; cases t
        · rw [n2] at t; cases t
        refine m_strip (t := [60, 61]) rfl ?_
        wtm_at "ev"
        exact q _ (k1.trans k2)
      | lt =>
        have e := (cut_lt ok1 ok2).1
        have ht' : l.text ++ ([32, 60, 32] ++ r.text) = tx := ht
        rw [ht'] at e
        refine m_partN hlt e ?_
        wtm_at "ev"
        exact ⟨rfl, .inr (.inl ⟨rfl, by decide⟩), _, _, _, _, rfl⟩
      | eq =>
        have e := (cut_eq ok1 ok2).1
        have ht' : l.text ++ ([32, 61, 32] ++ r.text) = tx := ht
        rw [ht'] at e
        refine m_partN hlt e ?_
        wtm_at "ev"
        exact ⟨rfl, .inr (.inl ⟨rfl, by decide⟩), _, _, _, _, rfl⟩
    · cases hv
      refine ⟨_, rfl, ?_⟩
      wtm_at "ev"
      cases sg with
      | le => exact absurd rfl hs
      | lt =>
        have e := (cut_lt ok1 ok2).2
        have ht' : l.text ++ ([32, 60, 32] ++ r.text) = tx := ht
        rw [ht'] at e
        refine m_partS hlt e ?_
        wtm_at "ev"
        refine m_read_level H.toHasR l.text hll.1 hll.2.2.1 fun h1 k1 => ?_
        rw [levelOf_text ok1]
        simp only [optV]
        wtm_at "ev"
        refine m_read_level H.toHasR r.text hll.2.1 hll.2.2.2 fun h2 k2 => ?_
        rw [levelOf_text ok2]
        simp only [optV]
        wtm_at "ev"
        · rw [n1] at t; cases t
        · rw [n2] at t; cases t
        refine m_strip (t := [60]) rfl ?_
        wtm_at "ev"
        exact q _ (k1.trans k2)
      | eq =>
        have e := (cut_eq ok1 ok2).2.1
        have ht' : l.text ++ ([32, 61, 32] ++ r.text) = tx := ht
        rw [ht'] at e
        refine m_partN hlt e ?_
        wtm_at "ev"
        exact ⟨rfl, .inr (.inr ⟨rfl, rfl⟩), _, _, _, _, rfl⟩
    · subst hs
      cases hv
      refine ⟨_, rfl, ?_⟩
      wtm_at "ev"
      have e := (cut_eq ok1 ok2).2.2
      have ht' : l.text ++ ([32, 61, 32] ++ r.text) = tx := ht
      rw [ht'] at e
      refine m_partS hlt e ?_
      wtm_at "ev"
      refine m_read_level H.toHasR l.text hll.1 hll.2.2.1 fun h1 k1 => ?_
      rw [levelOf_text ok1]
      simp only [optV]
      wtm_at "ev"
      refine m_read_level H.toHasR r.text hll.2.1 hll.2.2.2 fun h2 k2 => ?_
      rw [levelOf_text ok2]
      simp only [optV]
      wtm_at "ev"
      · rw [n1] at t; cases t
      · rw [n2] at t; cases t
      refine m_strip (t := [61]) rfl ?_
      wtm_at "ev"
      exact q _ (k1.trans k2)
  · rintro st h' ⟨rfl, hi, _⟩
    rcases hi with z | ⟨z, _⟩ | ⟨z, _⟩ <;> exact absurd z (by decide)
theorem m_need_demand (H : HasD P D) (d : Dm) (ok : d.ok) (hl : d.text.length + 8 ≤ LIM) (hW : d.text.length < W) (q : ∀ h1, Kp [] h h1 → Q d.enc h1) : wF (calls P D W (k + 7)) 18 [.str d.text] h Q := by
  refine w_def H.needDemand rfl ?_
  wtm_at "ev"
  refine m_demand_in H d ok hl hW fun h1 k1 => ?_
  unfold Dm.enc at q ⊢
  wtm_at "ev"
  exact q _ k1
end
end Ev

set_option maxRecDepth 100000
set_option maxHeartbeats 4000000
namespace Ev
open Pr
/-! ### drawn levels -/
mutual
/-- names of ns, numbers at most m, at most w parts -/
def Lv.good (ns : List Tx) (m w : Nat) : Lv → Prop
  | .num n => n ≤ m
  | .nam s => s ∈ ns
  | .plus l n => l.good ns m w ∧ n ≤ m
  | .mx ls => 2 ≤ ls.length ∧ ls.length ≤ w ∧ Lv.goods ns m w ls
  | .im a b => a.good ns m w ∧ b.good ns m w
def Lv.goods (ns : List Tx) (m w : Nat) : List Lv → Prop
  | [] => True
  | l :: ls => l.good ns m w ∧ Lv.goods ns m w ls
end
mutual
theorem Lv.good_ok {ns : List Tx} {m w : Nat} (hn : ∀ s ∈ ns, isNameB s = true) (hm : m ≤ 9999) : ∀ {l : Lv}, l.good ns m w → l.ok
  | .num n, h => by rw [Lv.good] at h; rw [Lv.ok]; omega
  | .nam s, h => by rw [Lv.good] at h; rw [Lv.ok]; exact hn s h
  | .plus l n, h => by rw [Lv.good] at h; rw [Lv.ok]; exact ⟨Lv.good_ok hn hm h.1, by omega⟩
  | .mx ls, h => by rw [Lv.good] at h; rw [Lv.ok]; exact ⟨h.1, Lv.goods_ok hn hm h.2.2⟩
  | .im a b, h => by rw [Lv.good] at h; rw [Lv.ok]; exact ⟨Lv.good_ok hn hm h.1, Lv.good_ok hn hm h.2⟩
theorem Lv.goods_ok {ns : List Tx} {m w : Nat} (hn : ∀ s ∈ ns, isNameB s = true) (hm : m ≤ 9999) : ∀ {ls : List Lv}, Lv.goods ns m w ls → Lv.oks ls
  | [], _ => trivial
  | l :: ls, h => by rw [Lv.goods] at h; exact ⟨Lv.good_ok hn hm h.1, Lv.goods_ok hn hm h.2⟩
end
/-- a bound of the texts of levels -/
def tl (w : Nat) : Nat → Nat
  | 0 => 0
  | d + 1 => w * (tl w d + 2) + 12
theorem tl_mono (w : Nat) : ∀ d e : Nat, d ≤ e → tl w d ≤ tl w e
  | 0, _, _ => Nat.zero_le _
  | d + 1, 0, h => by omega
  | d + 1, e + 1, h => by
    have := tl_mono w d e (by omega)
    simp only [tl]
    have := Nat.mul_le_mul_left w (show tl w d + 2 ≤ tl w e + 2 by omega)
    omega
theorem name_len {s : Tx} (h : isNameB s = true) : s.length ≤ 4 := by
  simp only [isNameB, Bool.and_eq_true, decide_eq_true_eq] at h
  exact h.1.1.1.2
theorem join_len (b : Nat) : ∀ ss : List Tx, (∀ s ∈ ss, s.length ≤ b) → (joinTx [44, 32] ss).length ≤ ss.length * (b + 2)
  | [], _ => by simp [joinTx]
  | [x], h => by have := h x (by simp); simp [joinTx]; omega
  | x :: y :: r, h => by
    have h1 := h x (by simp)
    have h2 := join_len b (y :: r) fun s hs => h s (by simp only [List.mem_cons] at hs ⊢; exact .inr hs)
    simp only [joinTx, List.length_append, List.length_cons, List.length_nil] at h2 ⊢
    rw [Nat.add_mul (r.length + 1) 1 (b + 2)]
    omega
mutual
theorem text_len {w : Nat} (hw : 2 ≤ w) {ns : List Tx} {m : Nat} (hn : ∀ s ∈ ns, isNameB s = true) (hm : m ≤ 9999) : ∀ {l : Lv}, l.good ns m w → l.text.length ≤ tl w l.dep
  | .num n, h => by
    rw [Lv.good] at h
    have := num_len (n := n) (by omega)
    simp only [Lv.text, Lv.dep, tl]; omega
  | .nam s, h => by
    rw [Lv.good] at h
    have := name_len (hn s h)
    simp only [Lv.text, Lv.dep, tl]; omega
  | .plus l n, h => by
    rw [Lv.good] at h
    have h1 := text_len hw hn hm h.1
    have h2 := num_len (n := n) (by omega)
    simp only [Lv.text, Lv.dep, tl, List.length_append, List.length_cons, List.length_nil]
    have := Nat.mul_le_mul_right (tl w l.dep + 2) hw
    omega
  | .mx ls, h => by
    rw [Lv.good] at h
    have h1 := join_len (tl w (Lv.deps ls)) (Lv.texts ls) (texts_len hw hn hm h.2.2)
    have h2 : (Lv.texts ls).length = ls.length := by
      clear h h1
      induction ls with
      | nil => rfl
      | cons _ _ ih => simp [Lv.texts, ih]
    rw [h2] at h1
    simp only [Lv.text, Lv.dep, tl, List.length_append, List.length_cons, List.length_nil]
    have := Nat.mul_le_mul_right (tl w (Lv.deps ls) + 2) h.2.1
    omega
  | .im a b, h => by
    rw [Lv.good] at h
    have h1 := text_len hw hn hm h.1
    have h2 := text_len hw hn hm h.2
    have h3 := tl_mono w a.dep (max a.dep b.dep) (by omega)
    have h4 := tl_mono w b.dep (max a.dep b.dep) (by omega)
    simp only [Lv.text, Lv.dep, tl, List.length_append, List.length_cons, List.length_nil]
    have := Nat.mul_le_mul_right (tl w (max a.dep b.dep) + 2) hw
    omega
theorem texts_len {w : Nat} (hw : 2 ≤ w) {ns : List Tx} {m : Nat} (hn : ∀ s ∈ ns, isNameB s = true) (hm : m ≤ 9999) : ∀ {ls : List Lv}, Lv.goods ns m w ls → ∀ s ∈ Lv.texts ls, s.length ≤ tl w (Lv.deps ls)
  | [], _, s, hs => by cases hs
  | l :: ls, h, s, hs => by
    rw [Lv.goods] at h
    rw [Lv.texts] at hs
    rcases List.mem_cons.mp hs with rfl | hs
    · exact Nat.le_trans (text_len hw hn hm h.1) (tl_mono w _ _ (by simp only [Lv.deps]; omega))
    · exact Nat.le_trans (texts_len hw hn hm h.2 s hs) (tl_mono w _ _ (by simp only [Lv.deps]; omega))
end
mutual
/-- the value of a level -/
def Lv.val (ρ : Tx → Nat) : Lv → Nat
  | .num n => n
  | .nam s => ρ s
  | .plus l n => l.val ρ + n
  | .mx ls => Lv.vals ρ ls
  | .im a b => if b.val ρ = 0 then 0 else max (a.val ρ) (b.val ρ)
def Lv.vals (ρ : Tx → Nat) : List Lv → Nat
  | [] => 0
  | l :: ls => max (l.val ρ) (Lv.vals ρ ls)
end
theorem Lv.goods_mem {ns : List Tx} {m w : Nat} : ∀ {ls : List Lv} {l : Lv}, Lv.goods ns m w ls → l ∈ ls → l.good ns m w
  | [], _, _, h => by cases h
  | x :: ls, l, g, h => by
    rw [Lv.goods] at g
    rcases List.mem_cons.mp h with rfl | h
    · exact g.1
    · exact Lv.goods_mem g.2 h
theorem two_of {α : Type} {ls : List α} (h1 : 2 ≤ ls.length) (h2 : ls.length ≤ 2) : ∃ a b, ls = [a, b] := by
  match ls, h1, h2 with
  | [a, b], _, _ => exact ⟨a, b, rfl⟩
  | [], h, _ => simp at h
  | [_], h, _ => simp at h
  | _ :: _ :: _ :: _, _, h => simp at h
/-! ### the source of draws -/
def BoxAt (h : Hp) (b : Nat) : Prop := ∃ x y z : Int, h[b]? = some (.list false [.int x, .int y, .int z])
theorem BoxAt.keep {h h' : Hp} {b : Nat} {ws : List Nat} (x : BoxAt h b) (k : Kp ws h h') (n : b ∉ ws) : BoxAt h' b := let ⟨i, j, l, e⟩ := x; ⟨i, j, l, k.at_ _ _ e n⟩
theorem BoxAt.lt {h : Hp} {b : Nat} (x : BoxAt h b) : b < h.length := let ⟨_, _, _, e⟩ := x; get_lt e
end Ev

set_option maxRecDepth 100000
set_option maxHeartbeats 4000000
namespace Ev
section
variable {P : Pg} {D : Nat → Option Df} {W k : Nat} {h : Hp} {Q : Val → Hp → Prop} {b : Nat}
theorem box_put {x y z : Int} (hb : h[b]? = some (.list false [.int x, .int y, .int z])) (x' y' z' : Int) : Kp [b] h (h.set b (.list false [.int x', .int y', .int z'])) ∧ BoxAt (h.set b (.list false [.int x', .int y', .int z'])) b :=
  ⟨(Kp.refl _ _).set (.inr (by simp)) _, _, _, _, set_get hb⟩
theorem mod_nat {a n : Int} (h : 0 < n) : ∃ d : Nat, a % n = (d : Int) ∧ (d : Int) < n := by
  have h1 := Int.emod_nonneg a (show n ≠ 0 by omega)
  have h2 := Int.emod_lt_of_pos a h
  exact ⟨(a % n).toNat, by omega, by omega⟩
theorem mB_take {i : Nat} (hD : D i = some LB.take) (hb : BoxAt h b) {n : Int} (h0 : 0 < n) (h1 : n < 1073741824) (q : ∀ (d : Nat) h', (d : Int) < n → Kp [b] h h' → BoxAt h' b → Q (.int (d : Int)) h') : wF (calls P D W (k + 1)) i [.ref b, .int n] h Q := by
  obtain ⟨x, y, z, hb⟩ := hb
  refine w_def hD rfl ?_
  wtm_at "ev"
  · obtain ⟨d, e, hd⟩ := mod_nat (a := x) h0
    rw [e]
    exact q d _ hd ((Kp.refl _ _).set (.inr (by simp)) _) ⟨_, _, _, set_get hb⟩
  · obtain ⟨d, e, hd⟩ := mod_nat (a := ((y + 106907 * (z + 1)) * 71711 % 2147483647 * 2147483647 + (((y + 106907 * (z + 1)) * 71711 % 2147483647 * 48271 + 32009) % 2147483629 + 1)) / 8191) h0
    rw [e]
    exact q d _ hd (((Kp.refl _ _).set (.inr (by simp)) _).set (.inr (by simp)) _) ⟨_, _, _, set_get (set_get hb)⟩
theorem mB_pick {i j : Nat} (hj : D j = some LB.take) (hD : D i = some (LB.pick j)) (hb : BoxAt h b) {a : Nat} {fr : Bool} {vs : List Val} (ha : h[a]? = some (.list fr vs)) (hab : a ≠ b) (h0 : 0 < vs.length) (h1 : vs.length < 1000) (q : ∀ v h', v ∈ vs → Kp [b] h h' → BoxAt h' b → Q v h') : wF (calls P D W (k + 2)) i [.ref b, .ref a] h Q := by
  refine w_def hD rfl ?_
  wtm_at "ev"
  refine mB_take hj hb (by omega) (by omega) fun d h' hd k' hb' => ?_
  have hlt : d < vs.length := by omega
  have hv : vs[d]? = some vs[d] := List.getElem?_eq_getElem hlt
  refine s_ln (k'.at_ _ _ ha (by simpa using hab)) hv ?_
  wtm_at "ev"
  exact q _ _ (List.getElem_mem hlt) k' hb'
/-- what a drawn level needs -/
structure Drw (h : Hp) (b nm : Nat) (ns : List Tx) : Prop where
  box : BoxAt h b
  nms : ∃ fr, h[nm]? = some (.list fr (strVs ns))
  ne : nm ≠ b
  pos : 0 < ns.length
  few : ns.length < 1000
theorem Drw.keep {nm : Nat} {ns : List Tx} {h' : Hp} (x : Drw h b nm ns) (k : Kp [b] h h') (hb : BoxAt h' b) : Drw h' b nm ns := ⟨hb, let ⟨fr, e⟩ := x.nms; ⟨fr, k.at_ _ _ e (by simpa using x.ne)⟩, x.ne, x.pos, x.few⟩
theorem mB_pickN {i j : Nat} (hj : D j = some LB.take) (hD : D i = some (LB.pick j)) {nm : Nat} {ns : List Tx} (hd : Drw h b nm ns) (q : ∀ s h', s ∈ ns → Kp [b] h h' → Drw h' b nm ns → Q (.str s) h') : wF (calls P D W (k + 2)) i [.ref b, .ref nm] h Q := by
  obtain ⟨fr, e⟩ := hd.nms
  refine mB_pick hj hD hd.box e hd.ne (by simpa [strVs] using hd.pos) (by simpa [strVs] using hd.few) fun v h' hv k' hb' => ?_
  obtain ⟨s, hs, rfl⟩ := List.mem_map.mp hv
  exact q s h' hs k' (hd.keep k' hb')
theorem mB_level {it ip il : Nat} (ht : D it = some LB.take) (hp : D ip = some (LB.pick it)) (hl : D il = some (LB.level it ip il)) {nm : Nat} {ns : List Tx} {m : Nat} (hm : m ≤ 9999) {wd : Bool} : ∀ (deep K : Nat), deep + 3 ≤ K → ∀ {h : Hp} {Q : Val → Hp → Prop}, Drw h b nm ns →
    (∀ (l : Lv) h', l.good ns m 2 → l.dep ≤ deep + 1 → Kp [b] h h' → Drw h' b nm ns → Q l.enc h') → wF (calls P D W K) il [.ref b, .ref nm, .int (deep : Int), .int (m : Int), .bl wd] h Q
  | 0, K, hK, h, Q, hd, q => by
    obtain ⟨K, rfl⟩ : ∃ j, K = j + 3 := ⟨K - 3, by omega⟩
    refine w_def hl rfl ?_
    wtm_at "ev"
    refine mB_take ht hd.box (by decide) (by decide) fun d h1 hd1 k1 hb1 => ?_
    have D1 := hd.keep k1 hb1
    wtm_at "ev"
    · refine mB_take ht hb1 (by omega) (by omega) fun d2 h2 hd2 k2 hb2 => ?_
      wtm_at "ev"
      exact q (.num d2) h2 (show d2 ≤ m by omega) (by simp [Lv.dep]) (k1.trans k2) (D1.keep k2 hb2)
    · refine mB_pickN ht hp D1 fun s h2 hs k2 D2 => ?_
      wtm_at "ev"
      exact q (.nam s) h2 hs (by simp [Lv.dep]) (k1.trans k2) D2
    · exact absurd hd1 (by simp only [decide_eq_false_iff_not] at *; omega)
    · exact absurd hd1 (by simp only [decide_eq_false_iff_not] at *; omega)
  | deep + 1, K, hK, h, Q, hd, q => by
    obtain ⟨K, rfl⟩ : ∃ j, K = j + 4 := ⟨K - 4, by omega⟩
    refine w_def hl rfl ?_
    wtm_at "ev"
    · have ed : ((deep + 1 : Nat) : Int) - 1 = (deep : Int) := by omega
      have e7 : (0 : Int) < 7 + (if wd = true then 1 else 0) ∧ (7 : Int) + (if wd = true then 1 else 0) < 1073741824 := by cases wd <;> decide
      refine mB_take ht hd.box e7.1 e7.2 fun d h1 hd1 k1 hb1 => ?_
      have D1 := hd.keep k1 hb1
      wtm_at "ev"
      · refine mB_take ht hb1 (by omega) (by omega) fun d2 h2 hd2 k2 hb2 => ?_
        wtm_at "ev"
        exact q (.num d2) h2 (show d2 ≤ m by omega) (by simp [Lv.dep]) (k1.trans k2) (D1.keep k2 hb2)
      · refine mB_pickN ht hp D1 fun s h2 hs k2 D2 => ?_
        wtm_at "ev"
        exact q (.nam s) h2 hs (by simp [Lv.dep]) (k1.trans k2) D2
      · rw [ed]
        refine mB_level ht hp hl hm deep _ (by omega) D1 fun l h2 gl dl k2 D2 => ?_
        wtm_at "ev"
        refine mB_take ht D2.box (by omega) (by omega) fun d2 h3 hd3 k3 hb3 => ?_
        wtm_at "ev"
        exact q (.plus l d2) h3 (show _ ∧ _ from ⟨gl, by omega⟩) (by simp only [Lv.dep]; omega) ((k1.trans k2).trans k3) (D2.keep k3 hb3)
      · rw [ed]
        refine mB_level ht hp hl hm deep _ (by omega) D1 fun l h2 gl dl k2 D2 => ?_
        wtm_at "ev"
        rw [ed]
        refine mB_level ht hp hl hm deep _ (by omega) D2 fun l2 h3 gl2 dl2 k3 D3 => ?_
        wtm_at "ev"
        · exact q (.im l l2) h3 (show _ ∧ _ from ⟨gl, gl2⟩) (by simp only [Lv.dep]; omega) ((k1.trans k2).trans k3) D3
        · exact q (.mx [l, l2]) h3 (show _ ∧ _ ∧ _ from ⟨by simp, by simp, gl, gl2, trivial⟩) (by simp only [Lv.dep, Lv.deps]; omega) ((k1.trans k2).trans k3) D3
    · exact absurd ‹_› (by simp only [decide_eq_false_iff_not]; omega)
theorem mB_text {i : Nat} (hD : D i = some (LB.text i)) {ns : List Tx} {m : Nat} (hn : ∀ s ∈ ns, isNameB s = true) (hm : m ≤ 9999) : ∀ (l : Lv) (K : Nat), l.dep ≤ K → l.good ns m 2 → l.text.length ≤ LIM → ∀ {h : Hp} {Q : Val → Hp → Prop}, Q (.str l.text) h → wF (calls P D W K) i [l.enc] h Q
  | .num n, K, hK, g, hl, h, Q, q => by
    rw [Lv.good] at g
    obtain ⟨K, rfl⟩ : ∃ j, K = j + 1 := ⟨K - 1, by rw [Lv.dep] at hK; omega⟩
    refine w_def hD rfl ?_
    rw [Lv.enc]
    rw [Lv.text] at q
    wtm_at "ev"
    refine l_stri (small_log (by omega)) ?_
    wtm_at "ev"
    exact q
  | .nam s, K, hK, g, hl, h, Q, q => by
    obtain ⟨K, rfl⟩ : ∃ j, K = j + 1 := ⟨K - 1, by rw [Lv.dep] at hK; omega⟩
    refine w_def hD rfl ?_
    rw [Lv.enc]
    rw [Lv.text] at q
    wtm_at "ev"
    exact q
  | .plus l n, K, hK, g, hl, h, Q, q => by
    rw [Lv.good] at g
    rw [Lv.dep] at hK
    obtain ⟨K, rfl⟩ : ∃ j, K = j + 1 := ⟨K - 1, by omega⟩
    refine w_def hD rfl ?_
    rw [Lv.enc]
    rw [Lv.text] at q hl
    simp only [List.length_append, List.length_cons, List.length_nil] at hl
    wtm_at "ev"
    refine mB_text hD hn hm l K (by omega) g.1 (by omega) ?_
    wtm_at "ev"
    refine b_adds (by simp only [List.length_cons, List.length_nil]; omega) ?_
    wtm_at "ev"
    refine l_stri (small_log (by omega)) ?_
    wtm_at "ev"
    refine b_adds (by simp only [List.length_append, List.length_cons, List.length_nil]; omega) ?_
    wtm_at "ev"
    rw [List.append_assoc]
    exact q
  | .mx ls, K, hK, g, hl, h, Q, q => by
    rw [Lv.good] at g
    obtain ⟨x, y, rfl⟩ := two_of g.1 g.2.1
    have g3 := g.2.2
    simp only [Lv.goods] at g3
    simp only [Lv.dep, Lv.deps] at hK
    obtain ⟨K, rfl⟩ : ∃ j, K = j + 1 := ⟨K - 1, by omega⟩
    refine w_def hD rfl ?_
    simp only [Lv.enc, Lv.encs, txMax]
    simp only [Lv.text, Lv.texts, joinTx] at q hl
    simp only [List.length_append, List.length_cons, List.length_nil] at hl
    wtm_at "ev"
    refine b_adds (by decide) ?_
    wtm_at "ev"
    refine mB_text hD hn hm x K (by omega) g3.1 (by omega) ?_
    wtm_at "ev"
    refine b_adds (by simp only [List.length_append, List.length_cons, List.length_nil]; omega) ?_
    wtm_at "ev"
    refine b_adds (by simp only [List.length_append, List.length_cons, List.length_nil]; omega) ?_
    wtm_at "ev"
    refine mB_text hD hn hm y K (by omega) g3.2.1 (by omega) ?_
    wtm_at "ev"
    refine b_adds (by simp only [List.length_append, List.length_cons, List.length_nil]; omega) ?_
    wtm_at "ev"
    refine b_adds (by simp only [List.length_append, List.length_cons, List.length_nil]; omega) ?_
    wtm_at "ev"
    simp only [List.append_assoc, List.cons_append, List.nil_append] at q ⊢
    exact q
  | .im x y, K, hK, g, hl, h, Q, q => by
    rw [Lv.good] at g
    simp only [Lv.dep] at hK
    obtain ⟨K, rfl⟩ : ∃ j, K = j + 1 := ⟨K - 1, by omega⟩
    refine w_def hD rfl ?_
    simp only [Lv.enc, txImax]
    simp only [Lv.text] at q hl
    simp only [List.length_append, List.length_cons, List.length_nil] at hl
    wtm_at "ev"
    refine b_adds (by decide) ?_
    wtm_at "ev"
    refine mB_text hD hn hm x K (by omega) g.1 (by omega) ?_
    wtm_at "ev"
    refine b_adds (by simp only [List.length_append, List.length_cons, List.length_nil]; omega) ?_
    wtm_at "ev"
    refine b_adds (by simp only [List.length_append, List.length_cons, List.length_nil]; omega) ?_
    wtm_at "ev"
    refine mB_text hD hn hm y K (by omega) g.2 (by omega) ?_
    wtm_at "ev"
    refine b_adds (by simp only [List.length_append, List.length_cons, List.length_nil]; omega) ?_
    wtm_at "ev"
    refine b_adds (by simp only [List.length_append, List.length_cons, List.length_nil]; omega) ?_
    wtm_at "ev"
    simp only [List.append_assoc, List.cons_append, List.nil_append] at q ⊢
    exact q
/-- numbers for names -/
def NumAt (h : Hp) (a : Nat) (ns : List Tx) (ρ : Tx → Nat) : Prop := ∃ fr kvs, h[a]? = some (.dict fr kvs) ∧ ∀ s ∈ ns, look kvs (.str s) = some (.int (ρ s : Nat))
theorem NumAt.keep {h' : Hp} {a : Nat} {ns : List Tx} {ρ : Tx → Nat} {ws : List Nat} (x : NumAt h a ns ρ) (k : Kp ws h h') (n : a ∉ ws) : NumAt h' a ns ρ := let ⟨fr, kvs, e, z⟩ := x; ⟨fr, kvs, k.at_ _ _ e n, z⟩
theorem max_nat (a b : Nat) : (if (b : Int) > (a : Int) then (b : Int) else (a : Int)) = ((max a b : Nat) : Int) := by split <;> omega
theorem mB_worth {i : Nat} (hD : D i = some (LB.worth i)) {ns : List Tx} {m a : Nat} {ρ : Tx → Nat} : ∀ (l : Lv) (K : Nat), l.dep ≤ K → l.good ns m 2 → ∀ {h : Hp} {Q : Val → Hp → Prop}, NumAt h a ns ρ → Q (.int (l.val ρ : Nat)) h → wF (calls P D W K) i [l.enc, .ref a] h Q
  | .num n, K, hK, g, h, Q, hN, q => by
    obtain ⟨K, rfl⟩ : ∃ j, K = j + 1 := ⟨K - 1, by rw [Lv.dep] at hK; omega⟩
    refine w_def hD rfl ?_
    rw [Lv.enc]
    rw [Lv.val] at q
    wtm_at "ev"
    exact q
  | .nam s, K, hK, g, h, Q, hN, q => by
    rw [Lv.good] at g
    obtain ⟨K, rfl⟩ : ∃ j, K = j + 1 := ⟨K - 1, by rw [Lv.dep] at hK; omega⟩
    refine w_def hD rfl ?_
    rw [Lv.enc]
    rw [Lv.val] at q
    obtain ⟨fr, kvs, e, z⟩ := hN
    wtm_at "ev"
    refine s_dk e rfl (z s g) ?_
    wtm_at "ev"
    exact q
  | .plus l n, K, hK, g, h, Q, hN, q => by
    rw [Lv.good] at g
    rw [Lv.dep] at hK
    obtain ⟨K, rfl⟩ : ∃ j, K = j + 1 := ⟨K - 1, by omega⟩
    refine w_def hD rfl ?_
    rw [Lv.enc]
    rw [Lv.val] at q
    wtm_at "ev"
    refine mB_worth hD l K (by omega) g.1 hN ?_
    wtm_at "ev"
    exact q
  | .mx ls, K, hK, g, h, Q, hN, q => by
    rw [Lv.good] at g
    obtain ⟨x, y, rfl⟩ := two_of g.1 g.2.1
    have g3 := g.2.2
    simp only [Lv.goods] at g3
    simp only [Lv.dep, Lv.deps] at hK
    obtain ⟨K, rfl⟩ : ∃ j, K = j + 1 := ⟨K - 1, by omega⟩
    refine w_def hD rfl ?_
    simp only [Lv.enc, Lv.encs, txMax]
    simp only [Lv.val, Lv.vals, Nat.max_zero] at q
    wtm_at "ev"
    refine mB_worth hD x K (by omega) g3.1 hN ?_
    wtm_at "ev"
    refine mB_worth hD y K (by omega) g3.2.1 hN ?_
    wtm_at "ev"
    rw [max_nat]
    exact q
  | .im x y, K, hK, g, h, Q, hN, q => by
    rw [Lv.good] at g
    simp only [Lv.dep] at hK
    obtain ⟨K, rfl⟩ : ∃ j, K = j + 1 := ⟨K - 1, by omega⟩
    refine w_def hD rfl ?_
    simp only [Lv.enc, txImax]
    rw [Lv.val] at q
    wtm_at "ev"
    refine mB_worth hD x K (by omega) g.1 hN ?_
    wtm_at "ev"
    refine mB_worth hD y K (by omega) g.2 hN ?_
    wtm_at "ev"
    · rw [if_pos (by simpa using t)] at q
      exact q
    · rw [if_neg (by simpa using t)] at q
      rw [max_nat]
      exact q
end
end Ev

set_option maxRecDepth 100000
set_option maxHeartbeats 4000000
namespace Ev
open Pr
section
variable {P : Pg} {D : Nat → Option Df} {W k : Nat} {h : Hp} {Q : Val → Hp → Prop} {b : Nat}
theorem ints_get {ns : List Int} {i : Nat} (h : i < ns.length) : (ns.map Val.int)[i]? = some (.int ns[i]) := by
  rw [List.getElem?_map, List.getElem?_eq_getElem h]; rfl
theorem s_two {c : Bool} {x : Int} (q : ∀ y : Int, Q (.int y) (h ++ [.list false [.int 0, .int x]])) : wsubCall (.ref h.length) (.int (if c = true then 1 else 0)) (h ++ [.list false [.int 0, .int x]]) Q := by
  cases c with
  | false => exact s_ln (k := 0) get_new rfl (q 0)
  | true => exact s_ln (k := 1) get_new rfl (q x)
theorem mB_box {i : Nat} (hD : D i = some LB.box) {sc : Nat} {fr : Bool} {ns : List Int} (hs : h[sc]? = some (.list fr (ns.map Val.int))) (c : Nat) (q : ∀ b h', h.length ≤ b → Kp [] h h' → BoxAt h' b → Q (.ref b) h') : wF (calls P D W (k + 1)) i [.ref sc, .int (c : Int)] h Q := by
  refine w_def hD rfl ?_
  have last : ∀ y z : Int, ∀ o, Q (.ref (h ++ [o]).length) (h ++ [o] ++ [.list false [.int y, .int z, .int 0]]) := fun y z o => q _ _ (by simp) (((Kp.refl _ _).push _).push _) ⟨_, _, _, get_new⟩
  wtm_at "ev"
  · refine s_ln hs (ints_get (by simp only [decide_eq_true_eq, List.length_map] at t; omega)) ?_
    wtm_at "ev"
    refine s_two fun y => ?_
    wtm_at "ev"
    exact last _ _ _
  · rename_i t1
    simp only [decide_eq_true_eq, List.length_map] at t
    refine b_mod (by simp only [List.length_map]; omega) ?_
    have e : (c : Int) % ((ns.map Val.int).length : Int) = ((c % ns.length : Nat) : Int) := by rw [List.length_map]; exact (Int.natCast_emod c ns.length).symm
    rw [e]
    obtain ⟨zz, hz⟩ : ∃ z, (ns.map Val.int)[c % ns.length]? = some (.int z) := ⟨_, ints_get (Nat.mod_lt _ (by omega))⟩
    refine s_ln hs hz ?_
    clear e t t1
    wtm_at "ev"
    refine s_two fun y => ?_
    wtm_at "ev"
    exact last _ _ _
  · refine s_two fun y => ?_
    wtm_at "ev"
    exact last _ _ _
end
end Ev

set_option maxRecDepth 100000
set_option maxHeartbeats 4000000
namespace Ev
open Pr
/-! ### demands of family B -/
def Dm.good (ns : List Tx) (m w : Nat) (d : Dm) : Prop := d.l.good ns m w ∧ d.r.good ns m w
def Dm.holds (ρ : Tx → Nat) (d : Dm) : Bool := match d.s with
  | .le => decide (d.l.val ρ ≤ d.r.val ρ)
  | .lt => decide (d.l.val ρ < d.r.val ρ)
  | .eq => decide (d.l.val ρ = d.r.val ρ)
section
variable {P : Pg} {D : Nat → Option Df} {W k : Nat} {h : Hp} {Q : Val → Hp → Prop} {b : Nat}
theorem mB_demand {it ip il i : Nat} (ht : D it = some LB.take) (hp : D ip = some (LB.pick it)) (hl : D il = some (LB.level it ip il)) (hD : D i = some (LB.demand ip il)) {nm : Nat} {ns : List Tx} {m : Nat} (hm : m ≤ 9999) {wd : Bool} (hd : Drw h b nm ns)
    (q : ∀ (d : Dm) h', d.good ns m 2 → d.l.dep ≤ 2 → d.r.dep ≤ 3 → Kp [b] h h' → Drw h' b nm ns → Q d.enc h') : wF (calls P D W (k + 6)) i [.ref b, .ref nm, .int (m : Int), .bl wd] h Q := by
  refine w_def hD rfl ?_
  wtm_at "ev"
  have hnl : nm < h.length := by obtain ⟨fr, e⟩ := hd.nms; exact get_lt e
  have hbl := hd.box.lt
  refine mB_pick ht hp (hd.box.keep ((Kp.refl [] h).push _) (by simp)) get_new (by omega) (by decide) (by decide) fun v h1 hv k1 hb1 => ?_
  have D1 : Drw h1 b nm ns := by
    obtain ⟨fr, e⟩ := hd.nms
    exact ⟨hb1, ⟨fr, k1.at_ _ _ (push_get e) (by simpa using hd.ne)⟩, hd.ne, hd.pos, hd.few⟩
  have K1 : Kp [b] h h1 := ((Kp.refl _ _).push _).trans k1
  have hsg : ∃ sg : Sg, v = .str sg.tx := by
    simp only [List.mem_cons, List.not_mem_nil, or_false] at hv
    rcases hv with rfl | rfl | rfl | rfl | rfl | rfl
    · exact ⟨.le, rfl⟩
    · exact ⟨.le, rfl⟩
    · exact ⟨.le, rfl⟩
    · exact ⟨.lt, rfl⟩
    · exact ⟨.lt, rfl⟩
    · exact ⟨.eq, rfl⟩
  obtain ⟨sg, rfl⟩ := hsg
  wtm_at "ev"
  refine mB_level ht hp hl hm 1 _ (by omega) D1 fun l1 h2 g1 d1 k2 D2 => ?_
  wtm_at "ev"
  refine mB_level ht hp hl hm 2 _ (by omega) D2 fun l2 h3 g2 d2 k3 D3 => ?_
  wtm_at "ev"
  exact q ⟨l1, sg, l2⟩ h3 ⟨g1, g2⟩ d1 d2 ((K1.trans k2).trans k3) D3
theorem mB_is_true {iw i : Nat} (hw : D iw = some (LB.worth iw)) (hD : D i = some (LB.is_true iw)) {ns : List Tx} {m a : Nat} {ρ : Tx → Nat} (d : Dm) (g : d.good ns m 2) {K : Nat} (h1 : d.l.dep ≤ K) (h2 : d.r.dep ≤ K) (hN : NumAt h a ns ρ) (q : Q (.bl (d.holds ρ)) h) : wF (calls P D W (K + 1)) i [d.enc, .ref a] h Q := by
  obtain ⟨l, sg, r⟩ := d
  refine w_def hD rfl ?_
  unfold Dm.enc
  have ele : decide ((l.val ρ : Int) ≤ (r.val ρ : Int)) = decide (l.val ρ ≤ r.val ρ) := by rw [Bool.eq_iff_iff, decide_eq_true_eq, decide_eq_true_eq]; omega
  have elt : decide ((l.val ρ : Int) < (r.val ρ : Int)) = decide (l.val ρ < r.val ρ) := by rw [Bool.eq_iff_iff, decide_eq_true_eq, decide_eq_true_eq]; omega
  have eeq : ((l.val ρ : Int) == (r.val ρ : Int)) = decide (l.val ρ = r.val ρ) := by rw [Bool.eq_iff_iff, beq_iff_eq, decide_eq_true_eq]; omega
  wtm_at "ev"
  refine mB_worth hw l K h1 g.1 hN ?_
  wtm_at "ev"
  refine mB_worth hw r K h2 g.2 hN ?_
  unfold Dm.holds at q
  cases sg with
  | le =>
    simp only [Sg.tx]
    wtm_at "ev"
    rw [ele]; exact q
  | lt =>
    simp only [Sg.tx]
    wtm_at "ev"
    rw [elt]; exact q
  | eq =>
    simp only [Sg.tx]
    wtm_at "ev"
    rw [eeq]; exact q
theorem Dm.text_said (d : Dm) : d.l.text ++ [32] ++ d.s.tx ++ [32] ++ d.r.text = d.text := by
  obtain ⟨l, s, r⟩ := d
  cases s <;> simp [Dm.text, Sg.tx, Sg.mark]
theorem mB_said {ix i : Nat} (hx : D ix = some (LB.text ix)) (hD : D i = some (LB.said ix)) {ns : List Tx} {m : Nat} (hn : ∀ s ∈ ns, isNameB s = true) (hm : m ≤ 9999) (d : Dm) (g : d.good ns m 2) {K : Nat} (h1 : d.l.dep ≤ K) (h2 : d.r.dep ≤ K) (hl : d.text.length ≤ LIM) (q : Q (.str d.text) h) : wF (calls P D W (K + 1)) i [d.enc] h Q := by
  rw [← Dm.text_said] at q hl
  obtain ⟨l, sg, r⟩ := d
  refine w_def hD rfl ?_
  unfold Dm.enc
  simp only [List.length_append, List.length_cons, List.length_nil] at hl
  have hsg : sg.tx.length ≤ 2 := by cases sg <;> decide
  wtm_at "ev"
  refine mB_text hx hn hm l K h1 g.1 (by omega) ?_
  wtm_at "ev"
  refine b_adds (by simp only [List.length_append, List.length_cons, List.length_nil]; omega) ?_
  wtm_at "ev"
  refine b_adds (by simp only [List.length_append, List.length_cons, List.length_nil]; omega) ?_
  wtm_at "ev"
  refine b_adds (by simp only [List.length_append, List.length_cons, List.length_nil]; omega) ?_
  wtm_at "ev"
  refine mB_text hx hn hm r K h2 g.2 (by omega) ?_
  wtm_at "ev"
  refine b_adds (by simp only [List.length_append, List.length_cons, List.length_nil]; omega) ?_
  wtm_at "ev"
  exact q
/-! ### denials -/
def Dm.denials (d : Dm) : List Dm := match d.s with
  | .le => [⟨d.r, .lt, d.l⟩]
  | .lt => [⟨d.r, .le, d.l⟩]
  | .eq => [⟨d.l, .lt, d.r⟩, ⟨d.r, .lt, d.l⟩]
structure HasN (P : Pg) (D : Nat → Option Df) : Prop extends HasD P D where
  written : D 22 = some d_written
  textOf : D 23 = some d_text_of
  denied : D 74 = some d_denied
  denials : D 83 = some d_denials
theorem m_denied (hD : D 74 = some d_denied) (d : Dm) (q : ∀ h', Kp [] h h' → Q (.ref h'.length) (h' ++ [.list false (d.denials.map Dm.enc)])) : wF (calls P D W (k + 1)) 74 [d.enc] h Q := by
  obtain ⟨l, sg, r⟩ := d
  refine w_def hD rfl ?_
  unfold Dm.enc
  cases sg with
  | le =>
    simp only [Sg.tx]
    wtm_at "ev"
    exact q h (.refl _ _)
  | lt =>
    simp only [Sg.tx]
    wtm_at "ev"
    exact q h (.refl _ _)
  | eq =>
    simp only [Sg.tx]
    wtm_at "ev"
    exact q h (.refl _ _)
theorem den_mem {d x : Dm} (h : x ∈ d.denials) : (x.l = d.l ∧ x.r = d.r) ∨ (x.l = d.r ∧ x.r = d.l) := by
  obtain ⟨l, sg, r⟩ := d
  cases sg with
  | le => simp only [Dm.denials, List.mem_singleton] at h; subst h; exact .inr ⟨rfl, rfl⟩
  | lt => simp only [Dm.denials, List.mem_singleton] at h; subst h; exact .inr ⟨rfl, rfl⟩
  | eq =>
    simp only [Dm.denials, List.mem_cons, List.not_mem_nil, or_false] at h
    rcases h with rfl | rfl
    · exact .inl ⟨rfl, rfl⟩
    · exact .inr ⟨rfl, rfl⟩
theorem den_len (d : Dm) : d.denials.length ≤ 2 := by
  obtain ⟨l, sg, r⟩ := d
  cases sg <;> simp [Dm.denials]
theorem m_denials (H : HasN P D) (d : Dm) (ok : d.ok) (h1 : d.l.dep ≤ k) (h2 : d.r.dep ≤ k) (hl : d.text.length + 8 ≤ LIM) (hW : d.text.length < W) (q : ∀ h', Kp [] h h' → Q (.tup (d.denials.map fun x => .str x.text)) h') : wF (calls P D W (k + 9)) 83 [.str d.text] h Q := by
  refine w_def H.denials rfl ?_
  wtm_at "ev"
  refine m_need_demand H.toHasD d ok hl hW fun h1' k1 => ?_
  wtm_at "ev"
  refine m_denied H.denied d fun h2' k2 => ?_
  have hh : (h2' ++ [Obj.list false (d.denials.map Dm.enc)])[h2'.length]? = some (.list false (d.denials.map Dm.enc)) := get_new
  have hlen : ∀ x ∈ d.denials, x.l.text.length + x.r.text.length + 8 ≤ LIM ∧ x.l.ok ∧ x.r.ok ∧ x.l.dep ≤ k ∧ x.r.dep ≤ k := fun x hx => by
    simp only [Dm.text, List.length_append] at hl
    have o1 := ok.1
    have o2 := ok.2
    rcases den_mem hx with ⟨e1, e2⟩ | ⟨e1, e2⟩ <;> rw [e1, e2] <;> exact ⟨by omega, by assumption, by assumption, by assumption, by assumption⟩
  wtm_at "ev"
  refine w_lcMap (d.denials.map Dm.enc) (d.denials.map fun x => .str x.text) [] (by simp) (by have := den_len d; rw [List.length_map]; exact Nat.le_trans this (by decide)) ?_ ?_ ?_
  · wtm_at "ev"
    exact ⟨rfl, by simp only [Sr.len, hh], .refl _ _, fun i h' k' => by simp only [Sr.at, k'.at_ _ _ hh (by simp)]⟩
  · intro i v u h3 hv hu k3
    rw [List.getElem?_map] at hv hu
    cases hx : d.denials[i]? with
    | none => rw [hx] at hv; cases hv
    | some x =>
      rw [hx] at hv hu
      cases hv; cases hu
      obtain ⟨b1, b2, b3, b4, b5⟩ := hlen x (List.mem_of_getElem? hx)
      refine ⟨_, rfl, ?_⟩
      wtm_at "ev"
      refine m_text_of H.written H.textOf x.l b2 (K := k + 7) (by omega) (by omega) fun h4 k4 => ?_
      refine ⟨_, part_str (by omega), ?_⟩
      refine ⟨by (simp only [decide_eq_true_eq, List.length_append, List.length_cons, List.length_nil, List.nil_append, List.length_map] at *; omega), ?_⟩
      wtm_at "ev"
      refine ⟨by (simp only [decide_eq_true_eq, List.length_append, List.length_cons, List.length_nil, List.nil_append, List.length_map] at *; omega), ?_⟩
      wtm_at "ev"
      have hsg : x.s.tx.length ≤ 2 := by cases x.s <;> decide
      refine ⟨_, part_str (Nat.le_trans hsg (by decide)), ?_⟩
      refine ⟨by (simp only [decide_eq_true_eq, List.length_append, List.length_cons, List.length_nil, List.nil_append, List.length_map] at *; omega), ?_⟩
      wtm_at "ev"
      refine ⟨by (simp only [decide_eq_true_eq, List.length_append, List.length_cons, List.length_nil, List.nil_append, List.length_map] at *; omega), ?_⟩
      wtm_at "ev"
      refine m_text_of H.written H.textOf x.r b3 (K := k + 7) (by omega) (by omega) fun h5 k5 => ?_
      refine ⟨_, part_str (by omega), ?_⟩
      refine ⟨by (simp only [decide_eq_true_eq, List.length_append, List.length_cons, List.length_nil, List.nil_append, List.length_map] at *; omega), ?_⟩
      wtm_at "ev"
      refine ⟨?_, k4.trans k5⟩
      rw [List.nil_append, Dm.text_said]
  · intro h3 k3
    wtm_at "ev"
    exact q _ (((k1.trans k2).push _).trans (k3.push _))
end
end Ev

set_option maxRecDepth 100000
set_option maxHeartbeats 4000000
namespace Ev
/-! ### data compared -/
mutual
theorem D.eqv_refl : ∀ d : D, D.eqv d d = true
  | .non => rfl
  | .bl b => by simp [D.eqv]
  | .int i => by simp [D.eqv]
  | .str s => by simp [D.eqv]
  | .list ds => by rw [D.eqv]; exact D.eqvs_refl ds
  | .tup ds => by rw [D.eqv]; exact D.eqvs_refl ds
theorem D.eqvs_refl : ∀ ds : List D, D.eqvs ds ds = true
  | [] => rfl
  | d :: ds => by rw [D.eqvs, D.eqv_refl d, D.eqvs_refl ds]; rfl
end
theorem datL_all {f : Val → Option D} : ∀ {vs : List Val}, (∀ v ∈ vs, ∃ d, f v = some d) → ∃ ds, datL f vs = some ds ∧ ds.length = vs.length
  | [], _ => ⟨[], rfl, rfl⟩
  | v :: vs, h => by
    obtain ⟨d, e⟩ := h v (by simp)
    obtain ⟨ds, e2, l⟩ := datL_all (vs := vs) fun x hx => h x (by simp [hx])
    exact ⟨d :: ds, by simp only [datL, e, e2], by simp [l]⟩
/-- pure data of some depth -/
def Dat (n : Nat) (v : Val) : Prop := ∀ (m : Nat) (h : Hp), n ≤ m → ∃ d, dat m h v = some d
theorem Dat.mono {n n' : Nat} {v : Val} (h : Dat n v) (l : n ≤ n') : Dat n' v := fun m hp hm => h m hp (by omega)
theorem Dat.str (s : Tx) : Dat 1 (.str s) := fun m h hm => by
  obtain ⟨m, rfl⟩ : ∃ j, m = j + 1 := ⟨m - 1, by omega⟩
  exact ⟨_, rfl⟩
theorem Dat.int (s : Int) : Dat 1 (.int s) := fun m h hm => by
  obtain ⟨m, rfl⟩ : ∃ j, m = j + 1 := ⟨m - 1, by omega⟩
  exact ⟨_, rfl⟩
theorem Dat.bl (s : Bool) : Dat 1 (.bl s) := fun m h hm => by
  obtain ⟨m, rfl⟩ : ∃ j, m = j + 1 := ⟨m - 1, by omega⟩
  exact ⟨_, rfl⟩
theorem Dat.non : Dat 1 .non := fun m h hm => by
  obtain ⟨m, rfl⟩ : ∃ j, m = j + 1 := ⟨m - 1, by omega⟩
  exact ⟨_, rfl⟩
theorem Dat.tup {n : Nat} {vs : List Val} (hv : ∀ v ∈ vs, Dat n v) : Dat (n + 1) (.tup vs) := fun m h hm => by
  obtain ⟨m, rfl⟩ : ∃ j, m = j + 1 := ⟨m - 1, by omega⟩
  obtain ⟨ds, e, _⟩ := datL_all (f := dat m h) (vs := vs) fun v hx => hv v hx m h (by omega)
  exact ⟨.tup ds, by simp only [dat, e, Option.map_some]⟩
mutual
theorem enc_dat : ∀ l : Lv, Dat (l.dep + 1) l.enc
  | .num n => Dat.tup fun v hv => by
    simp only [List.mem_cons, List.not_mem_nil, or_false] at hv
    rcases hv with rfl | rfl
    · exact (Dat.str _).mono (by simp [Lv.dep])
    · exact (Dat.int _).mono (by simp [Lv.dep])
  | .nam s => Dat.tup fun v hv => by
    simp only [List.mem_cons, List.not_mem_nil, or_false] at hv
    rcases hv with rfl | rfl
    · exact (Dat.str _).mono (by simp [Lv.dep])
    · exact (Dat.str _).mono (by simp [Lv.dep])
  | .plus l n => by
    rw [Lv.enc, Lv.dep]
    refine Dat.tup fun v hv => ?_
    simp only [List.mem_cons, List.not_mem_nil, or_false] at hv
    rcases hv with rfl | rfl | rfl
    · exact (Dat.str _).mono (by omega)
    · exact enc_dat l
    · exact (Dat.int _).mono (by omega)
  | .mx ls => by
    rw [Lv.enc, Lv.dep]
    refine Dat.tup fun v hv => ?_
    rcases List.mem_cons.mp hv with rfl | hv
    · exact (Dat.str _).mono (by omega)
    · exact encs_dat ls v hv
  | .im a b => by
    rw [Lv.enc, Lv.dep]
    refine Dat.tup fun v hv => ?_
    simp only [List.mem_cons, List.not_mem_nil, or_false] at hv
    rcases hv with rfl | rfl | rfl
    · exact (Dat.str _).mono (by omega)
    · exact (enc_dat a).mono (by omega)
    · exact (enc_dat b).mono (by omega)
theorem encs_dat : ∀ (ls : List Lv) (v : Val), v ∈ Lv.encs ls → Dat (Lv.deps ls + 1) v
  | [], v, hv => by cases hv
  | l :: ls, v, hv => by
    rw [Lv.encs] at hv
    rw [Lv.deps]
    rcases List.mem_cons.mp hv with rfl | hv
    · exact (enc_dat l).mono (by omega)
    · exact (encs_dat ls v hv).mono (by omega)
end
section
variable {h : Hp} {Q : Val → Hp → Prop}
/-- the same data -/
theorem eqTop_same {v : Val} (hd : Dat 64 v) (hr : ∀ a, v ≠ .ref a) : eqTop h v v = some true := by
  have e : eqTop h v v = eqv h v v := by
    cases v with
    | ref a => exact absurd rfl (hr a)
    | _ => rfl
  obtain ⟨d, e2⟩ := hd 64 h (Nat.le_refl _)
  rw [e, eqv, e2]
  simp only [D.eqv_refl]
theorem c_eqSame {v : Val} (hd : Dat 64 v) (hr : ∀ a, v ≠ .ref a) : cmpCall .eq v v h = some true := eqTop_same hd hr
theorem c_neSame {v : Val} (hd : Dat 64 v) (hr : ∀ a, v ≠ .ref a) : cmpCall .ne v v h = some false := by
  show (eqTop h v v).map (!·) = _
  rw [eqTop_same hd hr]; rfl
theorem dat_list {n a : Nat} {fr : Bool} {vs : List Val} (ha : h[a]? = some (.list fr vs)) : dat (n + 1) h (.ref a) = (datL (dat n h) vs).map .list := by simp only [dat, ha]
/-- a list against an empty one -/
theorem c_neNil {a b : Nat} {fr fr' : Bool} {vs : List Val} (ha : h[a]? = some (.list fr vs)) (hb : h[b]? = some (.list fr' [])) (hd : ∀ v ∈ vs, Dat 63 v) : cmpCall .ne (.ref a) (.ref b) h = some (!vs.isEmpty) := by
  have e : eqTop h (.ref a) (.ref b) = eqv h (.ref a) (.ref b) := by simp only [eqTop, ha, hb]
  obtain ⟨ds, e2, hl⟩ := datL_all (f := dat 63 h) (vs := vs) fun v hx => hd v hx 63 h (Nat.le_refl _)
  have e3 : dat 64 h (.ref a) = some (.list ds) := by rw [dat_list (n := 63) ha, e2]; rfl
  have e4 : dat 64 h (.ref b) = some (.list []) := by rw [dat_list (n := 63) hb]; rfl
  show (eqTop h (.ref a) (.ref b)).map (!·) = _
  rw [e, eqv, e3, e4]
  cases vs with
  | nil =>
    cases ds with
    | nil => rfl
    | cons _ _ => simp at hl
  | cons _ _ =>
    cases ds with
    | nil => simp at hl
    | cons _ _ => rfl
end
theorem strs_dat (ss : List Tx) : Dat 64 (.tup (ss.map Val.str)) := (Dat.tup (n := 1) fun v hv => by
  obtain ⟨s, _, rfl⟩ := List.mem_map.mp hv
  exact Dat.str s).mono (by decide)
theorem dm_dat {d : Dm} (h1 : d.l.dep ≤ 60) (h2 : d.r.dep ≤ 60) : Dat 63 d.enc := (Dat.tup (n := 61) fun v hv => by
  simp only [List.mem_cons, List.not_mem_nil, or_false] at hv
  rcases hv with rfl | rfl | rfl
  · exact (enc_dat d.l).mono (by omega)
  · exact (Dat.str _).mono (by omega)
  · exact (enc_dat d.r).mono (by omega)).mono (by decide)
end Ev

set_option maxRecDepth 100000
set_option maxHeartbeats 8000000
namespace Ev
open Pr
structure Has37 (P : Pg) (D : Nat → Option Df) : Prop extends HasN P D where
  box : D 200 = some LB.box
  take : D 201 = some LB.take
  pick : D 202 = some (LB.pick 201)
  lvl : D 204 = some (LB.level 201 202 204)
  txt : D 205 = some (LB.text 205)
  wor : D 206 = some (LB.worth 206)
  dem : D 207 = some (LB.demand 202 204)
  tru : D 208 = some (LB.is_true 206)
  sai : D 209 = some (LB.said 205)
  law : D 400 = some Ev.T.d_law
def ns37 : List Tx := [[117], [118, 118], [119]]
theorem ns37_ok : ∀ s ∈ ns37, isNameB s = true := by decide
theorem den_count (d : Dm) (ρ : Tx → Nat) : ((d.denials.filter fun x => x.holds ρ).length : Int) = if (!d.holds ρ) = true then 1 else 0 := by
  obtain ⟨l, sg, r⟩ := d
  cases sg with
  | le =>
    by_cases h : l.val ρ ≤ r.val ρ
    · have h2 : ¬ r.val ρ < l.val ρ := by omega
      simp [Dm.denials, Dm.holds, h, h2]
    · have h2 : r.val ρ < l.val ρ := by omega
      simp [Dm.denials, Dm.holds, h, h2]
  | lt =>
    by_cases h : l.val ρ < r.val ρ
    · have h2 : ¬ r.val ρ ≤ l.val ρ := by omega
      simp [Dm.denials, Dm.holds, h, h2]
    · have h2 : r.val ρ ≤ l.val ρ := by omega
      simp [Dm.denials, Dm.holds, h, h2]
  | eq =>
    by_cases h : l.val ρ = r.val ρ
    · have h2 : ¬ r.val ρ < l.val ρ := by omega
      have h3 : ¬ l.val ρ < r.val ρ := by omega
      simp [Dm.denials, Dm.holds, h, h2, h3]
    · by_cases h2 : l.val ρ < r.val ρ
      · have h3 : ¬ r.val ρ < l.val ρ := by omega
        simp [Dm.denials, Dm.holds, h, h2, h3]
      · have h3 : r.val ρ < l.val ρ := by omega
        simp [Dm.denials, Dm.holds, h, h2, h3]
/-- what holds within a turn -/
def S37 (ns : List Int) (b nm du : Nat) (d : Dm) (h : Hp) : Prop := Drw h b nm ns37 ∧ h[0]? = some (.list true (ns.map Val.int)) ∧ h[du]? = some (.list false (d.denials.map Dm.enc)) ∧ b ≠ 0 ∧ b ≠ du
theorem S37.keep {ns : List Int} {b nm du : Nat} {d : Dm} {h h' : Hp} (z : S37 ns b nm du d h) (k : Kp [b] h h') (B : BoxAt h' b) : S37 ns b nm du d h' :=
  ⟨z.1.keep k B, k.at_ _ _ z.2.1 (by simpa using z.2.2.2.1.symm), k.at_ _ _ z.2.2.1 (by simpa using z.2.2.2.2.symm), z.2.2.2⟩
theorem zip_snoc {α β : Type} : ∀ {l : List α} {m : List β} {x : α} {y : β}, l[m.length]? = some x → l.zip (m ++ [y]) = l.zip m ++ [(x, y)]
  | [], m, x, y, h => by simp at h
  | a :: l, [], x, y, h => by simp at h; subst h; simp
  | a :: l, c :: m, x, y, h => by
    have := zip_snoc (l := l) (m := m) (x := x) (y := y) (by simpa using h)
    simp [this]
section
variable {P : Pg} {D : Nat → Option Df}
def tl37 : Ss := match Ev.T.d_law.body with
  | .cons (.for_ _ _ (.cons _ (.cons _ (.cons (.for_ _ _ (.cons _ (.cons _ (.cons _ (.cons _ s))))) _)))) _ => s
  | _ => .nil
theorem tail37 (H : Has37 P D) {ns : List Int} {b nm du j : Nat} {dd : Dm} {h : Hp} {y1 x9 x10 x11 x12 x13 : Option Val} {R : Fl × St → Hp → Prop} {st : St} (Z : S37 ns b nm du dd h) (gd : dd.good ns37 4 2) (okd : dd.ok) (dl : dd.l.dep ≤ 2) (dr : dd.r.dep ≤ 3) (hdl : dd.text.length + 8 ≤ 50010)
    (hden : ∀ x ∈ dd.denials, x.good ns37 4 2 ∧ x.l.dep ≤ 3 ∧ x.r.dep ≤ 3 ∧ x.text.length ≤ LIM) (hst : st = [some (.ref 0), y1, some (.ref b), some (.ref nm), some (.int (j : Int)), some dd.l.enc, some (.str dd.s.tx), some dd.r.enc, some (.ref du), x9, x10, x11, x12, x13])
    (q : ∀ st' h', (Drw h' b nm ns37 ∧ h'[0]? = some (.list true (ns.map Val.int)) ∧ ∃ x4 x5 x6 x7 x8 x9 x10 x11 x12 x13, st' = [some (.ref 0), y1, some (.ref b), some (.ref nm), x4, x5, x6, x7, x8, x9, x10, x11, x12, x13]) → R (.next, st') h') : wevSs P (calls P D 100000 19) 100000 tl37 st h R := by
  subst hst
  have hL : (50020 : Nat) ≤ LIM := by decide
  refine w_scons ?_
  wtm_at "ev"
  refine mB_said H.txt H.sai ns37_ok (m := 4) (by decide) dd gd (K := 18) (by omega) (by omega) (by omega) ?_
  wtm_at "ev"
  refine m_denials H.toHasN dd okd (k := 10) (by omega) (by omega) (by omega) (by omega) fun h6 k6 => ?_
  have Z6 := Z.keep (k6.nil (ws := [b])) (Z.1.1.keep k6 (by simp))
  wtm_at "ev"
  obtain ⟨D6, S6, U6, nb0, nbd⟩ := Z6
  refine w_lcMap (dd.denials.map Dm.enc) (dd.denials.map fun x => .str x.text) [] (by simp) (by have := den_len dd; rw [List.length_map]; exact Nat.le_trans this (by decide)) ?_ ?_ ?_
  · wtm_at "ev"
    exact ⟨rfl, by simp only [Sr.len, U6], .refl _ _, fun i h' k' => by simp only [Sr.at, k'.at_ _ _ U6 (by simp)]⟩
  · intro i v u h7 hv hu k7
    rw [List.getElem?_map] at hv hu
    cases hx : dd.denials[i]? with
    | none => rw [hx] at hv; cases hv
    | some x =>
      rw [hx] at hv hu
      cases hv; cases hu
      obtain ⟨b1, b2, b3, b4⟩ := hden x (List.mem_of_getElem? hx)
      refine ⟨_, rfl, ?_⟩
      wtm_at "ev"
      exact mB_said H.txt H.sai ns37_ok (m := 4) (by decide) x b1 (K := 18) (by omega) (by omega) (by omega) ⟨rfl, .refl _ _⟩
  intro h7 k7
  wtm_at "ev"
  refine ⟨_, c_neSame ?_ (fun _ z => by cases z), ?_⟩
  · rw [show (dd.denials.map fun x => Val.str x.text) = (dd.denials.map Dm.text).map Val.str by simp]; exact strs_dat _
  have Z7 : S37 ns b nm du dd (h7 ++ [Obj.list false (dd.denials.map fun x => Val.str x.text)]) := (S37.keep ⟨D6, S6, U6, nb0, nbd⟩ ((k7.nil (ws := [b])).push _) (D6.1.keep (k7.push _) (by simp)))
  refine ⟨_, rfl, fun z => absurd z (by decide), fun _ => ?_⟩
  refine w_snil (q_next (w_scons ?_))
  refine w_forR 6 (by decide) (fun i st h => S37 ns b nm du dd h ∧ ∃ x9 x10 x11 x12 x13, st = [some (.ref 0), y1, some (.ref b), some (.ref nm), some (.int (j : Int)), some dd.l.enc, some (.str dd.s.tx), some dd.r.enc, some (.ref du), x9, x10, x11, x12, x13]) ?_ ?_ ?_
  · wtm_at "ev"
    exact ⟨rfl, Z7, _, _, _, _, _, rfl⟩
  · rintro i st h8 hi ⟨Z8, x9, x10, x11, x12, x13, rfl⟩
    refine ⟨_, rfl, ?_⟩
    wtm_at "ev"
    refine w_lcL (strVs ns37) (fun i acc h => S37 ns b nm du dd h ∧ ∃ ds : List Nat, ds.length = i ∧ acc = (ns37.zip ds).map fun p => Val.tup [.str p.1, .int (p.2 : Int)]) ?_ ?_ ?_
    · wtm_at "ev"
      exact ⟨⟨Z8, [], rfl, by simp⟩, fun i acc h ⟨z, _⟩ => z.1.nms⟩
    · rintro i v acc h9 hv ⟨Z9, ds, hds, rfl⟩
      have hi3 : i < 3 := by have := (List.getElem?_eq_some_iff.mp hv).1; simpa [strVs, ns37] using this
      rw [strVs, List.getElem?_map] at hv
      cases hx : ns37[i]? with
      | none => rw [hx] at hv; cases hv
      | some s =>
        rw [hx] at hv
        cases hv
        refine ⟨_, rfl, w_inil ⟨fun _ => ?_, fun z => absurd z (by decide)⟩⟩
        wtm_at "ev"
        refine mB_take H.take Z9.1.box (by decide) (by decide) fun d9 h10 hd9 k9 B9 => ?_
        wtm_at "ev"
        refine ⟨by rw [List.length_map, List.length_zip]; exact Nat.lt_of_le_of_lt (Nat.min_le_right _ _) (by rw [hds]; exact Nat.lt_of_lt_of_le hi3 (by decide)), Z9.keep k9 B9, ds ++ [d9], by simp [hds], ?_⟩
        rw [zip_snoc (by rw [hds]; exact hx), List.map_append]
        rfl
    · rintro acc h9 ⟨Z9, ds, hds, rfl⟩
      obtain ⟨d0, d1, d2, rfl⟩ : ∃ d0 d1 d2, ds = [d0, d1, d2] := by
        match ds, hds with
        | [d0, d1, d2], _ => exact ⟨d0, d1, d2, rfl⟩
      wtm_at "ev"
      refine l_dictL get_new (kvs := [(.str [117], .int (d0 : Int)), (.str [118, 118], .int (d1 : Int)), (.str [119], .int (d2 : Int))]) rfl ?_
      have N9 : NumAt (h9 ++ [Obj.list false ((ns37.zip [d0, d1, d2]).map fun p => Val.tup [.str p.1, .int (p.2 : Int)])] ++ [Obj.dict false (putAll [] [(.str [117], .int (d0 : Int)), (.str [118, 118], .int (d1 : Int)), (.str [119], .int (d2 : Int))])]) (h9 ++ [Obj.list false ((ns37.zip [d0, d1, d2]).map fun p => Val.tup [.str p.1, .int (p.2 : Int)])]).length ns37 (fun s => if s = [117] then d0 else if s = [118, 118] then d1 else d2) := by
        refine ⟨false, _, get_new, fun s hs => ?_⟩
        simp only [ns37, List.mem_cons, List.not_mem_nil, or_false] at hs
        rcases hs with rfl | rfl | rfl <;> rfl
      have Z10 : S37 ns b nm du dd (h9 ++ [Obj.list false ((ns37.zip [d0, d1, d2]).map fun p => Val.tup [.str p.1, .int (p.2 : Int)])] ++ [Obj.dict false (putAll [] [(.str [117], .int (d0 : Int)), (.str [118, 118], .int (d1 : Int)), (.str [119], .int (d2 : Int))])]) := Z9.keep (((Kp.refl _ _).push _).push _) (Z9.1.box.keep (ws := []) (((Kp.refl _ _).push _).push _) (by simp))
      generalize (h9 ++ [Obj.list false ((ns37.zip [d0, d1, d2]).map fun p => Val.tup [.str p.1, .int (p.2 : Int)])] ++ [Obj.dict false (putAll [] [(.str [117], .int (d0 : Int)), (.str [118, 118], .int (d1 : Int)), (.str [119], .int (d2 : Int))])]) = h10 at N9 Z10 ⊢
      generalize (h9 ++ [Obj.list false ((ns37.zip [d0, d1, d2]).map fun p => Val.tup [.str p.1, .int (p.2 : Int)])]).length = na at N9 ⊢
      generalize (fun s => if s = [117] then d0 else if s = [118, 118] then d1 else d2) = ρ at N9
      wtm_at "ev"
      refine w_lcL (dd.denials.map Dm.enc) (fun i acc h => h = h10 ∧ acc = ((dd.denials.take i).filter fun x => x.holds ρ).map fun _ => Val.int 1) ?_ ?_ ?_
      · wtm_at "ev"
        exact ⟨⟨rfl, by simp⟩, fun i acc h z => by rw [z.1]; exact ⟨_, Z10.2.2.1⟩⟩
      · rintro i v acc h11 hv ⟨rfl, rfl⟩
        rw [List.getElem?_map] at hv
        cases hx : dd.denials[i]? with
        | none => rw [hx] at hv; cases hv
        | some x =>
          rw [hx] at hv
          cases hv
          obtain ⟨b1, b2, b3, b4⟩ := hden x (List.mem_of_getElem? hx)
          have hlt : i < 2 := Nat.lt_of_lt_of_le (List.getElem?_eq_some_iff.mp hx).1 (den_len dd)
          refine ⟨_, rfl, ?_⟩
          wtm_at "ev"
          refine mB_is_true H.wor H.tru x b1 (K := 18) (by omega) (by omega) N9 ?_
          refine ⟨_, rfl, fun t => w_inil ⟨fun _ => w_con ⟨?_, rfl, ?_⟩, fun z => absurd z (by decide)⟩, fun t => ⟨fun z => absurd z (by decide), fun _ => ⟨rfl, ?_⟩⟩⟩
          · rw [List.length_map]
            exact Nat.lt_of_le_of_lt (Nat.le_trans (List.length_filter_le _ _) (by rw [List.length_take]; exact Nat.min_le_left _ _)) (Nat.lt_of_lt_of_le hlt (by decide))
          · rw [List.take_add_one, hx, Option.toList_some, List.filter_append, List.map_append]; simp [t]
          · rw [List.take_add_one, hx, Option.toList_some, List.filter_append, List.map_append]; simp [t]
      · rintro acc h11 ⟨rfl, rfl⟩
        rw [List.length_map, List.take_length]
        wtm_at "ev"
        refine mB_is_true H.wor H.tru dd gd (K := 18) (by omega) (by omega) (N9.keep ((Kp.refl [] _).push _) (by simp)) ?_
        wtm_at "ev"
        · rw [List.length_map, den_count dd ρ] at t
          simp at t
        · exact ⟨Z10.keep ((Kp.refl _ _).push _) (Z10.1.box.keep (ws := []) ((Kp.refl _ _).push _) (by simp)), _, _, _, _, _, rfl⟩
  · rintro st h8 ⟨Z8, x9, x10, x11, x12, x13, rfl⟩
    wtm_at "ev"
    exact q _ _ ⟨Z8.1, Z8.2.1, _, _, _, _, _, _, _, _, _, _, rfl⟩
theorem law37 (H : Has37 P D) (ns : List Int) : wF (calls P D 100000 20) 400 [.ref 0] [.list true (ns.map Val.int)] fun v _ => v = .bl true := by
  refine w_def H.law rfl ?_
  refine w_scons ?_
  have hs0 : ([Obj.list true (ns.map Val.int)] : Hp)[0]? = some (.list true (ns.map Val.int)) := rfl
  generalize ([Obj.list true (ns.map Val.int)] : Hp) = h0 at hs0 ⊢
  obtain ⟨n, hn4, hn⟩ := count_ex 4 (ns.map Val.int).length
  refine w_forR n (by omega) (fun i st h => h[0]? = some (.list true (ns.map Val.int)) ∧ ∃ x1 x2 x3 x4 x5 x6 x7 x8 x9 x10 x11 x12 x13, st = [some (.ref 0), x1, x2, x3, x4, x5, x6, x7, x8, x9, x10, x11, x12, x13]) ?_ ?_ ?_
  · wtm_at "ev"
    exact ⟨congrArg Val.int hn, hs0, _, _, _, _, _, _, _, _, _, _, _, _, _, rfl⟩
  · rintro i st h hi ⟨hs, x1, x2, x3, x4, x5, x6, x7, x8, x9, x10, x11, x12, x13, rfl⟩
    refine ⟨_, rfl, ?_⟩
    wtm_at "ev"
    refine mB_box H.box hs i fun b h1 hb1 k1 B1 => ?_
    wtm_at "ev"
    have hb0 : b ≠ 0 := by have := get_lt hs; omega
    have hbl := B1.lt
    have hs1 := k1.at_ _ _ hs (by simp)
    have D2 : Drw (h1 ++ [Obj.list false [.str [117], .str [118, 118], .str [119]]]) b h1.length ns37 := ⟨B1.keep (ws := []) ((Kp.refl _ _).push _) (by simp), ⟨false, get_new⟩, by omega, by decide, by decide⟩
    have hs2 : (h1 ++ [Obj.list false [.str [117], .str [118, 118], .str [119]]])[0]? = some (.list true (ns.map Val.int)) := push_get hs1
    generalize (h1 ++ [Obj.list false [.str [117], .str [118, 118], .str [119]]]) = h2 at D2 hs2 ⊢
    generalize h1.length = nm at D2 ⊢
    generalize some (Val.int (i : Int)) = y1
    clear hn hn4 hi hs hs0 hb1 k1 B1 hbl hs1
    refine w_forR 6 (by decide) (fun j st h => Drw h b nm ns37 ∧ h[0]? = some (.list true (ns.map Val.int)) ∧ ∃ x4 x5 x6 x7 x8 x9 x10 x11 x12 x13, st = [some (.ref 0), y1, some (.ref b), some (.ref nm), x4, x5, x6, x7, x8, x9, x10, x11, x12, x13]) ?_ ?_ ?_
    · wtm_at "ev"
      exact ⟨rfl, D2, hs2, _, _, _, _, _, _, _, _, _, _, rfl⟩
    · rintro j st h3 hj ⟨D3, hs3, x4, x5, x6, x7, x8, x9, x10, x11, x12, x13, rfl⟩
      refine ⟨_, rfl, ?_⟩
      wtm_at "ev"
      refine mB_demand H.take H.pick H.lvl H.dem (m := 4) (by decide) D3 fun d h4 gd0 dl dr k4 D4 => ?_
      have hs4 := k4.at_ _ _ hs3 (by simpa using hb0.symm)
      unfold Dm.enc
      wtm_at "ev"
      have ej : (j : Int) % 3 = ((j % 3 : Nat) : Int) := (Int.natCast_emod j 3).symm
      rw [ej]
      have hsg : ∃ sg : Sg, ([.str [60, 61], .str [60], .str [61]] : List Val)[j % 3]? = some (.str sg.tx) := by
        have : j % 3 = 0 ∨ j % 3 = 1 ∨ j % 3 = 2 := by omega
        rcases this with e | e | e <;> rw [e]
        · exact ⟨.le, rfl⟩
        · exact ⟨.lt, rfl⟩
        · exact ⟨.eq, rfl⟩
      obtain ⟨sg, hsg⟩ := hsg
      refine s_ln get_new hsg ?_
      obtain ⟨dd, hdd⟩ : ∃ dd : Dm, dd = ⟨d.l, sg, d.r⟩ := ⟨_, rfl⟩
      have e1 : d.l = dd.l := by rw [hdd]
      have e2 : d.r = dd.r := by rw [hdd]
      have e3 : sg = dd.s := by rw [hdd]
      rw [e1] at dl
      rw [e2] at dr
      have gd : dd.good ns37 4 2 := by rw [hdd]; exact gd0
      rw [e1, e2, e3]
      clear hsg ej hdd e1 e2 e3 gd0
      have okd : dd.ok := ⟨Lv.good_ok ns37_ok (by decide) gd.1, Lv.good_ok ns37_ok (by decide) gd.2⟩
      have hlen : dd.l.text.length + dd.r.text.length + 8 ≤ 50000 := by
        have h1 := text_len (by decide) ns37_ok (by decide) gd.1
        have h2 := text_len (by decide) ns37_ok (by decide) gd.2
        have h3 := tl_mono 2 _ _ dl
        have h4 := tl_mono 2 _ _ dr
        have h5 : tl 2 2 + tl 2 3 ≤ 1000 := by decide
        omega
      have hmark : ∀ s : Sg, s.mark.length ≤ 4 := fun s => by cases s <;> decide
      have hL : (50020 : Nat) ≤ LIM := by decide
      have hdl : dd.text.length + 8 ≤ 50010 := by
        have := hmark dd.s
        simp only [Dm.text, List.length_append]; omega
      have hden : ∀ x ∈ dd.denials, x.good ns37 4 2 ∧ x.l.dep ≤ 3 ∧ x.r.dep ≤ 3 ∧ x.text.length ≤ LIM := fun x hx => by
        have := hmark x.s
        rcases den_mem hx with ⟨e1, e2⟩ | ⟨e1, e2⟩
        · exact ⟨⟨by rw [e1]; exact gd.1, by rw [e2]; exact gd.2⟩, by rw [e1]; omega, by rw [e2]; omega, by simp only [Dm.text, List.length_append, e1, e2]; omega⟩
        · exact ⟨⟨by rw [e1]; exact gd.2, by rw [e2]; exact gd.1⟩, by rw [e1]; omega, by rw [e2]; omega, by simp only [Dm.text, List.length_append, e1, e2]; omega⟩
      have hdt : ∀ x ∈ dd.denials.map Dm.enc, Dat 63 x := fun x hx => by
        obtain ⟨y, hy, rfl⟩ := List.mem_map.mp hx
        obtain ⟨_, b2, b3, _⟩ := hden y hy
        exact dm_dat (by omega) (by omega)
      have D5 : Drw (h4 ++ [Obj.list false [.str [60, 61], .str [60], .str [61]]]) b nm ns37 := D4.keep ((Kp.refl _ _).push _) (D4.box.keep (ws := []) ((Kp.refl _ _).push _) (by simp))
      have hs5 : (h4 ++ [Obj.list false [.str [60, 61], .str [60], .str [61]]])[0]? = some (.list true (ns.map Val.int)) := push_get hs4
      generalize (h4 ++ [Obj.list false [.str [60, 61], .str [60], .str [61]]]) = h5 at D5 hs5 ⊢
      have hb5 := D5.box.lt
      cases hsg : dd.s with
      | le =>
        simp only [Sg.tx]
        wtm_at "ev"
        refine ⟨_, c_neNil (push_get get_new) get_new ?_, ?_⟩
        · have hq := hdt
          simp only [Dm.denials, hsg, List.map_cons, List.map_nil] at hq
          exact hq
        refine ⟨_, rfl, fun _ => ?_, fun z => Bool.noConfusion z⟩
        refine w_var rfl (w_tpat rfl (q_next ?_))
        refine tail37 (du := h5.length) (j := j) (dd := dd) H ⟨D5.keep (((Kp.refl _ _).push _).push _) (D5.box.keep (ws := []) (((Kp.refl _ _).push _).push _) (by simp)), push_get (push_get hs5), ?_, hb0, by omega⟩ gd okd dl dr hdl hden (by rw [hsg]; rfl) fun st' h' z => ?_
        · simp only [Dm.denials, hsg, List.map_cons, List.map_nil]; exact push_get get_new
        · wtm_at "ev"
          exact z
      | lt =>
        simp only [Sg.tx]
        wtm_at "ev"
        refine ⟨_, c_neNil (push_get get_new) get_new ?_, ?_⟩
        · have hq := hdt
          simp only [Dm.denials, hsg, List.map_cons, List.map_nil] at hq
          exact hq
        refine ⟨_, rfl, fun _ => ?_, fun z => Bool.noConfusion z⟩
        refine w_var rfl (w_tpat rfl (q_next ?_))
        refine tail37 (du := h5.length) (j := j) (dd := dd) H ⟨D5.keep (((Kp.refl _ _).push _).push _) (D5.box.keep (ws := []) (((Kp.refl _ _).push _).push _) (by simp)), push_get (push_get hs5), ?_, hb0, by omega⟩ gd okd dl dr hdl hden (by rw [hsg]; rfl) fun st' h' z => ?_
        · simp only [Dm.denials, hsg, List.map_cons, List.map_nil]; exact push_get get_new
        · wtm_at "ev"
          exact z
      | eq =>
        simp only [Sg.tx]
        wtm_at "ev"
        refine ⟨_, c_neNil (push_get get_new) get_new (by simp), ?_⟩
        refine ⟨_, rfl, fun z => Bool.noConfusion z, fun _ => ?_⟩
        wtm_at "ee"
        refine q_next ?_
        refine tail37 (du := (h5 ++ [Obj.list false []] ++ [Obj.list false []]).length) (j := j) (dd := dd) H ⟨D5.keep ((((Kp.refl _ _).push _).push _).push _) (D5.box.keep (ws := []) ((((Kp.refl _ _).push _).push _).push _) (by simp)), push_get (push_get (push_get hs5)), ?_, hb0, by simp; omega⟩ gd okd dl dr hdl hden (by rw [hsg]; rfl) fun st' h' z => ?_
        · simp only [Dm.denials, hsg, List.map_cons, List.map_nil]; exact get_new
        · wtm_at "ev"
          exact z
    · rintro st h3 ⟨D3, hs3, x4, x5, x6, x7, x8, x9, x10, x11, x12, x13, rfl⟩
      wtm_at "ev"
      exact ⟨hs3, _, _, _, _, _, _, _, _, _, _, _, _, _, rfl⟩
  · rintro st h ⟨hs, x1, x2, x3, x4, x5, x6, x7, x8, x9, x10, x11, x12, x13, rfl⟩
    wtm_at "ev"
    have t2 : decTx (2 : Int) = [50] := decTx_lt (n := 2) (by decide)
    have t1 : decTx (1 : Int) = [49] := decTx_lt (n := 1) (by decide)
    have t0 : decTx (0 : Int) = [48] := decTx_lt (n := 0) (by decide)
    have nu : isNameB [117] = true := by decide
    have nv : isNameB [118] = true := by decide
    obtain ⟨d1, hd1⟩ : ∃ d1 : Dm, d1 = ⟨.nam [117], .le, .mx [.nam [118], .num 2]⟩ := ⟨_, rfl⟩
    obtain ⟨d2, hd2⟩ : ∃ d2 : Dm, d2 = ⟨.num 0, .lt, .plus (.nam [117]) 1⟩ := ⟨_, rfl⟩
    have e1 : [117, 32, 60, 61, 32, 109, 97, 120, 40, 118, 44, 32, 50, 41] = d1.text := by
      rw [hd1]; simp [Dm.text, Lv.text, Lv.texts, joinTx, Sg.mark, t2]
    have e2 : [48, 32, 60, 32, 117, 32, 43, 32, 49] = d2.text := by
      rw [hd2]; simp [Dm.text, Lv.text, Lv.texts, joinTx, Sg.mark, t0, t1]
    have o1 : d1.ok := by rw [hd1]; exact ⟨nu, by decide, nv, by simp [Lv.ok], trivial⟩
    have o2 : d2.ok := by rw [hd2]; exact ⟨by simp [Lv.ok], nu, by decide⟩
    have l1 : d1.text.length = 14 := by rw [← e1]; rfl
    have l2 : d2.text.length = 9 := by rw [← e2]; rfl
    have f1 : (d1.denials.map fun x => Val.str x.text) = [.str [109, 97, 120, 40, 118, 44, 32, 50, 41, 32, 60, 32, 117]] := by
      rw [hd1]; simp [Dm.denials, Dm.text, Lv.text, Lv.texts, joinTx, Sg.mark, t2]
    have f2 : (d2.denials.map fun x => Val.str x.text) = [.str [117, 32, 43, 32, 49, 32, 60, 61, 32, 48]] := by
      rw [hd2]; simp [Dm.denials, Dm.text, Lv.text, Lv.texts, joinTx, Sg.mark, t0, t1]
    have hL : (100 : Nat) ≤ LIM := by decide
    have dp1 : d1.l.dep ≤ 10 ∧ d1.r.dep ≤ 10 := by rw [hd1]; decide
    have dp2 : d2.l.dep ≤ 10 ∧ d2.r.dep ≤ 10 := by rw [hd2]; decide
    rw [e1]
    refine m_denials H.toHasN d1 o1 (k := 10) dp1.1 dp1.2 (by omega) (by omega) fun h6 k6 => ?_
    rw [f1]
    wtm_at "ev"
    rw [e2]
    refine m_denials H.toHasN d2 o2 (k := 10) dp2.1 dp2.2 (by omega) (by omega) fun h7 k7 => ?_
    rw [f2]
    wtm_at "ev"
    rfl
end
end Ev

set_option Elab.async false
set_option maxRecDepth 100000
set_option maxHeartbeats 0
namespace Lw
open PySem PySem.Spec PyProof.Rows L2 Sd
def top (i : Nat) : Stmt := PySem.Challenge.pw_everylevel_k37_denials_of_demands.main.body.getD i (.Pass ⟨0, 0, 0, 0⟩)
def inner (i j : Nat) : Stmt := (match top i with | .ClassDef (body := b) .. => b | _ => []).getD j (.Pass ⟨0, 0, 0, 0⟩)
def e_is_name : En := ⟨3, .glo "is_name", "is_name", "is_name", top 8, 1, ["value", "sign"], Ev.T.d_is_name.body, []⟩
theorem b_is_name : BindOk e_is_name := ⟨rfl, fun _ _ _ _ _ _ us hl => match us, hl with | [_], _ => by kernel_rfl⟩
def e_number_in : En := ⟨5, .glo "number_in", "number_in", "number_in", top 9, 2, ["word", "most", "sign"], Ev.T.d_number_in.body, []⟩
theorem b_number_in : BindOk e_number_in := ⟨rfl, fun _ _ _ _ _ _ us hl => match us, hl with | [_, _], _ => by kernel_rfl⟩
def e_word_at : En := ⟨7, .glo "word_at", "word_at", "word_at", top 13, 2, ["text", "at", "end"], Ev.T.d_word_at.body, []⟩
theorem b_word_at : BindOk e_word_at := ⟨rfl, fun _ _ _ _ _ _ us hl => match us, hl with | [_, _], _ => by kernel_rfl⟩
def e_single : En := ⟨8, .glo "single", "single", "single", top 14, 1, ["word", "number"], Ev.T.d_single.body, []⟩
theorem b_single : BindOk e_single := ⟨rfl, fun _ _ _ _ _ _ us hl => match us, hl with | [_], _ => by kernel_rfl⟩
def e_opening_at : En := ⟨9, .glo "opening_at", "opening_at", "opening_at", top 15, 2, ["text", "at", "sign", "kind"], Ev.T.d_opening_at.body, []⟩
theorem b_opening_at : BindOk e_opening_at := ⟨rfl, fun _ _ _ _ _ _ us hl => match us, hl with | [_, _], _ => by kernel_rfl⟩
def e_is_closed : En := ⟨10, .glo "is_closed", "is_closed", "is_closed", top 16, 2, ["kind", "parts"], Ev.T.d_is_closed.body, []⟩
theorem b_is_closed : BindOk e_is_closed := ⟨rfl, fun _ _ _ _ _ _ us hl => match us, hl with | [_, _], _ => by kernel_rfl⟩
def e_Reader___init__ : En := ⟨11, .meth "Reader" "__init__", "__init__", "Reader.__init__", inner 17 0, 2, ["self", "text"], Ev.T.d_Reader___init__.body, []⟩
theorem b_Reader___init__ : BindOk e_Reader___init__ := ⟨rfl, fun _ _ _ _ _ _ us hl => match us, hl with | [_, _], _ => by kernel_rfl⟩
def e_Reader_read_part : En := ⟨12, .meth "Reader" "read_part", "read_part", "Reader.read_part", inner 17 1, 1, ["self", "opening", "word", "found"], Ev.T.d_Reader_read_part.body, []⟩
theorem b_Reader_read_part : BindOk e_Reader_read_part := ⟨rfl, fun _ _ _ _ _ _ us hl => match us, hl with | [_], _ => by kernel_rfl⟩
def e_Reader_read_more : En := ⟨13, .meth "Reader" "read_more", "read_more", "Reader.read_more", inner 17 2, 1, ["self", "word", "number", "kind", "parts"], Ev.T.d_Reader_read_more.body, []⟩
theorem b_Reader_read_more : BindOk e_Reader_read_more := ⟨rfl, fun _ _ _ _ _ _ us hl => match us, hl with | [_], _ => by kernel_rfl⟩
def e_Reader_level : En := ⟨14, .meth "Reader" "level", "level", "Reader.level", inner 17 3, 1, ["self"], Ev.T.d_Reader_level.body, []⟩
theorem b_Reader_level : BindOk e_Reader_level := ⟨rfl, fun _ _ _ _ _ _ us hl => match us, hl with | [_], _ => by kernel_rfl⟩
def e_read_level : En := ⟨15, .glo "read_level", "read_level", "read_level", top 18, 1, ["text"], Ev.T.d_read_level.body, []⟩
theorem b_read_level : BindOk e_read_level := ⟨rfl, fun _ _ _ _ _ _ us hl => match us, hl with | [_], _ => by kernel_rfl⟩
def e_demand_in : En := ⟨17, .glo "demand_in", "demand_in", "demand_in", top 19, 1, ["text", "sign", "left", "middle", "right", "one", "other"], Ev.T.d_demand_in.body, []⟩
theorem b_demand_in : BindOk e_demand_in := ⟨rfl, fun _ _ _ _ _ _ us hl => match us, hl with | [_], _ => by kernel_rfl⟩
def e_need_demand : En := ⟨18, .glo "need_demand", "need_demand", "need_demand", top 20, 1, ["text", "found"], Ev.T.d_need_demand.body, []⟩
theorem b_need_demand : BindOk e_need_demand := ⟨rfl, fun _ _ _ _ _ _ us hl => match us, hl with | [_], _ => by kernel_rfl⟩
def e_written : En := ⟨22, .glo "written", "written", "written", top 21, 2, ["level", "others", "part"], Ev.T.d_written.body, []⟩
theorem b_written : BindOk e_written := ⟨rfl, fun _ _ _ _ _ _ us hl => match us, hl with | [_, _], _ => by kernel_rfl⟩
def e_text_of : En := ⟨23, .glo "text_of", "text_of", "text_of", top 22, 1, ["level"], Ev.T.d_text_of.body, []⟩
theorem b_text_of : BindOk e_text_of := ⟨rfl, fun _ _ _ _ _ _ us hl => match us, hl with | [_], _ => by kernel_rfl⟩
def e_denied : En := ⟨74, .glo "denied", "denied", "denied", top 24, 1, ["told", "left", "sign", "right"], Ev.T.d_denied.body, []⟩
theorem b_denied : BindOk e_denied := ⟨rfl, fun _ _ _ _ _ _ us hl => match us, hl with | [_], _ => by kernel_rfl⟩
def e_denials : En := ⟨83, .glo "denials", "denials", "denials", top 25, 1, ["demand", "found", "left", "sign", "right"], Ev.T.d_denials.body, []⟩
theorem b_denials : BindOk e_denials := ⟨rfl, fun _ _ _ _ _ _ us hl => match us, hl with | [_], _ => by kernel_rfl⟩
def e__law_box : En := ⟨200, .glo "_law_box", "_law_box", "_law_box", top 27, 2, ["_law_script", "_law_k", "_law_cell", "_law_seed"], Ev.T.d__law_box.body, []⟩
theorem b__law_box : BindOk e__law_box := ⟨rfl, fun _ _ _ _ _ _ us hl => match us, hl with | [_, _], _ => by kernel_rfl⟩
def e__law_take : En := ⟨201, .glo "_law_take", "_law_take", "_law_take", top 28, 2, ["_law_box_here", "_law_many", "_law_digit", "_law_one"], Ev.T.d__law_take.body, []⟩
theorem b__law_take : BindOk e__law_take := ⟨rfl, fun _ _ _ _ _ _ us hl => match us, hl with | [_, _], _ => by kernel_rfl⟩
def e__law_pick : En := ⟨202, .glo "_law_pick", "_law_pick", "_law_pick", top 29, 2, ["_law_box_here", "_law_some"], Ev.T.d__law_pick.body, []⟩
theorem b__law_pick : BindOk e__law_pick := ⟨rfl, fun _ _ _ _ _ _ us hl => match us, hl with | [_, _], _ => by kernel_rfl⟩
def e__law_level : En := ⟨204, .glo "_law_level", "_law_level", "_law_level", top 31, 5, ["_law_box_here", "_law_names", "_law_deep", "_law_most", "_law_wild", "_law_form", "_law_one", "_law_other"], Ev.T.d__law_level.body, []⟩
theorem b__law_level : BindOk e__law_level := ⟨rfl, fun _ _ _ _ _ _ us hl => match us, hl with | [_, _, _, _, _], _ => by kernel_rfl⟩
def e__law_text : En := ⟨205, .glo "_law_text", "_law_text", "_law_text", top 32, 1, ["_law_level_here"], Ev.T.d__law_text.body, []⟩
theorem b__law_text : BindOk e__law_text := ⟨rfl, fun _ _ _ _ _ _ us hl => match us, hl with | [_], _ => by kernel_rfl⟩
def e__law_worth : En := ⟨206, .glo "_law_worth", "_law_worth", "_law_worth", top 33, 2, ["_law_level_here", "_law_numbers", "_law_one", "_law_other"], Ev.T.d__law_worth.body, []⟩
theorem b__law_worth : BindOk e__law_worth := ⟨rfl, fun _ _ _ _ _ _ us hl => match us, hl with | [_, _], _ => by kernel_rfl⟩
def e__law_demand : En := ⟨207, .glo "_law_demand", "_law_demand", "_law_demand", top 34, 4, ["_law_box_here", "_law_names", "_law_most", "_law_wild", "_law_sign"], Ev.T.d__law_demand.body, []⟩
theorem b__law_demand : BindOk e__law_demand := ⟨rfl, fun _ _ _ _ _ _ us hl => match us, hl with | [_, _, _, _], _ => by kernel_rfl⟩
def e__law_is_true : En := ⟨208, .glo "_law_is_true", "_law_is_true", "_law_is_true", top 35, 2, ["_law_demand_here", "_law_numbers", "_law_one", "_law_other"], Ev.T.d__law_is_true.body, []⟩
theorem b__law_is_true : BindOk e__law_is_true := ⟨rfl, fun _ _ _ _ _ _ us hl => match us, hl with | [_, _], _ => by kernel_rfl⟩
def e__law_said : En := ⟨209, .glo "_law_said", "_law_said", "_law_said", top 36, 1, ["_law_demand_here"], Ev.T.d__law_said.body, []⟩
theorem b__law_said : BindOk e__law_said := ⟨rfl, fun _ _ _ _ _ _ us hl => match us, hl with | [_], _ => by kernel_rfl⟩
def e_law : En := ⟨400, .glo "law", "law", "law", top 41, 1, ["_law_script", "_law_k", "_law_box_here", "_law_names", "_law_turn", "_law_one", "_law_sign", "_law_other", "_law_due", "_law_demand_here", "_law_more", "_law_numbers", "_law_name", "_law_many"], Ev.T.d_law.body, []⟩
theorem b_law : BindOk e_law := ⟨rfl, fun _ _ _ _ _ _ us hl => match us, hl with | [_], _ => by kernel_rfl⟩
def tb : Tb := ⟨([(3, "is_name"), (5, "number_in"), (7, "word_at"), (8, "single"), (9, "opening_at"), (10, "is_closed"), (15, "read_level"), (17, "demand_in"), (18, "need_demand"), (22, "written"), (23, "text_of"), (74, "denied"), (83, "denials"), (200, "_law_box"), (201, "_law_take"), (202, "_law_pick"), (204, "_law_level"), (205, "_law_text"), (206, "_law_worth"), (207, "_law_demand")] : List (Nat × Str)) ++ ([(208, "_law_is_true"), (209, "_law_said"), (400, "law")] : List (Nat × Str)),
 [some "Reader", none, none, none, none, none],
 [some "DIGITS", some "SMALL", some "BARRED", some "MOST_DIGITS", some "SIGNS", some "OPENINGS", none, none, none],
 (["text", "at", "begun", "is_wrong", "names", "demands", "told", "kept", "live", "definitions", "faces", "name", "params", "inner", "calls", "word", "read_part", "read_more", "level", "is_plain", "reach", "with_demand", "but", "broken", "keeps", "read", "__len__", "__eq__", "__str__", "__iter__"] : List Str) ++ (["__init__", "book", "demand", "least_clash", "drop", "undo", "within", "parts", "made_face", "face", "lets", "fits", "stuck", "say", "done"] : List Str), Ev.T.pg, ([e_is_name, e_number_in, e_word_at, e_single, e_opening_at, e_is_closed, e_Reader___init__, e_Reader_read_part, e_Reader_read_more, e_Reader_level, e_read_level, e_demand_in, e_need_demand, e_written, e_text_of, e_denied, e_denials, e__law_box, e__law_take, e__law_pick] : List (En)) ++ ([e__law_level, e__law_text, e__law_worth, e__law_demand, e__law_is_true, e__law_said, e_law] : List (En))⟩
theorem bind_all : ∀ e ∈ tb.ens, BindOk e := by
  intro e he
  simp only [tb, List.mem_append, List.mem_cons, List.not_mem_nil, or_false, or_assoc] at he
  rcases he with rfl | rfl | rfl | rfl | rfl | rfl | rfl | rfl | rfl | rfl | rfl | rfl | rfl | rfl | rfl | rfl | rfl | rfl | rfl | rfl | rfl | rfl | rfl | rfl | rfl | rfl | rfl
  · exact b_is_name
  · exact b_number_in
  · exact b_word_at
  · exact b_single
  · exact b_opening_at
  · exact b_is_closed
  · exact b_Reader___init__
  · exact b_Reader_read_part
  · exact b_Reader_read_more
  · exact b_Reader_level
  · exact b_read_level
  · exact b_demand_in
  · exact b_need_demand
  · exact b_written
  · exact b_text_of
  · exact b_denied
  · exact b_denials
  · exact b__law_box
  · exact b__law_take
  · exact b__law_pick
  · exact b__law_level
  · exact b__law_text
  · exact b__law_worth
  · exact b__law_demand
  · exact b__law_is_true
  · exact b__law_said
  · exact b_law
theorem c_is_name : enB tb.gm e_is_name = true := by decide +kernel
theorem c_number_in : enB tb.gm e_number_in = true := by decide +kernel
theorem c_word_at : enB tb.gm e_word_at = true := by decide +kernel
theorem c_single : enB tb.gm e_single = true := by decide +kernel
theorem c_opening_at : enB tb.gm e_opening_at = true := by decide +kernel
theorem c_is_closed : enB tb.gm e_is_closed = true := by decide +kernel
theorem c_Reader___init__ : enB tb.gm e_Reader___init__ = true := by decide +kernel
theorem c_Reader_read_part : enB tb.gm e_Reader_read_part = true := by decide +kernel
theorem c_Reader_read_more : enB tb.gm e_Reader_read_more = true := by decide +kernel
theorem c_Reader_level : enB tb.gm e_Reader_level = true := by decide +kernel
theorem c_read_level : enB tb.gm e_read_level = true := by decide +kernel
theorem c_demand_in : enB tb.gm e_demand_in = true := by decide +kernel
theorem c_need_demand : enB tb.gm e_need_demand = true := by decide +kernel
theorem c_written : enB tb.gm e_written = true := by decide +kernel
theorem c_text_of : enB tb.gm e_text_of = true := by decide +kernel
theorem c_denied : enB tb.gm e_denied = true := by decide +kernel
theorem c_denials : enB tb.gm e_denials = true := by decide +kernel
theorem c__law_box : enB tb.gm e__law_box = true := by decide +kernel
theorem c__law_take : enB tb.gm e__law_take = true := by decide +kernel
theorem c__law_pick : enB tb.gm e__law_pick = true := by decide +kernel
theorem c__law_level : enB tb.gm e__law_level = true := by decide +kernel
theorem c__law_text : enB tb.gm e__law_text = true := by decide +kernel
theorem c__law_worth : enB tb.gm e__law_worth = true := by decide +kernel
theorem c__law_demand : enB tb.gm e__law_demand = true := by decide +kernel
theorem c__law_is_true : enB tb.gm e__law_is_true = true := by decide +kernel
theorem c__law_said : enB tb.gm e__law_said = true := by decide +kernel
theorem c_law : enB tb.gm e_law = true := by decide +kernel
theorem tb_ok : tbB tb = true := by
  have h4 : tb.ens.all (enB tb.gm) = true := by
    show (([e_is_name, e_number_in, e_word_at, e_single, e_opening_at, e_is_closed, e_Reader___init__, e_Reader_read_part, e_Reader_read_more, e_Reader_level, e_read_level, e_demand_in, e_need_demand, e_written, e_text_of, e_denied, e_denials, e__law_box, e__law_take, e__law_pick] : List (En)) ++ ([e__law_level, e__law_text, e__law_worth, e__law_demand, e__law_is_true, e__law_said, e_law] : List (En))).all (enB tb.gm) = true
    simp only [List.all_append, List.all_cons, List.all_nil, c_is_name, c_number_in, c_word_at, c_single, c_opening_at, c_is_closed, c_Reader___init__, c_Reader_read_part, c_Reader_read_more, c_Reader_level, c_read_level, c_demand_in, c_need_demand, c_written, c_text_of, c_denied, c_denials, c__law_box, c__law_take, c__law_pick, c__law_level, c__law_text, c__law_worth, c__law_demand, c__law_is_true, c__law_said, c_law, Bool.and_self]
  unfold tbB
  simp only [Bool.and_eq_true]
  exact ⟨⟨⟨by decide +kernel, by decide +kernel⟩, by decide +kernel⟩, h4⟩
abbrev R : PySem.W.OpenRow := PySem.W.OpenLaw.row PySem.Challenge.rw_everylevel_k37_denials_of_demands
abbrev hk : PySem.W.Hook := hookX 4 (ckB tb) tb.ens
def ob (s : PySem.W.SharedT) : He.AlD := obsXG 4 (ckB tb) tb.ens (HandSHeadRun.getT s)
theorem ob_eq (s : PySem.W.SharedT) : ob s = hk.obs s.abs := obsXG_eq (HandSHeadRun.getT_eq s)
def lo : List Str := (["LevelError", "InvalidDemand", "DIGITS", "SMALL", "BARRED", "MOST_DIGITS", "is_name", "number_in", "SIGNS", "OPENINGS", "word_at", "single", "opening_at", "is_closed", "Reader", "read_level", "demand_in", "need_demand", "written", "text_of", "denied", "denials", "_law_box", "_law_take", "_law_pick", "_law_mixed", "_law_level", "_law_text", "_law_worth", "_law_demand"] : List Str) ++ (["_law_is_true", "_law_said", "_law_tall", "_law_reach", "_law_rows", "_law_kept"] : List Str)
theorem run (w : World) : HandSHeadRun.RunEq R (PySem.W.view R.prog [41]) hk ob 4000 lo w := by
  intro os
  kernel_rfl
/-- the end: the law's answer by the own evaluator -/
def Answers (W k : Nat) : Prop := ∀ ns : List Int, ns.length ≤ 63 → ∃ h', Ev.calls Ev.T.pg tb.D W k 400 [.ref 0] [.list true (ns.map Ev.Val.int)] = .ok (.bl true) h'
end Lw
open PySem PySem.W PySem.Calls PyProof.Rows
theorem Lw.ends {W k : Nat} (hk : k ≤ 100) (hev : Lw.Answers W k) : PySem.Challenge.rw_everylevel_k37_denials_of_demands.Holds := by
  w_on; o_law
  refine HandSHeadRun.head_any (r := OpenLaw.row PySem.Challenge.rw_everylevel_k37_denials_of_demands) (q := view (OpenLaw.row PySem.Challenge.rw_everylevel_k37_denials_of_demands).prog [41]) (H := Lw.hk) (ob := Lw.ob) (M := 4000) (loose := Lw.lo) (d := HandSHeadRun.topDef (OpenLaw.row PySem.Challenge.rw_everylevel_k37_denials_of_demands).prog 41) (kwd := []) Lw.ob_eq
    (by kernel_rfl) (fun s => by kernel_rfl) Lw.run (by kernel_rfl) (by kernel_rfl) (by kernel_rfl) (by rfl) (by first | assumption | decide +kernel) (by decide +kernel) ⟨rfl, rfl, rfl, rfl, rfl, by decide +kernel⟩ ?hw ?hc
  case hw => w_witness2
  case hc =>
    refine L2.walk_ofE (l := PySem.Challenge.rw_everylevel_k37_denials_of_demands) (n := 63) (k := 2 * k + 1) (x := "_law_script") (CX := L2.CX0) rfl (by decide) (by kernel_rfl) (Sd.roomK hk) ?F (fun _ _ _ _ z => z)
    intro w mg fa h Y G hmg0
    obtain ⟨K, KX, c⟩ := Y
    have hmg : mg ("law" : PySem.Str) = some (.ref fa) := by
      have e : (HandSHeadRun.topDef (OpenLaw.row PySem.Challenge.rw_everylevel_k37_denials_of_demands).prog 41).name = ("law" : PySem.Str) := by kernel_rfl
      rw [← e]
      exact hmg0
    have hfd : Lw.tb.find 400 = some Lw.e_law := by kernel_rfl
    obtain ⟨fd, sp, hb, hsp, hF⟩ := Sd.lawFacts (Pr := (PySem.Challenge.rw_everylevel_k37_denials_of_demands).prog) (w := w) (W := W) (x := "_law_script") (f := 400) k KX G Lw.tb_ok c Lw.bind_all (e := Lw.e_law) hfd rfl rfl rfl hmg 63 hev
    exact ⟨K, fd, sp, KX, hb, hsp, fun base _ _ => hF base⟩

theorem Lw.has : Ev.Has37 Ev.T.pg Lw.tb.D := by
  refine { dig := ?_, sml := ?_, bar := ?_, most := ?_, isName := ?_, numIn := ?_, wordAt := ?_, single := ?_, opn := ?_, cls := ?_, openAt := ?_, isClosed := ?_, init := ?_, readPart := ?_, readMore := ?_, level := ?_, readLevel := ?_, sig := ?_, demandIn := ?_, needDemand := ?_, written := ?_, textOf := ?_, denied := ?_, denials := ?_, box := ?_, take := ?_, pick := ?_, lvl := ?_, txt := ?_, wor := ?_, dem := ?_, tru := ?_, sai := ?_, law := ?_ } <;> kernel_rfl
theorem Lw.answers : Lw.Answers 100000 20 := fun ns _ => by
  have z := Ev.law37 Lw.has ns
  unfold Ev.wF at z
  obtain ⟨v, h', e, rfl⟩ := Ev.wget z
  exact ⟨h', e⟩
theorem PySem.Challenge.cw_everylevel_k37_denials_of_demands_holds : PySem.Challenge.rw_everylevel_k37_denials_of_demands.Holds := by
  exact Lw.ends (by decide) Lw.answers
