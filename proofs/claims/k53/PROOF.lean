import PyProof.Rows.All
import Wide.All
import OpenK.AllK
import Wide.FinOn
import PyProof.EqLayable
import HandS.ForMost
import HandS.ForExc
import HandS.Wide
import HandS.Gcd
import HandS.Flow
import HandS.IsInst
import HandS.TupAny
import HandS.TupMul
import HandS.TupLe
import HandS.Zip
import HandS.Deep
import HandS.Style
import HandS.SortInts
import HandS.DictComp
import HandS.ExcIs
import HandS.EndBits
import HandS.WordsExc
import HandS.TryOnly
import HandS.TryMany
import HandS.ExcOwn
import HandS.TupLen
import PySem.Challenge.RW_lotsinturn_k53_whole_fractions_beside_ow
section
/-! PyCore: a small evaluator for the part of Python that the linked texts use. Values are trees, only lists, dicts and
instances stand in a heap. Own work; the bridge to the model is PySound. -/
set_option linter.all false
set_option autoImplicit false
namespace Mp

/-- a value: a tuple is a value (and a list that stands still: fz), what changes stands in the heap -/
inductive D where
  | non | bl (b : Bool) | int (i : Int) | str (s : List Nat) | tup (xs : List D) | fz (xs : List D) | ref (r : Nat)
deriving Inhabited

/-- what stands in the heap -/
inductive MO where
  | lst (xs : List D)
  | dct (kvs : List (D × D))
  | ins (c : Nat) (fs : List (Nat × D))
deriving Inhabited

/-- the heap, the newest object first -/
structure MH where
  sz : Nat
  obs : List MO

namespace MH
def get (h : MH) (r : Nat) : Option MO := if r < h.sz then h.obs[h.sz - 1 - r]? else none
def new (h : MH) (o : MO) : MH := ⟨h.sz + 1, o :: h.obs⟩
def put (h : MH) (r : Nat) (o : MO) : MH := if r < h.sz then ⟨h.sz, h.obs.set (h.sz - 1 - r) o⟩ else h
/-- the items of a list -/
def seq (h : MH) (r : Nat) : Option (List D) := match h.get r with
  | some (.lst xs) => some xs
  | _ => none
/-- every place is filled -/
def Ok (h : MH) : Prop := h.obs.length = h.sz
end MH

/-- an exception: its class, what its one field holds -/
structure Ex where
  c : Nat
  v : Option D

inductive Rs (α : Type) where
  | ok (a : α) (h : MH)
  | exc (x : Ex) (h : MH)
  | bad

namespace Rs
def bind {α β : Type} (r : Rs α) (f : α → MH → Rs β) : Rs β := match r with
  | ok a h => f a h
  | exc x h => exc x h
  | bad => bad
def opt {α : Type} (o : Option α) (h : MH) : Rs α := match o with
  | some a => ok a h
  | none => bad
end Rs

abbrev Env := List (Option D)

/-- how a statement ends -/
inductive So where
  | nx (ρ : Env) | rt (d : D) | bk (ρ : Env) | ct (ρ : Env) | xc (x : Ex) (ρ : Env)
abbrev Ro := Option (So × MH)

inductive BOp where
  | add | sub | mul | fdiv | mod | pow
inductive COp where
  | eq | ne | lt | le | gt | ge | isIn | notIn
inductive Ty where
  | int | bool | str | list | tuple | dict
inductive BF where
  | len | abs | int | tuple | list | sum | all | any | max | min | sorted | gcd | dict
inductive BM where
  | append | index | get | items | values | keys | pop | extend | setdefault

mutual
/-- an expression -/
inductive ME where
  | lit (d : D)
  | var (i : Nat)
  | glob (g : Nat)
  | tup (es : List ME)
  | lst (es : List ME)
  | dct (es : List ME)
  | bin (o : BOp) (a b : ME)
  | neg (a : ME)
  | cmp (o : COp) (a b : ME)
  | isN (a : ME)
  | notN (a : ME)
  | chain (o p : COp) (a b c : ME)
  | and (a b : ME)
  | or (a b : ME)
  | not (a : ME)
  | ite (c a b : ME)
  | ix (a b : ME)
  | sl (a : ME) (lo hi : Option ME)
  | fld (a : ME) (f : Nat)
  | call (f : Nat) (es : List ME) (perm : List Nat)
  | new (c : Nat) (es : List ME) (perm : List Nat)
  | mth (m : Nat) (o : ME) (es : List ME) (perm : List Nat)
  | bm (m : BM) (o : ME) (es : List ME)
  | bf (b : BF) (es : List ME)
  | isi (a : ME) (ts : List Ty)
  | lc (el : ME) (tg : MT) (it : MI) (ifs : List ME) (own : List Nat)
  | dc (ke ve : ME) (tg : MT) (it : MI) (ifs : List ME) (own : List Nat)
  | cis (ks : List Nat)
  | cfld
/-- a target -/
inductive MT where
  | nm (i : Nat)
  | tup (ts : List MT)
  | sub (o i : ME)
  | fld (o : ME) (f : Nat)
/-- what is walked -/
inductive MI where
  | seq (e : ME)
  | range1 (a : ME)
  | range2 (a b : ME)
  | zip (a b : ME)
  | enum (e : ME)
  | rev (e : ME)
  | items (e : ME)
  | vals (e : ME)
end

mutual
inductive MS where
  | asg (t : MT) (e : ME)
  | aug (t : MT) (o : BOp) (e : ME)
  | expr (e : ME)
  | ret (e : ME)
  | ife (c : ME) (a b : List MS)
  | whl (c : ME) (b : List MS)
  | forr (t : MT) (i : MI) (b : List MS)
  | brk | cont | pass
  | raise (c : Nat) (es : List ME)
  | try_ (b : List MS) (hs : List MX)
/-- an except clause: its class, its name's slot, its suite -/
inductive MX where
  | mk (c : Nat) (n : Option Nat) (b : List MS)
end

/-! ### what the evaluator asks of the text -/
structure GC where
  call : Nat → List D → MH → Rs D
  call1 : Nat → List D → MH → Rs D
  mth : Nat → Nat → Option Nat
  init : Nat → Option Nat
  fld : Nat → Nat → Bool
  glob : Nat → Option D
  kts : List D
  sub : Nat → Nat → Option Bool
  isa : Nat → Nat → Option Bool
  lim : Nat

def lineC : Nat := 16777216

/-! ### truth, equality, order -/
def truthy (h : MH) : D → Option Bool
  | .non => some false
  | .bl b => some b
  | .int i => some (i != 0)
  | .str s => if s.length ≤ lineC then some (!s.isEmpty) else none
  | .tup xs => some (!xs.isEmpty)
  | .fz xs => some (!xs.isEmpty)
  | .ref r => match h.get r with
    | some (.lst xs) => some (!xs.isEmpty)
    | _ => none

def mapO {α β : Type} (f : α → Option β) : List α → Option (List β)
  | [] => some []
  | x :: xs => match f x with
    | some y => match mapO f xs with
      | some ys => some (y :: ys)
      | none => none
    | none => none

/-- the data that == sees -/
def pd (h : MH) : Nat → D → Option PySem.PyData
  | _, .non => some .none
  | _, .bl b => some (.bool b)
  | _, .int i => some (.int i)
  | _, .str s => if s.all (· < 0x110000) then some (.str ⟨s.toArray⟩) else none
  | 0, _ => none
  | n + 1, .tup xs => (mapO (pd h n) xs).map .tuple
  | n + 1, .fz xs => (mapO (pd h n) xs).map .list
  | n + 1, .ref r => match h.seq r with
    | some xs => (mapO (pd h n) xs).map .list
    | none => none

def eqD (h : MH) : D → D → Option Bool
  | .int i, .int j => some (decide (i = j))
  | .str s, .str t => some (decide (s = t))
  | .bl a, .bl b => some (decide (a = b))
  | .non, .non => some true
  | x, y => match pd h 60 x, pd h 60 y with
    | some a, some b => some (PySem.PyData.eqv a b)
    | _, _ => none

/-- lists of ints in the order of tuples -/
def lexLt : List Int → List Int → Bool
  | [], [] => false
  | [], _ :: _ => true
  | _ :: _, [] => false
  | x :: xs, y :: ys => if x = y then lexLt xs ys else decide (x < y)
def intsD : List D → Option (List Int)
  | [] => some []
  | .int i :: r => (intsD r).map (i :: ·)
  | _ => none
def bools : List D → Option (List Bool)
  | [] => some []
  | .bl i :: r => (bools r).map (i :: ·)
  | _ => none

def ordI (o : COp) (i j : Int) : Bool := match o with
  | .lt => decide (i < j)
  | .le => decide (i ≤ j)
  | .gt => decide (j < i)
  | .ge => decide (j ≤ i)
  | .eq => decide (i = j)
  | _ => !decide (i = j)

/-! ### operators -/
def mulOk (i j : Int) : Bool := decide (i.natAbs.log2 + j.natAbs.log2 < 100000000)

def bopI (o : BOp) (i j : Int) : Option Int := match o with
  | .add => some (i + j)
  | .sub => some (i - j)
  | .mul => if mulOk i j then some (i * j) else none
  | .fdiv => if decide (j ≠ 0) && decide (j.natAbs.log2 < 9000) then some (i.fdiv j) else none
  | .mod => if j = 0 then none else some (i.fmod j)
  | .pow => if decide (0 ≤ j) && decide (j ≤ 1000000) && decide (i.natAbs < 2 ^ 64) then some (i ^ j.toNat) else none

def binop (o : BOp) (x y : D) (h : MH) : Rs D := match x, y with
  | .int i, .int j => match bopI o i j with
    | some k => .ok (.int k) h
    | none => .bad
  | .tup xs, .tup ys => match o with
    | .add => if xs.length + ys.length ≤ lineC then .ok (.tup (xs ++ ys)) h else .bad
    | _ => .bad
  | .str xs, .str ys => match o with
    | .add => if xs.length + ys.length ≤ lineC then .ok (.str (xs ++ ys)) h else .bad
    | _ => .bad
  | .ref r, .ref q => match o, h.get r, h.get q with
    | .add, some (.lst xs), some (.lst ys) => if xs.length + ys.length ≤ lineC then .ok (.ref h.sz) (h.new (.lst (xs ++ ys))) else .bad
    | _, _, _ => .bad
  | .ref r, .int k => match o, h.get r with
    | .mul, some (.lst xs) => if decide (k < 16777216) && decide (-16777216 < k) && decide (xs.length * k.toNat ≤ lineC) then .ok (.ref h.sz) (h.new (.lst (List.replicate k.toNat xs).flatten)) else .bad
    | _, _ => .bad
  | .tup xs, .int k => match o with
    | .mul => if !xs.isEmpty && decide (2 ≤ k) && decide (k ≤ 1000) && decide (xs.length ≤ 1000) then .ok (.tup (List.replicate k.toNat xs).flatten) h else .bad
    | _ => .bad
  | _, _ => .bad

/-! ### subscripts -/
def ixOf (n : Nat) (i : Int) : Option Nat := if 0 ≤ i then (if i < n then some i.toNat else none) else if -(n : Int) ≤ i then some (i + n).toNat else none
def atD {α : Type} (xs : List α) (i : Int) : Option α := match ixOf xs.length i with
  | some j => xs[j]?
  | none => none
/-- the kinds of keys that a dict takes here: ints and texts; tuples of these -/
def flatK : D → Bool
  | .int _ => true
  | .str _ => true
  | _ => false
def keyK : D → Bool
  | .tup xs => xs.all flatK
  | d => flatK d
def beqK : D → D → Bool
  | .int i, .int j => i == j
  | .str s, .str t => s == t
  | _, _ => false
def beqKs : List D → List D → Bool
  | [], [] => true
  | x :: xs, y :: ys => beqK x y && beqKs xs ys
  | _, _ => false
def eqK : D → D → Bool
  | .tup xs, .tup ys => beqKs xs ys
  | x, y => beqK x y
def isTupK : D → Bool
  | .tup _ => true
  | _ => false
/-- the keys are all of x's kind -/
def kindOk (kvs : List (D × D)) (x : D) : Bool := keyK x && kvs.all fun p => isTupK p.1 == isTupK x
/-- not one of the tuples that the text itself holds -/
def keyNew (kts : List D) (x : D) : Bool := !isTupK x || !kts.any (eqK x)
def lookK (x : D) : List (D × D) → Option D
  | [] => none
  | (k, v) :: r => if eqK k x then some v else lookK x r
def putK (x v : D) : List (D × D) → List (D × D)
  | [] => [(x, v)]
  | (k, w) :: r => if eqK k x then (k, v) :: r else (k, w) :: putK x v r

def isInD (kts : List D) (h : MH) (x y : D) : Option Bool := match y with
  | .tup ys => match pd h 60 x, mapO (pd h 59) ys with
    | some a, some bs => some (bs.any fun b => PySem.PyData.eqv b a)
    | _, _ => none
  | .ref r => match h.get r with
    | some (.lst ys) => match pd h 60 x, mapO (pd h 59) ys with
      | some a, some bs => some (bs.any fun b => PySem.PyData.eqv b a)
      | _, _ => none
    | some (.dct kvs) => if kindOk kvs x && keyNew kts x then some (lookK x kvs).isSome else none
    | _ => none
  | _ => none

def cmpD (kts : List D) (h : MH) (o : COp) (x y : D) : Option Bool := match o with
  | .eq => eqD h x y
  | .ne => (eqD h x y).map (!·)
  | .isIn => isInD kts h x y
  | .notIn => (isInD kts h x y).map (!·)
  | .lt => match x, y with
    | .int i, .int j => some (decide (i < j))
    | .tup xs, .tup ys => match intsD xs, intsD ys with
      | some ns, some ms => some (lexLt ns ms)
      | _, _ => none
    | _, _ => none
  | o => match x, y with
    | .int i, .int j => some (ordI o i j)
    | _, _ => none

def getIx (kts : List D) (x i : D) (h : MH) : Option D := match x, i with
  | .tup xs, .int j => atD xs j
  | .fz xs, .int j => atD xs j
  | .str xs, .int j => if xs.length ≤ lineC then (atD xs j).map fun c => .str [c] else none
  | .ref r, i => match h.get r with
    | some (.lst xs) => match i with
      | .int j => atD xs j
      | _ => none
    | some (.dct kvs) => if kindOk kvs i && keyNew kts i then lookK i kvs else none
    | _ => none
  | _, _ => none

/-- a slice's end, clipped -/
def clip (n d : Nat) : Option Int → Nat
  | none => d
  | some v => if v < 0 then (v + n).toNat else min v.toNat n
def cut {α : Type} (xs : List α) (lo hi : Option Int) : List α :=
  (xs.drop (clip xs.length 0 lo)).take (clip xs.length xs.length hi - clip xs.length 0 lo)
def slD (x : D) (lo hi : Option Int) (h : MH) : Rs D := match x with
  | .tup xs => .ok (.tup (cut xs lo hi)) h
  | .fz xs => .ok (.ref h.sz) (h.new (.lst (cut xs lo hi)))
  | .ref r => match h.seq r with
    | some xs => .ok (.ref h.sz) (h.new (.lst (cut xs lo hi)))
    | none => .bad
  | _ => .bad

def lookF (f : Nat) : List (Nat × D) → Option D
  | [] => none
  | (g, v) :: r => if g == f then some v else lookF f r
def putF (f : Nat) (v : D) : List (Nat × D) → List (Nat × D)
  | [] => [(f, v)]
  | (g, w) :: r => if g == f then (g, v) :: r else (g, w) :: putF f v r
def getF (ok : Nat → Nat → Bool) (f : Nat) (x : D) (h : MH) : Option D := match x with
  | .ref r => match h.get r with
    | some (.ins c fs) => if ok c f then lookF f fs else none
    | _ => none
  | _ => none
def setF (ok : Nat → Nat → Bool) (f : Nat) (x v : D) (h : MH) : Option MH := match x with
  | .ref r => match h.get r with
    | some (.ins c fs) => if ok c f && decide (fs.length < 900) then some (h.put r (.ins c (putF f v fs))) else none
    | _ => none
  | _ => none
def setIx (kts : List D) (x i v : D) (h : MH) : Option MH := match x with
  | .ref r => match h.get r with
    | some (.lst xs) => match i with
      | .int j => match ixOf xs.length j with
        | some k => some (h.put r (.lst (xs.set k v)))
        | none => none
      | _ => none
    | some (.dct kvs) => if kindOk kvs i && keyNew kts i && decide (kvs.length < 1000000) then some (h.put r (.dct (putK i v kvs))) else none
    | _ => none
  | _ => none

/-! ### built-ins -/
def lenD (x : D) (h : MH) : Option Nat := match x with
  | .tup xs => some xs.length
  | .fz xs => some xs.length
  | .str xs => if xs.length ≤ lineC then some xs.length else none
  | .ref r => match h.get r with
    | some (.lst xs) => some xs.length
    | some (.dct kvs) => some kvs.length
    | _ => none
  | _ => none
/-- the items of a list, a tuple -/
def itemsOf (x : D) (h : MH) : Option (List D) := match x with
  | .tup xs => some xs
  | .fz xs => some xs
  | .ref r => h.seq r
  | _ => none
def maxI (i : Int) : List Int → Int
  | [] => i
  | j :: r => maxI (if i < j then j else i) r
def minI (i : Int) : List Int → Int
  | [] => i
  | j :: r => minI (if j < i then j else i) r
def insI (x : Int) : List Int → List Int
  | [] => [x]
  | y :: r => if x ≤ y then x :: y :: r else y :: insI x r
def sortI : List Int → List Int
  | [] => []
  | x :: r => insI x (sortI r)
/-- a built-in over a new list of these -/
def bfItems (b : BF) (xs : List D) (h : MH) : Rs D := match b with
  | .tuple => .ok (.tup xs) h
  | .list => .ok (.ref h.sz) (h.new (.lst xs))
  | .len => .ok (.int xs.length) h
  | .sum => match intsD xs with
    | some ns => .ok (.int ns.sum) h
    | none => .bad
  | .all => match bools xs with
    | some bs => .ok (.bl (bs.all id)) h
    | none => .bad
  | .any => match bools xs with
    | some bs => .ok (.bl (bs.any id)) h
    | none => .bad
  | .max => match intsD xs with
    | some (n :: ns) => .ok (.int (maxI n ns)) h
    | _ => .bad
  | .min => match intsD xs with
    | some (n :: ns) => .ok (.int (minI n ns)) h
    | _ => .bad
  | .sorted => match intsD xs with
    | some ns => .ok (.ref h.sz) (h.new (.lst ((sortI ns).map .int)))
    | _ => .bad
  | _ => .bad
def bfD (b : BF) (xs : List D) (h : MH) : Rs D := match b, xs with
  | .len, [x] => match lenD x h with
    | some n => .ok (.int n) h
    | none => .bad
  | .abs, [.int i] => .ok (.int (if i < 0 then -i else i)) h
  | .int, [.int i] => .ok (.int i) h
  | .int, [.bl b] => .ok (.int (if b then 1 else 0)) h
  | .gcd, [.int i, .int j] => .ok (.int (Nat.gcd i.natAbs j.natAbs : Nat)) h
  | .max, [.int i, .int j] => .ok (.int (if j > i then j else i)) h
  | .min, [.int i, .int j] => .ok (.int (if j < i then j else i)) h
  | .tuple, [.tup xs] => .ok (.tup xs) h
  | .tuple, [.fz xs] => .ok (.tup xs) h
  | .tuple, [.ref r] => match h.seq r with
    | some ys => .ok (.tup ys) h
    | none => .bad
  | .list, [.tup xs] => .ok (.ref h.sz) (h.new (.lst xs))
  | .list, [.fz xs] => .ok (.ref h.sz) (h.new (.lst xs))
  | .list, [.ref r] => match h.seq r with
    | some ys => .ok (.ref h.sz) (h.new (.lst ys))
    | none => .bad
  | .dict, [.ref r] => match h.get r with
    | some (.dct kvs) => if !kvs.isEmpty && kvs.all (fun p => !isTupK p.1) then .ok (.ref h.sz) (h.new (.dct kvs)) else .bad
    | _ => .bad
  | .len, _ => .bad
  | .tuple, _ => .bad
  | .list, _ => .bad
  | b, [.ref r] => match h.get r with
    | some (.lst xs) => bfItems b xs h
    | _ => .bad
  | _, _ => .bad
def tyD (x : D) (h : MH) : Option (Option Ty) := match x with
  | .non => some none
  | .bl _ => some (some .bool)
  | .int _ => some (some .int)
  | .str _ => some (some .str)
  | .tup _ => some (some .tuple)
  | .fz _ => some (some .list)
  | .ref r => match h.get r with
    | some (.lst _) => some (some .list)
    | some (.dct _) => some (some .dict)
    | _ => none
def tyLe (t u : Ty) : Bool := match t, u with
  | .int, .int => true | .bool, .bool => true | .bool, .int => true | .str, .str => true
  | .list, .list => true | .tuple, .tuple => true | .dict, .dict => true
  | _, _ => false
def isiD (x : D) (ts : List Ty) (h : MH) : Option Bool := match tyD x h with
  | some (some t) => some (ts.any (tyLe t))
  | some none => some false
  | none => none
def firstAt (h : MH) (a : PySem.PyData) : Nat → List PySem.PyData → Option Nat
  | _, [] => none
  | i, b :: r => if PySem.PyData.eqv b a then some i else firstAt h a (i + 1) r
def bmD (kts : List D) (m : BM) (x : D) (xs : List D) (h : MH) : Rs D := match x with
  | .ref r => match m, h.get r, xs with
    | .append, some (.lst ys), [y] => if ys.length < lineC then .ok .non (h.put r (.lst (ys ++ [y]))) else .bad
    | .extend, some (.lst ys), [.ref q] => match h.get q with
      | some (.lst zs) => if ys.length + zs.length ≤ lineC then .ok .non (h.put r (.lst (ys ++ zs))) else .bad
      | _ => .bad
    | .pop, some (.lst ys), [] => match ys[ys.length - 1]? with
      | some y => .ok y (h.put r (.lst ys.dropLast))
      | none => .bad
    | .index, some (.lst ys), [y] => match pd h 60 y, mapO (pd h 59) ys with
      | some a, some bs => match firstAt h a 0 bs with
        | some j => .ok (.int j) h
        | none => .bad
      | _, _ => .bad
    | .get, some (.dct kvs), [k] => if kindOk kvs k && keyNew kts k then .ok ((lookK k kvs).getD .non) h else .bad
    | .get, some (.dct kvs), [k, d] => if kindOk kvs k && keyNew kts k then .ok ((lookK k kvs).getD d) h else .bad
    | _, _, _ => .bad
  | _ => .bad

/-- the receiver is of the method's type -/
def bmTy (m : BM) (x : D) (h : MH) : Bool := match x with
  | .ref r => match m, h.get r with
    | .append, some (.lst _) => true
    | .extend, some (.lst _) => true
    | .pop, some (.lst _) => true
    | .index, some (.lst _) => true
    | .get, some (.dct _) => true
    | _, _ => false
  | _ => false

/-! ### what is walked -/
inductive Src where
  | its (ds : List D)
  | lv (r : Nat)
  | zip (a b : Src)
  | enum (a : Src)
def Src.nth (h : MH) : Src → Nat → Option (Option D)
  | .its ds, i => some ds[i]?
  | .lv r, i => (h.seq r).map (·[i]?)
  | .zip a b, i => match a.nth h i, b.nth h i with
    | some (some x), some (some y) => some (some (.tup [x, y]))
    | some _, some _ => some none
    | _, _ => none
  | .enum a, i => match a.nth h i with
    | some (some x) => some (some (.tup [.int i, x]))
    | o => o
def Src.len (h : MH) : Src → Nat
  | .its ds => ds.length
  | .lv r => match h.seq r with
    | some xs => xs.length
    | none => 0
  | .zip a b => min (a.len h) (b.len h)
  | .enum a => a.len h
def rangeD (lo : Int) : Nat → List D
  | 0 => []
  | n + 1 => .int lo :: rangeD (lo + 1) n

/-! ### loops, by what a turn does -/
/-- a comprehension's turns: none: left out -/
def compL {α : Type} (f : D → MH → Rs (Option α)) : List D → MH → Rs (List α)
  | [], h => .ok [] h
  | d :: ds, h => (f d h).bind fun o h1 => (compL f ds h1).bind fun ys h2 => .ok (match o with
    | some y => y :: ys
    | none => ys) h2
def compN {α : Type} (f : D → MH → Rs (Option α)) (s : Src) : Nat → Nat → MH → Rs (List α)
  | 0, _, _ => .bad
  | n + 1, i, h => match s.nth h i with
    | none => .bad
    | some none => .ok [] h
    | some (some d) => (f d h).bind fun o h1 => (compN f s n (i + 1) h1).bind fun ys h2 => .ok (match o with
      | some y => y :: ys
      | none => ys) h2
def compS {α : Type} (f : D → MH → Rs (Option α)) (s : Src) (h : MH) : Rs (List α) := match s with
  | .its ds => compL f ds h
  | s => compN f s (s.len h + 1) 0 h
/-- what follows a turn -/
def turn (k : Env → MH → Ro) : Ro → Ro
  | some (.nx ρ, h) => k ρ h
  | some (.ct ρ, h) => k ρ h
  | some (.bk ρ, h) => some (.nx ρ, h)
  | o => o
def forL (f : D → Env → MH → Ro) : List D → Env → MH → Ro
  | [], ρ, h => some (.nx ρ, h)
  | d :: ds, ρ, h => turn (forL f ds) (f d ρ h)
def forN (f : D → Env → MH → Ro) (s : Src) : Nat → Nat → Env → MH → Ro
  | 0, _, _, _ => none
  | n + 1, i, ρ, h => match s.nth h i with
    | none => none
    | some none => some (.nx ρ, h)
    | some (some d) => turn (forN f s n (i + 1)) (f d ρ h)
def forS (f : D → Env → MH → Ro) (s : Src) (ρ : Env) (h : MH) : Ro := match s with
  | .its ds => forL f ds ρ h
  | s => forN f s (s.len h + 1) 0 ρ h
def whlN (c : Env → MH → Rs Bool) (f : Env → MH → Ro) : Nat → Env → MH → Ro
  | 0, _, _ => none
  | n + 1, ρ, h => match c ρ h with
    | .bad => none
    | .exc x h1 => some (.xc x ρ, h1)
    | .ok false h1 => some (.nx ρ, h1)
    | .ok true h1 => turn (whlN c f n) (f ρ h1)

/-- the own slots of a comprehension are empty at each turn -/
def wipe (ρ : Env) : List Nat → Env
  | [] => ρ
  | i :: r => (wipe ρ r).set i none
def permL {α : Type} (xs : List α) : List Nat → Option (List α)
  | [] => some []
  | i :: r => match xs[i]? with
    | some x => (permL xs r).map (x :: ·)
    | none => none
def callP (G : GC) (f : Nat) (xs : List D) (p : List Nat) (h : MH) : Rs D := match p with
  | [] => G.call f xs h
  | p => match permL xs p with
    | some ys => G.call f ys h
    | none => .bad
/-- the unpacking of a tuple, a list -/
def unp (d : D) (n : Nat) (h : MH) : Option (List D) := match itemsOf d h with
  | some xs => if xs.length = n then some xs else none
  | none => none
/-- what a class called hands back, __init__ having handed back None -/
def newEnd (r : Nat) : D → MH → Rs D
  | .non, h => .ok (.ref r) h
  | _, _ => .bad
def isNonD : D → Bool
  | .non => true
  | _ => false
/-- key, value, key, value .. -/
def pairUp : List D → Option (List (D × D))
  | [] => some []
  | [_] => none
  | k :: v :: r => (pairUp r).map ((k, v) :: ·)
/-- in a comprehension nothing is raised -/
def noExc {α : Type} : Rs α → Rs α
  | .exc _ _ => .bad
  | r => r
def tstB (h : MH) (d : D) : Rs Bool := Rs.opt (truthy h d) h

mutual
def evalE (G : GC) (x : Option Ex) : ME → Env → MH → Rs D
  | .lit d, _, h => .ok d h
  | .var i, ρ, h => match ρ[i]? with
    | some (some d) => .ok d h
    | _ => .bad
  | .glob g, _, h => Rs.opt (G.glob g) h
  | .tup es, ρ, h => (evalEs G x es ρ h).bind fun xs h1 => .ok (.tup xs) h1
  | .lst es, ρ, h => (evalEs G x es ρ h).bind fun xs h1 => .ok (.ref h1.sz) (h1.new (.lst xs))
  | .dct es, ρ, h => (evalEs G x es ρ h).bind fun xs h1 => match pairUp xs with
    | some acc => if acc.all (fun p => kindOk acc p.1 && !isTupK p.1) && decide (acc.length ≤ 15) then .ok (.ref h1.sz) (h1.new (.dct (acc.foldl (fun kvs p => putK p.1 p.2 kvs) []))) else .bad
    | none => .bad
  | .bin o a b, ρ, h => (evalE G x a ρ h).bind fun u h1 => (evalE G x b ρ h1).bind fun v h2 => binop o u v h2
  | .neg a, ρ, h => (evalE G x a ρ h).bind fun u h1 => match u with
    | .int i => .ok (.int (-i)) h1
    | _ => .bad
  | .cmp o a b, ρ, h => (evalE G x a ρ h).bind fun u h1 => (evalE G x b ρ h1).bind fun v h2 => (Rs.opt (cmpD G.kts h2 o u v) h2).bind fun b h3 => .ok (.bl b) h3
  | .isN a, ρ, h => (evalE G x a ρ h).bind fun u h1 => .ok (.bl (isNonD u)) h1
  | .notN a, ρ, h => (evalE G x a ρ h).bind fun u h1 => .ok (.bl (!isNonD u)) h1
  | .chain o p a b c, ρ, h => (evalE G x a ρ h).bind fun u h1 => (evalE G x b ρ h1).bind fun v h2 => (Rs.opt (cmpD G.kts h2 o u v) h2).bind fun k h3 =>
    if k then (evalE G x c ρ h3).bind fun w h4 => (Rs.opt (cmpD G.kts h4 p v w) h4).bind fun b h5 => .ok (.bl b) h5 else .ok (.bl false) h3
  | .and a b, ρ, h => (evalE G x a ρ h).bind fun u h1 => (tstB h1 u).bind fun k h2 => if k then evalE G x b ρ h2 else .ok u h2
  | .or a b, ρ, h => (evalE G x a ρ h).bind fun u h1 => (tstB h1 u).bind fun k h2 => if k then .ok u h2 else evalE G x b ρ h2
  | .not a, ρ, h => (evalE G x a ρ h).bind fun u h1 => (tstB h1 u).bind fun k h2 => .ok (.bl (!k)) h2
  | .ite c a b, ρ, h => (evalE G x c ρ h).bind fun u h1 => (tstB h1 u).bind fun k h2 => if k then evalE G x a ρ h2 else evalE G x b ρ h2
  | .ix a b, ρ, h => (evalE G x a ρ h).bind fun u h1 => (evalE G x b ρ h1).bind fun v h2 => Rs.opt (getIx G.kts u v h2) h2
  | .sl a lo hi, ρ, h => (evalE G x a ρ h).bind fun u h1 => (evalO G x lo ρ h1).bind fun l h2 => (evalO G x hi ρ h2).bind fun k h3 => slD u l k h3
  | .fld a f, ρ, h => (evalE G x a ρ h).bind fun u h1 => Rs.opt (getF G.fld f u h1) h1
  | .call f es p, ρ, h => (evalEs G x es ρ h).bind fun xs h1 => callP G f xs p h1
  | .new c es p, ρ, h => match G.init c, p with
    | some f, [] => (evalEs G x es ρ h).bind fun xs h1 => (noExc (G.call1 f (.ref h1.sz :: xs) (h1.new (.ins c [])))).bind (newEnd h1.sz)
    | _, _ => .bad
  | .mth m o es p, ρ, h => (evalE G x o ρ h).bind fun u h1 => match u with
    | .ref r => match h1.get r with
      | some (.ins c fs) => match if (lookF m fs).isNone && p.isEmpty then G.mth c m else none with
        | some f => (evalEs G x es ρ h1).bind fun xs h2 => G.call f (.ref r :: xs) h2
        | none => .bad
      | _ => .bad
    | _ => .bad
  | .bm m o es, ρ, h => (evalE G x o ρ h).bind fun u h1 => if bmTy m u h1 then (evalEs G x es ρ h1).bind fun xs h2 => bmD G.kts m u xs h2 else .bad
  | .bf b es, ρ, h => (evalEs G x es ρ h).bind fun xs h1 => bfD b xs h1
  | .isi a ts, ρ, h => (evalE G x a ρ h).bind fun u h1 => (Rs.opt (isiD u ts h1) h1).bind fun b h2 => .ok (.bl b) h2
  | .lc el tg it ifs own, ρ, h => (evalI G x it ρ h).bind fun s h1 =>
    (compS (fun d h => noExc ((asgT G x tg d (wipe ρ own) h).bind fun ρ1 h2 => (evalTs G x ifs ρ1 h2).bind fun k h3 =>
      if k then (evalE G x el ρ1 h3).bind fun y h4 => .ok (some y) h4 else .ok none h3)) s h1).bind fun ys h2 =>
    if ys.length < lineC then .ok (.ref h2.sz) (h2.new (.lst ys)) else .bad
  | .dc ke ve tg it ifs own, ρ, h => (evalI G x it ρ h).bind fun s h1 =>
    (compS (fun d h => noExc ((asgT G x tg d (wipe ρ own) h).bind fun ρ1 h2 => (evalTs G x ifs ρ1 h2).bind fun k h3 =>
      if k then (evalE G x ke ρ1 h3).bind fun y h4 => (evalE G x ve ρ1 h4).bind fun z h5 => .ok (some (y, z)) h5 else .ok none h3)) s h1).bind fun ys h2 =>
    if ys.all (fun p => kindOk ys p.1 && keyNew G.kts p.1) && decide (ys.length < 1000000) then .ok (.ref h2.sz) (h2.new (.dct (ys.foldl (fun kvs p => putK p.1 p.2 kvs) []))) else .bad
  | .cis ks, _, h => match x, ks with
    | some ⟨c, none⟩, [k] => match G.isa c k with
      | some b => .ok (.bl b) h
      | none => .bad
    | _, _ => .bad
  | .cfld, _, h => match x with
    | some ⟨_, some v⟩ => .ok v h
    | _ => .bad
def evalEs (G : GC) (x : Option Ex) : List ME → Env → MH → Rs (List D)
  | [], _, h => .ok [] h
  | e :: es, ρ, h => (evalE G x e ρ h).bind fun u h1 => (evalEs G x es ρ h1).bind fun us h2 => .ok (u :: us) h2
def evalTs (G : GC) (x : Option Ex) : List ME → Env → MH → Rs Bool
  | [], _, h => .ok true h
  | e :: es, ρ, h => (evalE G x e ρ h).bind fun u h1 => (tstB h1 u).bind fun k h2 => if k then evalTs G x es ρ h2 else .ok false h2
def evalO (G : GC) (x : Option Ex) : Option ME → Env → MH → Rs (Option Int)
  | none, _, h => .ok none h
  | some e, ρ, h => (evalE G x e ρ h).bind fun u h1 => match u with
    | .int i => .ok (some i) h1
    | _ => .bad
/-- a value to a target -/
def asgT (G : GC) (x : Option Ex) : MT → D → Env → MH → Rs Env
  | .nm i, d, ρ, h => if i < ρ.length then .ok (ρ.set i (some d)) h else .bad
  | .tup ts, d, ρ, h => match unp d ts.length h with
    | some xs => noExc (asgTs G x ts xs ρ h)
    | none => .bad
  | .sub o i, d, ρ, h => (evalE G x o ρ h).bind fun u h1 => (evalE G x i ρ h1).bind fun v h2 => match setIx G.kts u v d h2 with
    | some h3 => .ok ρ h3
    | none => .bad
  | .fld o f, d, ρ, h => (evalE G x o ρ h).bind fun u h1 => match setF G.fld f u d h1 with
    | some h2 => .ok ρ h2
    | none => .bad
def asgTs (G : GC) (x : Option Ex) : List MT → List D → Env → MH → Rs Env
  | t :: ts, d :: ds, ρ, h => (asgT G x t d ρ h).bind fun ρ1 h1 => asgTs G x ts ds ρ1 h1
  | [], [], ρ, h => .ok ρ h
  | _, _, _, _ => .bad
/-- what is walked -/
def evalI (G : GC) (x : Option Ex) : MI → Env → MH → Rs Src
  | .seq e, ρ, h => (evalE G x e ρ h).bind fun u h1 => match u with
    | .tup xs => .ok (.its xs) h1
    | .fz xs => .ok (.its xs) h1
    | .ref r => match h1.seq r with
      | some _ => .ok (.lv r) h1
      | none => .bad
    | _ => .bad
  | .range1 a, ρ, h => (evalE G x a ρ h).bind fun u h1 => match u with
    | .int i => if decide (-(2 ^ 62) ≤ i) && decide (i < 2 ^ 62) then .ok (.its (rangeD 0 i.toNat)) h1 else .bad
    | _ => .bad
  | .range2 a b, ρ, h => (evalE G x a ρ h).bind fun u h1 => (evalE G x b ρ h1).bind fun v h2 => match u, v with
    | .int i, .int j => if decide (-(2 ^ 62) ≤ i) && decide (i < 2 ^ 62) && decide (-(2 ^ 62) ≤ j) && decide (j < 2 ^ 62) then .ok (.its (rangeD i (j - i).toNat)) h2 else .bad
    | _, _ => .bad
  | .zip a b, ρ, h => (evalE G x a ρ h).bind fun u h1 => (evalE G x b ρ h1).bind fun v h2 => match u, v with
    | .tup xs, .tup ys => .ok (.its ((xs.zip ys).map fun p => .tup [p.1, p.2])) h2
    | .ref r, .ref q => match h2.seq r, h2.seq q with
      | some _, some _ => .ok (.zip (.lv r) (.lv q)) h2
      | _, _ => .bad
    | _, _ => .bad
  | .enum e, ρ, h => (evalE G x e ρ h).bind fun u h1 => match u with
    | .ref r => match h1.seq r with
      | some _ => .ok (.enum (.lv r)) h1
      | none => .bad
    | _ => .bad
  | .rev _, _, _ => .bad
  | .items _, _, _ => .bad
  | .vals _, _, _ => .bad
end

/-- a test -/
def evalT (G : GC) (x : Option Ex) (e : ME) (ρ : Env) (h : MH) : Rs Bool := (evalE G x e ρ h).bind fun u h1 => tstB h1 u
/-- from an expression to a statement -/
def sOf {α : Type} (ρ : Env) (r : Rs α) (k : α → MH → Ro) : Ro := match r with
  | .ok a h => k a h
  | .exc x h => some (.xc x ρ, h)
  | .bad => none
/-- the statements one behind the other -/
def sThen (r : Ro) (k : Env → MH → Ro) : Ro := match r with
  | some (.nx ρ, h) => k ρ h
  | o => o

/-- the name of an except clause -/
def hide (n : Option Nat) (ρ : Env) : Env := match n with
  | some i => ρ.set i none
  | none => ρ
def slotOk (n : Option Nat) (ρ : Env) : Bool := match n with
  | some i => decide (i < ρ.length)
  | none => true
def leave (n : Option Nat) : Ro → Ro
  | some (.nx ρ, h) => some (.nx (hide n ρ), h)
  | some (.bk ρ, h) => some (.bk (hide n ρ), h)
  | some (.ct ρ, h) => some (.ct (hide n ρ), h)
  | some (.rt d, h) => some (.rt d, h)
  | _ => none
mutual
def evalS (G : GC) (x : Option Ex) : MS → Env → MH → Ro
  | .asg t e, ρ, h => sOf ρ (evalE G x e ρ h) fun d h1 => sOf ρ (asgT G x t d ρ h1) fun ρ1 h2 => some (.nx ρ1, h2)
  | .aug t o e, ρ, h => match t with
    | .nm i => match ρ[i]? with
      | some (some (.int a)) => sOf ρ (evalE G x e ρ h) fun d h1 => match d with
        | .int b => match bopI o a b with
          | some k => if i < ρ.length then some (.nx (ρ.set i (some (.int k))), h1) else none
          | none => none
        | _ => none
      | _ => none
    | _ => none
  | .expr e, ρ, h => sOf ρ (evalE G x e ρ h) fun _ h1 => some (.nx ρ, h1)
  | .ret e, ρ, h => sOf ρ (evalE G x e ρ h) fun d h1 => some (.rt d, h1)
  | .ife c a b, ρ, h => sOf ρ (evalT G x c ρ h) fun k h1 => if k then evalSs G x a ρ h1 else evalSs G x b ρ h1
  | .whl c b, ρ, h => whlN (evalT G x c) (evalSs G x b) G.lim ρ h
  | .forr t i b, ρ, h => sOf ρ (evalI G x i ρ h) fun s h1 => forS (fun d ρ h => sOf ρ (asgT G x t d ρ h) fun ρ1 h1 => evalSs G x b ρ1 h1) s ρ h1
  | .brk, ρ, h => some (.bk ρ, h)
  | .cont, ρ, h => some (.ct ρ, h)
  | .pass, ρ, h => some (.nx ρ, h)
  | .raise c es, ρ, h => sOf ρ (evalEs G x es ρ h) fun xs h1 => match xs with
    | [] => some (.xc ⟨c, none⟩ ρ, h1)
    | [v] => some (.xc ⟨c, some v⟩ ρ, h1)
    | _ => none
  | .try_ b hs, ρ, h => match evalSs G x b ρ h with
    | some (.xc y ρ1, h1) => evalX G y hs ρ1 h1
    | o => o
def evalSs (G : GC) (x : Option Ex) : List MS → Env → MH → Ro
  | [], ρ, h => some (.nx ρ, h)
  | s :: ss, ρ, h => sThen (evalS G x s ρ h) fun ρ1 h1 => evalSs G x ss ρ1 h1
def evalX (G : GC) (y : Ex) : List MX → Env → MH → Ro
  | [], ρ, h => some (.xc y ρ, h)
  | m :: r, ρ, h => match m with
    | .mk c n b => match G.sub y.c c with
      | some true => if slotOk n ρ then leave n (evalSs G (some y) b (hide n ρ) h) else none
      | some false => evalX G y r ρ h
      | none => none
end

/-! ### the text -/
/-- a def: how many parameters, how many slots, its body -/
structure FD where
  ps : Nat
  ns : Nat
  body : List MS
structure Prg where
  fns : List FD
  mth : List (Nat × Nat × Nat)
  init : List (Nat × Nat)
  fld : List (Nat × Nat)
  glob : List D
  kts : List D
  sub : List (Nat × Nat × Bool)
  isa : List (Nat × Nat × Bool)
def look2 (c m : Nat) : List (Nat × Nat × Nat) → Option Nat
  | [] => none
  | (a, b, f) :: r => if a == c && b == m then some f else look2 c m r
def look1 (c : Nat) : List (Nat × Nat) → Option Nat
  | [] => none
  | (a, f) :: r => if a == c then some f else look1 c r
def lookB (c m : Nat) : List (Nat × Nat × Bool) → Option Bool
  | [] => none
  | (a, b, f) :: r => if a == c && b == m then some f else lookB c m r
def fnEnv (f : FD) (xs : List D) : Env := xs.map some ++ List.replicate (f.ns - xs.length) none
def fnEnd (r : Ro) : Rs D := match r with
  | some (.rt d, h) => .ok d h
  | some (.nx _, h) => .ok .non h
  | some (.xc x _, h) => .exc x h
  | _ => .bad
def gcOf (P : Prg) (lim : Nat) (c c1 : Nat → List D → MH → Rs D) : GC where
  call := c
  call1 := c1
  mth := fun a m => look2 a m P.mth
  init := fun a => look1 a P.init
  fld := fun c f => P.fld.any fun p => p.1 == c && p.2 == f
  glob := fun g => P.glob[g]?
  kts := P.kts
  sub := fun c d => lookB c d P.sub
  isa := fun c d => lookB c d P.isa
  lim := lim
/-- a call of a def, its own calls by c (those of __init__ by c1) -/
def callB (P : Prg) (lim : Nat) (c c1 : Nat → List D → MH → Rs D) (f : Nat) (xs : List D) (h : MH) : Rs D := match P.fns[f]? with
  | some d => if xs.length = d.ps then fnEnd (evalSs (gcOf P lim c c1) none d.body (fnEnv d xs) h) else .bad
  | none => .bad
def call0 : Nat → List D → MH → Rs D := fun _ _ _ => .bad
/-- a call, n calls deep -/
def callN (P : Prg) (lim : Nat) : Nat → Nat → List D → MH → Rs D
  | 0 => call0
  | 1 => callB P lim call0 call0
  | n + 2 => callB P lim (callN P lim (n + 1)) (callN P lim n)
end Mp
end
section
set_option Elab.async false
set_option linter.all false
set_option maxRecDepth 100000
set_option maxHeartbeats 4000000
/-! PySnd1: how the evaluator's values and heap lie in the model (over HandS), and that this is kept. -/
namespace Mp
open PySem PySem.Spec PyProof.Rows L2

/-- the text's facts that the layout leans on: the written part, the classes' places, the fields' names, the known tuples -/
structure LC where
  K : PySem.W.Frag
  cA : Nat → Addr
  xA : Nat → Addr
  at_ : Nat → Str
  xf : Nat → Str
  kts : List D

def stOf (s : List Nat) : Str := ⟨s.toArray⟩
theorem stOf_inj {s t : List Nat} (h : stOf s = stOf t) : s = t := by
  have := congrArg (fun z => z.cps.toList) h
  simpa [stOf] using this
/-- a tuple, a list of the module's own part -/
def KTup (K : PySem.W.Frag) (a : Addr) (xs : List V) : Prop :=
  ∃ (o : Obj) (its : Array Value) (n : Nat), K.lookup a = some o ∧ o.cls = .type "tuple" ∧ o.data = .seq its n ∧ its.size ≤ sizeLine ∧ Vals xs its.toList
def FzL (K : PySem.W.Frag) (H : Hp) (a : Addr) (xs : List V) : Prop :=
  (∃ o, H a = some (.frz o (.lst xs))) ∨
    ∃ (o : Obj) (its : Array Value) (n : Nat), K.lookup a = some o ∧ o.cls = .type "list" ∧ o.dict = none ∧ o.data = .seq its n ∧ its.size ≤ sizeLine ∧ Vals xs its.toList
theorem FzL.sq {K : PySem.W.Frag} {H : Hp} {a : Addr} {xs : List V} (h : FzL K H a xs) : SqL K H a xs := by
  rcases h with ⟨o, h⟩ | h
  · exact .inl (.inr ⟨o, h⟩)
  · exact .inr h

mutual
/-- the value d lies as v -/
inductive RV (L : LC) (φ : List Addr) (H : Hp) : D → V → Prop
  | non : RV L φ H .non .non
  | bl (b : Bool) : RV L φ H (.bl b) (.bl b)
  | int (i : Int) : RV L φ H (.int i) (.int i)
  | str (s : List Nat) : RV L φ H (.str s) (.str (stOf s))
  | tup {xs : List D} {a : Addr} {vs : List V} (h : H a = some (.tup vs)) (r : RVs L φ H xs vs) : RV L φ H (.tup xs) (.ref a)
  | ktup {xs : List D} {a : Addr} {vs : List V} (h : KTup L.K a vs) (k : D.tup xs ∈ L.kts) (r : RVs L φ H xs vs) : RV L φ H (.tup xs) (.ref a)
  | fz {xs : List D} {a : Addr} {vs : List V} (h : FzL L.K H a vs) (r : RVs L φ H xs vs) : RV L φ H (.fz xs) (.ref a)
  | ref {r : Nat} {a : Addr} (h : φ[r]? = some a) : RV L φ H (.ref r) (.ref a)
inductive RVs (L : LC) (φ : List Addr) (H : Hp) : List D → List V → Prop
  | nil : RVs L φ H [] []
  | cons {d : D} {v : V} {ds : List D} {vs : List V} : RV L φ H d v → RVs L φ H ds vs → RVs L φ H (d :: ds) (v :: vs)
end

/-- a key -/
inductive RK : D → Key → Prop
  | int (i : Int) : RK (.int i) (.inl i)
  | str (s : List Nat) : RK (.str s) (.inr (stOf s))
abbrev RKs : List D → List Key → Prop := Paired RK

/-- the object o lies at a -/
def RO (L : LC) (φ : List Addr) (H : Hp) (a : Addr) : MO → Prop
  | .lst xs => ∃ vs, H a = some (.lst vs) ∧ RVs L φ H xs vs
  | .dct kvs => (∃ ks, H a = some (.dK ks) ∧ Paired (fun (p : D × D) (q : Key × V) => RK p.1 q.1 ∧ RV L φ H p.2 q.2) kvs ks) ∨
      ∃ ks, H a = some (.dT ks) ∧ Paired (fun (p : D × D) (q : List Key × V) => (∃ xs, p.1 = .tup xs ∧ RKs xs q.1) ∧ RV L φ H p.2 q.2) kvs ks
  | .ins c fs => ∃ dx gs, H a = some (.ins (L.cA c) dx gs) ∧ H dx = some (.own a) ∧ Paired (fun (p : Nat × D) (q : Str × V) => q.1 = L.at_ p.1 ∧ RV L φ H p.2 q.2) fs gs

structure RH (L : LC) (φ : List Addr) (H : Hp) (m : MH) : Prop where
  len : φ.length = m.sz
  nd : φ.Nodup
  ob : ∀ (r : Nat) (a : Addr), φ[r]? = some a → ∃ o, m.get r = some o ∧ RO L φ H a o

/-- how the heap may have gone on: new things, the tracked things of φ changed, all else as it was -/
structure Ext (φ : List Addr) (H : Hp) (φ' : List Addr) (H' : Hp) : Prop where
  pre : ∃ ψ, φ' = φ ++ ψ ∧ ∀ a ∈ ψ, H a = none
  frame : ∀ a o, H a = some o → a ∉ φ → H' a = some o
  there : ∀ a, H' a = none → H a = none

theorem Ext.refl {φ : List Addr} {H : Hp} : Ext φ H φ H := ⟨⟨[], by simp, by simp⟩, fun _ _ h _ => h, fun _ h => h⟩
theorem Ext.trans {φ φ1 φ2 : List Addr} {H H1 H2 : Hp} (a : Ext φ H φ1 H1) (b : Ext φ1 H1 φ2 H2) : Ext φ H φ2 H2 := by
  obtain ⟨ψ, rfl, h1⟩ := a.pre
  obtain ⟨χ, rfl, h2⟩ := b.pre
  refine ⟨⟨ψ ++ χ, by simp, fun x hx => ?_⟩, fun x o h hx => ?_, fun x h => a.there x (b.there x h)⟩
  · rcases List.mem_append.mp hx with hx | hx
    · exact h1 x hx
    · exact a.there x (h2 x hx)
  · refine b.frame x o (a.frame x o h hx) fun hm => ?_
    rcases List.mem_append.mp hm with hm | hm
    · exact hx hm
    · have := h1 x hm
      rw [h] at this; cases this
theorem Ext.get {φ φ' : List Addr} {H H' : Hp} (e : Ext φ H φ' H') {r : Nat} {a : Addr} (h : φ[r]? = some a) : φ'[r]? = some a := by
  obtain ⟨ψ, rfl, _⟩ := e.pre
  rw [List.getElem?_append_left (List.getElem?_eq_some_iff.mp h).1]
  exact h
theorem Ext.mem {φ φ' : List Addr} {H H' : Hp} (e : Ext φ H φ' H') {a : Addr} (h : a ∈ φ) : a ∈ φ' := by
  obtain ⟨ψ, rfl, _⟩ := e.pre
  exact List.mem_append_left _ h

section
variable {L : LC} {φ φ' : List Addr} {H H' : Hp} {m m' : MH}

/-- what stands at a tracked place of φ -/
theorem RH.kind (h : RH L φ H m) {a : Addr} (ha : a ∈ φ) : (∃ xs, H a = some (.lst xs)) ∨ (∃ ks, H a = some (.dK ks)) ∨ (∃ ks, H a = some (.dT ks)) ∨ ∃ C dx fs, H a = some (.ins C dx fs) := by
  obtain ⟨r, hr⟩ := List.getElem?_of_mem ha
  obtain ⟨o, _, ho⟩ := h.ob r a hr
  cases o with
  | lst xs => obtain ⟨vs, e, _⟩ := ho; exact .inl ⟨_, e⟩
  | dct kvs =>
    rcases ho with ⟨ks, e, _⟩ | ⟨ks, e, _⟩
    · exact .inr (.inl ⟨_, e⟩)
    · exact .inr (.inr (.inl ⟨_, e⟩))
  | ins c fs => obtain ⟨dx, gs, e, _⟩ := ho; exact .inr (.inr (.inr ⟨_, _, _, e⟩))
theorem RH.noTup (h : RH L φ H m) {a : Addr} {vs : List V} (e : H a = some (.tup vs)) : a ∉ φ := fun ha => by
  rcases h.kind ha with ⟨_, q⟩ | ⟨_, q⟩ | ⟨_, q⟩ | ⟨_, _, _, q⟩ <;> rw [e] at q <;> cases q
theorem RH.noFrz (h : RH L φ H m) {a : Addr} {ob : Obj} {u : HO} (e : H a = some (.frz ob u)) : a ∉ φ := fun ha => by
  rcases h.kind ha with ⟨_, q⟩ | ⟨_, q⟩ | ⟨_, q⟩ | ⟨_, _, _, q⟩ <;> rw [e] at q <;> cases q
theorem RH.noOwn (h : RH L φ H m) {a x : Addr} (e : H a = some (.own x)) : a ∉ φ := fun ha => by
  rcases h.kind ha with ⟨_, q⟩ | ⟨_, q⟩ | ⟨_, q⟩ | ⟨_, _, _, q⟩ <;> rw [e] at q <;> cases q
theorem RH.thereAt (h : RH L φ H m) {a : Addr} (ha : a ∈ φ) : ∃ o, H a = some o := by
  rcases h.kind ha with ⟨_, q⟩ | ⟨_, q⟩ | ⟨_, q⟩ | ⟨_, _, _, q⟩ <;> exact ⟨_, q⟩
theorem RH.notNone (h : RH L φ H m) {a : Addr} (e : H a = none) : a ∉ φ := fun ha => by
  obtain ⟨o, q⟩ := h.thereAt ha
  rw [e] at q; cases q

/-- what of the old heap must still stand for a value -/
structure Stays (L : LC) (φ : List Addr) (H : Hp) (φ' : List Addr) (H' : Hp) : Prop where
  get : ∀ (r : Nat) (a : Addr), φ[r]? = some a → φ'[r]? = some a
  tup : ∀ a vs, H a = some (.tup vs) → H' a = some (.tup vs)
  frz : ∀ a o vs, H a = some (.frz o (.lst vs)) → H' a = some (.frz o (.lst vs))
theorem Ext.kept (h : RH L φ H m) (e : Ext φ H φ' H') : Stays L φ H φ' H' :=
  ⟨fun _ _ q => e.get q, fun a _ q => e.frame a _ q (h.noTup q), fun a _ _ q => e.frame a _ q (h.noFrz q)⟩
theorem FzL.kept (s : Stays L φ H φ' H') {a : Addr} {vs : List V} (h : FzL L.K H a vs) : FzL L.K H' a vs := by
  rcases h with ⟨o, h⟩ | h
  · exact .inl ⟨o, s.frz a o vs h⟩
  · exact .inr h
mutual
theorem RV.kept (s : Stays L φ H φ' H') : ∀ {d : D} {v : V}, RV L φ H d v → RV L φ' H' d v
  | _, _, .non => .non
  | _, _, .bl b => .bl b
  | _, _, .int i => .int i
  | _, _, .str x => .str x
  | _, _, .tup h r => .tup (s.tup _ _ h) (RVs.kept s r)
  | _, _, .ktup h k r => .ktup h k (RVs.kept s r)
  | _, _, .fz h r => .fz (h.kept s) (RVs.kept s r)
  | _, _, .ref h => .ref (s.get _ _ h)
theorem RVs.kept (s : Stays L φ H φ' H') : ∀ {ds : List D} {vs : List V}, RVs L φ H ds vs → RVs L φ' H' ds vs
  | _, _, .nil => .nil
  | _, _, .cons r t => .cons (RV.kept s r) (RVs.kept s t)
end
theorem RO.kept (s : Stays L φ H φ' H') {a : Addr} (same : H' a = H a) (own : ∀ dx, H dx = some (.own a) → H' dx = some (.own a)) {o : MO} (h : RO L φ H a o) : RO L φ' H' a o := by
  cases o with
  | lst xs => obtain ⟨vs, e, r⟩ := h; exact ⟨vs, same.trans e, r.kept s⟩
  | dct kvs =>
    rcases h with ⟨ks, e, r⟩ | ⟨ks, e, r⟩
    · exact .inl ⟨ks, same.trans e, Paired.mapP r fun _ _ z => ⟨z.1, z.2.kept s⟩⟩
    · exact .inr ⟨ks, same.trans e, Paired.mapP r fun _ _ z => ⟨z.1, z.2.kept s⟩⟩
  | ins c fs => obtain ⟨dx, gs, e, e2, r⟩ := h; exact ⟨dx, gs, same.trans e, own dx e2, Paired.mapP r fun _ _ z => ⟨z.1, z.2.kept s⟩⟩

/-! ### lists of values -/
theorem RVs.length : ∀ {ds : List D} {vs : List V}, RVs L φ H ds vs → ds.length = vs.length
  | _, _, .nil => rfl
  | _, _, .cons _ t => by simp [RVs.length t]
theorem RVs.append : ∀ {ds es : List D} {vs ws : List V}, RVs L φ H ds vs → RVs L φ H es ws → RVs L φ H (ds ++ es) (vs ++ ws)
  | _, _, _, _, .nil, s => s
  | _, _, _, _, .cons r t, s => .cons r (RVs.append t s)
theorem RVs.get : ∀ {ds : List D} {vs : List V} {i : Nat} {d : D}, RVs L φ H ds vs → ds[i]? = some d → ∃ v, vs[i]? = some v ∧ RV L φ H d v
  | _, _, _, _, .nil, e => by simp at e
  | _, _, 0, _, .cons r _, e => by simp at e; subst e; exact ⟨_, rfl, r⟩
  | _, _, i + 1, d, .cons _ t, e => by
    obtain ⟨v, h1, h2⟩ := RVs.get (i := i) (d := d) t (by simpa using e)
    exact ⟨v, by simpa using h1, h2⟩
theorem RVs.set {d : D} {v : V} (r : RV L φ H d v) : ∀ {ds : List D} {vs : List V} (i : Nat), RVs L φ H ds vs → RVs L φ H (ds.set i d) (vs.set i v)
  | _, _, _, .nil => .nil
  | _, _, 0, .cons _ t => .cons r t
  | _, _, i + 1, .cons q t => .cons q (RVs.set r i t)
theorem RVs.drop : ∀ {ds : List D} {vs : List V} (n : Nat), RVs L φ H ds vs → RVs L φ H (ds.drop n) (vs.drop n)
  | _, _, 0, r => r
  | _, _, _ + 1, .nil => .nil
  | _, _, n + 1, .cons _ t => RVs.drop n t
theorem RVs.take : ∀ {ds : List D} {vs : List V} (n : Nat), RVs L φ H ds vs → RVs L φ H (ds.take n) (vs.take n)
  | _, _, 0, _ => .nil
  | _, _, _ + 1, .nil => .nil
  | _, _, n + 1, .cons r t => .cons r (RVs.take n t)
theorem RVs.rep {ds : List D} {vs : List V} (r : RVs L φ H ds vs) : ∀ k : Nat, RVs L φ H (List.replicate k ds).flatten (List.replicate k vs).flatten
  | 0 => .nil
  | k + 1 => by rw [List.replicate_succ, List.replicate_succ, List.flatten_cons, List.flatten_cons]; exact r.append (RVs.rep r k)
theorem RVs.none_of : ∀ {ds : List D} {vs : List V} {i : Nat}, RVs L φ H ds vs → ds[i]? = none → vs[i]? = none := fun {ds vs i} r e => by
  have h1 := r.length
  have h2 : ds.length ≤ i := List.getElem?_eq_none_iff.mp e
  exact List.getElem?_eq_none_iff.mpr (by omega)
theorem RVs.dropLast {ds : List D} {vs : List V} (r : RVs L φ H ds vs) : RVs L φ H ds.dropLast vs.dropLast := by
  rw [List.dropLast_eq_take, List.dropLast_eq_take, r.length]; exact r.take _
theorem RVs.intsD : ∀ {ds : List D} {vs : List V} {ns : List Int}, RVs L φ H ds vs → Mp.intsD ds = some ns → vs = ns.map V.int
  | _, _, _, .nil, e => by cases e; rfl
  | _, _, ns, .cons (d := d) r t, e => by
    cases r <;> simp only [Mp.intsD] at e <;> try (cases e)
    rename_i ds vs i
    cases q : Mp.intsD ds with
    | none => rw [q] at e; cases e
    | some ms => rw [q] at e; cases e; rw [RVs.intsD t q]; rfl
theorem RVs.bools : ∀ {ds : List D} {vs : List V} {ns : List Bool}, RVs L φ H ds vs → Mp.bools ds = some ns → vs = ns.map V.bl
  | _, _, _, .nil, e => by cases e; rfl
  | _, _, ns, .cons (d := d) r t, e => by
    cases r <;> simp only [Mp.bools] at e <;> try (cases e)
    rename_i ds vs i
    cases q : Mp.bools ds with
    | none => rw [q] at e; cases e
    | some ms => rw [q] at e; cases e; rw [RVs.bools t q]; rfl
theorem RVs.ofInts : ∀ ns : List Int, RVs L φ H (ns.map D.int) (ns.map V.int)
  | [] => .nil
  | n :: ns => .cons (.int n) (RVs.ofInts ns)

/-! ### the heap goes on -/
/-- a new thing at a free place -/
theorem Stays.new (h : RH L φ H m) {p : Addr} (hp : H p = none) {o : HO} : Stays L φ H (φ ++ [p]) (upd H p o) := by
  refine ⟨fun r a q => ?_, fun a vs q => ?_, fun a ob vs q => ?_⟩
  · rw [List.getElem?_append_left (List.getElem?_eq_some_iff.mp q).1]; exact q
  · rw [upd_ne (ne_of_none q hp)]; exact q
  · rw [upd_ne (ne_of_none q hp)]; exact q
/-- a thing that no place of φ is -/
theorem Stays.side (h : RH L φ H m) {p : Addr} (hp : H p = none) {o : HO} : Stays L φ H φ (upd H p o) := by
  refine ⟨fun r a q => q, fun a vs q => ?_, fun a ob vs q => ?_⟩
  · rw [upd_ne (ne_of_none q hp)]; exact q
  · rw [upd_ne (ne_of_none q hp)]; exact q
theorem Ext.side {p : Addr} (hp : H p = none) {o : HO} : Ext φ H φ (upd H p o) := by
  refine ⟨⟨[], by simp, by simp⟩, fun a u q _ => ?_, fun a q => ?_⟩
  · rw [upd_ne (ne_of_none q hp)]; exact q
  · by_cases ha : a = p
    · rw [ha, upd_same] at q; cases q
    · rw [upd_ne ha] at q; exact q
theorem RH.side (h : RH L φ H m) {p : Addr} (hp : H p = none) {o : HO} : RH L φ (upd H p o) m := by
  refine ⟨h.len, h.nd, fun r a q => ?_⟩
  obtain ⟨o', g, ro⟩ := h.ob r a q
  have hne : a ≠ p := fun e => h.notNone hp (e ▸ List.mem_of_getElem? q)
  exact ⟨o', g, ro.kept (Stays.side h hp) (upd_ne hne) fun dx z => by rw [upd_ne (ne_of_none z hp)]; exact z⟩
theorem Ext.new {p : Addr} (hp : H p = none) {o : HO} : Ext φ H (φ ++ [p]) (upd H p o) := by
  refine ⟨⟨[p], rfl, fun a ha => by rw [List.mem_singleton.mp ha]; exact hp⟩, fun a u q _ => ?_, fun a q => ?_⟩
  · rw [upd_ne (ne_of_none q hp)]; exact q
  · by_cases ha : a = p
    · rw [ha, upd_same] at q; cases q
    · rw [upd_ne ha] at q; exact q

theorem MH.get_new_self (m : MH) (o : MO) : (m.new o).get m.sz = some o := by
  unfold MH.new MH.get
  have e : m.sz + 1 - 1 - m.sz = 0 := by omega
  simp [e]
theorem MH.get_new_old {m : MH} {o : MO} {r : Nat} (h : r < m.sz) : (m.new o).get r = m.get r := by
  unfold MH.new MH.get
  have e : m.sz + 1 - 1 - r = (m.sz - 1 - r) + 1 := by omega
  rw [if_pos (Nat.lt_succ_of_lt h), if_pos h]
  show (o :: m.obs)[m.sz + 1 - 1 - r]? = _
  rw [e, List.getElem?_cons_succ]
theorem MH.get_lt {m : MH} {r : Nat} {o : MO} (h : m.get r = some o) : r < m.sz := by
  unfold MH.get at h
  split at h
  · assumption
  · cases h
theorem MH.get_new_some {m : MH} {o o' : MO} {r : Nat} (h : m.get r = some o') : (m.new o).get r = some o' := by
  rw [MH.get_new_old (MH.get_lt h)]; exact h
theorem MH.sz_put (m : MH) (r : Nat) (o : MO) : (m.put r o).sz = m.sz := by
  unfold MH.put; split <;> rfl
theorem MH.get_put_self {m : MH} {r : Nat} {o o' : MO} (h : m.get r = some o') : (m.put r o).get r = some o := by
  have hlt := MH.get_lt h
  unfold MH.get at h
  rw [if_pos hlt] at h
  have hl := (List.getElem?_eq_some_iff.mp h).1
  unfold MH.put MH.get
  rw [if_pos hlt]
  show (if r < m.sz then (m.obs.set (m.sz - 1 - r) o)[m.sz - 1 - r]? else none) = _
  rw [if_pos hlt, List.getElem?_set_self hl]
theorem MH.get_put_ne {m : MH} {r q : Nat} {o : MO} (h : q ≠ r) : (m.put r o).get q = m.get q := by
  unfold MH.put
  split
  · rename_i hr
    unfold MH.get
    by_cases hq : q < m.sz
    · rw [if_pos hq, if_pos hq]
      show (m.obs.set (m.sz - 1 - r) o)[m.sz - 1 - q]? = _
      rw [List.getElem?_set_ne (by omega)]
    · rw [if_neg hq, if_neg hq]
  · rfl

/-- a new tracked thing -/
theorem RH.new (h : RH L φ H m) {p : Addr} (hp : H p = none) {o : HO} {mo : MO} (new : RO L (φ ++ [p]) (upd H p o) p mo) : RH L (φ ++ [p]) (upd H p o) (m.new mo) := by
  have hn := h.notNone hp
  refine ⟨by rw [List.length_append, h.len]; rfl, ?_, fun r a q => ?_⟩
  · rw [List.nodup_append]
    refine ⟨h.nd, by simp, fun a ha b hb => ?_⟩
    rw [List.mem_singleton.mp hb]
    exact fun e => hn (e ▸ ha)
  · by_cases hr : r < φ.length
    · rw [List.getElem?_append_left hr] at q
      obtain ⟨o', g, ro⟩ := h.ob r a q
      have hne : a ≠ p := fun e => hn (e ▸ List.mem_of_getElem? q)
      exact ⟨o', MH.get_new_some g, ro.kept (Stays.new h hp) (upd_ne hne) fun dx z => by rw [upd_ne (ne_of_none z hp)]; exact z⟩
    · have e : r = φ.length := by
        have := (List.getElem?_eq_some_iff.mp q).1
        rw [List.length_append, List.length_singleton] at this
        omega
      subst e
      rw [List.getElem?_append_right (Nat.le_refl _), Nat.sub_self] at q
      cases q
      rw [h.len]
      exact ⟨mo, MH.get_new_self m mo, new⟩
theorem RV.new (h : RH L φ H m) {p : Addr} {H' : Hp} : RV L (φ ++ [p]) H' (.ref m.sz) (.ref p) := by
  refine .ref ?_
  rw [← h.len, List.getElem?_append_right (Nat.le_refl _), Nat.sub_self]
  rfl
/-- a tracked thing is changed -/
theorem Stays.wr (h : RH L φ H m) {r : Nat} {a : Addr} (hr : φ[r]? = some a) {o : HO} : Stays L φ H φ (upd H a o) := by
  have ha := List.mem_of_getElem? hr
  refine ⟨fun _ _ q => q, fun b vs q => ?_, fun b ob vs q => ?_⟩
  · rw [upd_ne (show b ≠ a from fun e => h.noTup q (by rw [e]; exact ha))]; exact q
  · rw [upd_ne (show b ≠ a from fun e => h.noFrz q (by rw [e]; exact ha))]; exact q
theorem Ext.wr (h : RH L φ H m) {r : Nat} {a : Addr} (hr : φ[r]? = some a) {o : HO} : Ext φ H φ (upd H a o) := by
  have ha := List.mem_of_getElem? hr
  refine ⟨⟨[], by simp, by simp⟩, fun b u q hb => ?_, fun b q => ?_⟩
  · rw [upd_ne (show b ≠ a from fun e => hb (by rw [e]; exact ha))]; exact q
  · by_cases hb : b = a
    · rw [hb, upd_same] at q; cases q
    · rw [upd_ne hb] at q; exact q
theorem RH.wr (h : RH L φ H m) {r : Nat} {a : Addr} (hr : φ[r]? = some a) {o : HO} {mo : MO} (new : RO L φ (upd H a o) a mo) : RH L φ (upd H a o) (m.put r mo) := by
  refine ⟨h.len.trans (MH.sz_put m r mo).symm, h.nd, fun q b e => ?_⟩
  obtain ⟨o', g, ro⟩ := h.ob q b e
  by_cases hq : q = r
  · subst hq
    rw [hr] at e; cases e
    exact ⟨mo, MH.get_put_self g, new⟩
  · have hb : b ≠ a := fun z => by
      subst z
      obtain ⟨h1, e1⟩ := List.getElem?_eq_some_iff.mp e
      obtain ⟨h2, e2⟩ := List.getElem?_eq_some_iff.mp hr
      exact hq ((List.getElem_inj h.nd).mp (e1.trans e2.symm))
    refine ⟨o', by rw [MH.get_put_ne hq]; exact g, ro.kept (Stays.wr h hr) (upd_ne hb) fun dx z => ?_⟩
    rw [upd_ne (show dx ≠ a from fun w => h.noOwn z (by rw [w]; exact List.mem_of_getElem? hr))]
    exact z
end
end Mp
end
section
set_option Elab.async false
set_option linter.all false
set_option maxRecDepth 100000
set_option maxHeartbeats 4000000
/-! PySnd2: a run in the model keeps what the evaluator says (Sat); operators by values. -/
namespace Mp
open PySem PySem.Spec PyProof.Rows L2

/-- an exception x, as it lies -/
def RX (L : LC) (φ : List Addr) (H : Hp) (x : Ex) (cls : Value) (d : Option Addr) : Prop :=
  cls = .ref (L.xA x.c) ∧ match x.v with
    | none => d = none
    | some v => ∃ dd w, d = some dd ∧ H dd = some (.xd [(L.xf x.c, w)]) ∧ RV L φ H v w

abbrev Tr (β : Type) := (β → Hp → Prop) → Prop
def Mo {β : Type} (T : Tr β) : Prop := ∀ Q Q' : β → Hp → Prop, (∀ b H, Q b H → Q' b H) → T Q → T Q'
abbrev Rl (α β : Type) := α → β → List Addr → Hp → Prop

def Sat (L : LC) (X : Cx) (σ : L2.St) (φ : List Addr) (H : Hp) {α β : Type} (Rel : Rl α β) (r : Rs α) (T : Tr β) : Prop := match r with
  | .ok a m => T (fun b H' => ∃ φ', Rel a b φ' H' ∧ RH L φ' H' m ∧ Ext φ H φ' H')
  | .exc x m => ∀ W : WX, Takes X W → (∀ cls d φ' H', RX L φ' H' x cls d → RH L φ' H' m → Ext φ H φ' H' → W cls d σ H') → T (fun _ _ => False)
  | .bad => True

section
variable {L : LC} {X : Cx} {σ : L2.St} {φ : List Addr} {H : Hp} {α β γ δ : Type}
theorem Sat.ok {Rel : Rl α β} {a : α} {m : MH} {T : Tr β} (h : T (fun b H' => ∃ φ', Rel a b φ' H' ∧ RH L φ' H' m ∧ Ext φ H φ' H')) : Sat L X σ φ H Rel (.ok a m) T := h
theorem Sat.bad {Rel : Rl α β} {T : Tr β} : Sat L X σ φ H Rel (.bad : Rs α) T := trivial
theorem Sat.imp {Rel : Rl α β} {r : Rs α} {T T' : Tr β} (h : Sat L X σ φ H Rel r T) (k : ∀ Q, T Q → T' Q) : Sat L X σ φ H Rel r T' := by
  cases r with
  | ok a m => exact k _ h
  | exc x m => exact fun W tk hw => k _ (h W tk hw)
  | bad => trivial
theorem Sat.rel {Rel Rel' : Rl α β} {r : Rs α} {T : Tr β} (mo : Mo T) (h : Sat L X σ φ H Rel r T) (k : ∀ a b φ' H' m, Rel a b φ' H' → RH L φ' H' m → Ext φ H φ' H' → Rel' a b φ' H') : Sat L X σ φ H Rel' r T := by
  cases r with
  | ok a m => exact mo _ _ (fun b H' ⟨φ', x, y, z⟩ => ⟨φ', k _ _ _ _ _ x y z, y, z⟩) h
  | exc x m => exact h
  | bad => trivial
theorem Sat.bind {Rel : Rl α β} {Rel2 : Rl γ δ} {r : Rs α} {f : α → MH → Rs γ} {T : Tr β} {T2 : β → Hp → Tr δ} (mo : Mo T) (mo2 : ∀ b H1, Mo (T2 b H1)) (h : Sat L X σ φ H Rel r T)
    (k : ∀ a m, r = .ok a m → ∀ b φ1 H1, Rel a b φ1 H1 → RH L φ1 H1 m → Ext φ H φ1 H1 → Sat L X σ φ1 H1 Rel2 (f a m) (T2 b H1)) :
    Sat L X σ φ H Rel2 (r.bind f) (fun Q => T fun b H1 => T2 b H1 Q) := by
  cases r with
  | bad => trivial
  | exc x m => exact fun W tk hw => mo _ _ (fun _ _ z => z.elim) (h W tk hw)
  | ok a m =>
    have k' := k a m rfl
    show Sat L X σ φ H Rel2 (f a m) _
    revert k'
    cases e : f a m with
    | bad => exact fun _ => trivial
    | ok c m2 =>
      intro k'
      refine mo _ _ (fun b H1 ⟨φ1, q1, q2, q3⟩ => ?_) h
      exact mo2 _ _ _ _ (fun d H2 ⟨φ2, p1, p2, p3⟩ => ⟨φ2, p1, p2, q3.trans p3⟩) (k' b φ1 H1 q1 q2 q3)
    | exc x m2 =>
      intro k' W tk hw
      refine mo _ _ (fun b H1 ⟨φ1, q1, q2, q3⟩ => ?_) h
      exact k' b φ1 H1 q1 q2 q3 W tk fun cls d φ' H' a1 a2 a3 => hw cls d φ' H' a1 a2 (q3.trans a3)
end

/-! ### runs -/
/-- a piece of the model's code that hands back a value, at the slots σ, the heap H -/
def runT (X : Cx) (σ : L2.St) (H : Hp) (c : Sem Value) : Tr V := fun Q => ∀ pins s, Inv X pins σ H s → wpAny (model X.prog X.w) X.A c (EP X pins σ Q) X.xe s
theorem runT.mo {X : Cx} {σ : L2.St} {H : Hp} {c : Sem Value} : Mo (runT X σ H c) := fun Q Q' k h pins s I =>
  thn (h pins s I) fun u s' ⟨v, H', I', r, q⟩ => ⟨v, H', I', r, k _ _ q⟩
/-- an expression -/
def twE (X : Cx) (e : Expr) : TE := fun σ H Q => runT X σ H (eval e X.env) Q
theorem twE.mo {X : Cx} {e : Expr} {σ : L2.St} {H : Hp} : Mo (twE X e σ H) := runT.mo
theorem pe_tw {X : Cx} {e : Expr} : PE X e (twE X e) := ⟨fun pins s σ H Q I h => h pins s I⟩
theorem tw_of {X : Cx} {e : Expr} {t : TE} {σ : L2.St} {H : Hp} {Q : VK} (p : PE X e t) (h : t σ H Q) : twE X e σ H Q := fun pins s I => p.run pins s σ H Q I h
/-- a test -/
def twT (X : Cx) (e : Expr) : TT := fun σ H Q => ∀ pins s, Inv X pins σ H s → wpAny (model X.prog X.w) X.A (isTrue e X.env (eval e X.env)) (TP X pins σ Q) X.xe s
theorem twT.mo {X : Cx} {e : Expr} {σ : L2.St} {H : Hp} : Mo (twT X e σ H) := fun Q Q' k h pins s I => thn (h pins s I) fun u s' ⟨H', I', q⟩ => ⟨H', I', k _ _ q⟩
theorem pt_tw {X : Cx} {e : Expr} : PT X e (twT X e) := ⟨fun pins s σ H Q I h => h pins s I⟩
theorem twT_of {X : Cx} {e : Expr} {t : TT} {σ : L2.St} {H : Hp} {Q : Bool → Hp → Prop} (p : PT X e t) (h : t σ H Q) : twT X e σ H Q := fun pins s I => p.run pins s σ H Q I h
/-- a list of arguments -/
def twA (X : Cx) (es : List Expr) : TA := fun σ H Q => ∀ pos pins s, Inv X pins σ H s → wpAny (model X.prog X.w) X.A (spliced (backTo pos (starEach es X.env))) (AP X pins σ Q) X.xe s
theorem twA.mo {X : Cx} {es : List Expr} {σ : L2.St} {H : Hp} : Mo (twA X es σ H) := fun Q Q' k h pos pins s I => thn (h pos pins s I) fun u s' ⟨vs, H', I', r, q⟩ => ⟨vs, H', I', r, k _ _ q⟩
theorem pa_tw {X : Cx} {es : List Expr} : PA X es (twA X es) := ⟨fun pos pins s σ H Q I h => h pos pins s I⟩
theorem twA_of {X : Cx} {es : List Expr} {t : TA} {σ : L2.St} {H : Hp} {Q : List V → Hp → Prop} (p : PA X es t) (h : t σ H Q) : twA X es σ H Q := fun pos pins s I => p.run pos pins s σ H Q I h
/-- by two values -/
def opT (X : Cx) (_σ : L2.St) (f : Value → Value → Sem Value) (x y : V) (H : Hp) : Tr V := fun Q => ∀ σ v u, RelV x v → RelV y u → runT X σ H (f v u) Q
theorem opT.mo {X : Cx} {σ : L2.St} {f : Value → Value → Sem Value} {x y : V} {H : Hp} : Mo (opT X σ f x y H) := fun Q Q' k h σ v u rv ru => runT.mo _ _ k (h σ v u rv ru)
theorem op_of {X : Cx} {σ : L2.St} {f : Value → Value → Sem Value} {r : R2} {x y : V} {H : Hp} {Q : VK} (o : OpR X f r) (h : r x y H Q) : opT X σ f x y H Q := fun σ v u rv ru pins s I => o pins s σ H x y v u Q I rv ru h
/-- by a list of values -/
def clT (X : Cx) (_σ : L2.St) (f : Value) (xs : List V) (H : Hp) : Tr V := fun Q => ∀ σ us, Vals xs us → runT X σ H (call f us) Q
theorem clT.mo {X : Cx} {σ : L2.St} {f : Value} {xs : List V} {H : Hp} : Mo (clT X σ f xs H) := fun Q Q' k h σ us r => runT.mo _ _ k (h σ us r)
theorem cl_of {X : Cx} {σ : L2.St} {f : Value} {r : List V → Hp → VK → Prop} {xs : List V} {H : Hp} {Q : VK} (o : CallR X f r) (h : r xs H Q) : clT X σ f xs H Q := fun σ us ru pins s I => o pins s σ H xs us Q I ru h
section
variable {L : LC} {X : Cx} {σ : L2.St} {φ : List Addr} {H : Hp} {m : MH}
/-- the relation of values -/
abbrev RVr (L : LC) : Rl D V := fun d v φ H => RV L φ H d v
abbrev RVsr (L : LC) : Rl (List D) (List V) := fun d v φ H => RVs L φ H d v
/-- nothing has changed -/
theorem here {d : D} {v : V} (hm : RH L φ H m) (r : RV L φ H d v) : ∃ φ', RV L φ' H d v ∧ RH L φ' H m ∧ Ext φ H φ' H := ⟨φ, r, hm, .refl⟩
theorem newL (hm : RH L φ H m) {xs : List D} {vs : List V} (r : RVs L φ H xs vs) {p : Addr} (hp : H p = none) :
    ∃ φ', RV L φ' (upd H p (.lst vs)) (.ref m.sz) (.ref p) ∧ RH L φ' (upd H p (.lst vs)) (m.new (.lst xs)) ∧ Ext φ H φ' (upd H p (.lst vs)) :=
  ⟨φ ++ [p], .new hm, hm.new hp ⟨vs, upd_same, r.kept (.new hm hp)⟩, .new hp⟩
theorem newT (hm : RH L φ H m) {xs : List D} {vs : List V} (r : RVs L φ H xs vs) {p : Addr} (hp : H p = none) :
    ∃ φ', RV L φ' (upd H p (.tup vs)) (.tup xs) (.ref p) ∧ RH L φ' (upd H p (.tup vs)) m ∧ Ext φ H φ' (upd H p (.tup vs)) :=
  ⟨φ, .tup upd_same (r.kept (.side hm hp)), hm.side hp, .side hp⟩
theorem KTup.sq {K : PySem.W.Frag} {a : Addr} {vs : List V} (h : KTup K a vs) : SqT K H a vs := .inr h
/-- a list that is to be read -/
theorem lstAt (hm : RH L φ H m) {r : Nat} {a : Addr} (hr : φ[r]? = some a) {xs : List D} (g : m.get r = some (.lst xs)) : ∃ vs, H a = some (.lst vs) ∧ RVs L φ H xs vs := by
  obtain ⟨o, g', ro⟩ := hm.ob r a hr
  rw [g] at g'; cases g'
  exact ro
theorem insAt (hm : RH L φ H m) {r : Nat} {a : Addr} (hr : φ[r]? = some a) {c : Nat} {fs : List (Nat × D)} (g : m.get r = some (.ins c fs)) :
    ∃ dx gs, H a = some (.ins (L.cA c) dx gs) ∧ H dx = some (.own a) ∧ Paired (fun (p : Nat × D) (q : Str × V) => q.1 = L.at_ p.1 ∧ RV L φ H p.2 q.2) fs gs := by
  obtain ⟨o, g', ro⟩ := hm.ob r a hr
  rw [g] at g'; cases g'
  exact ro
theorem seqAt {r : Nat} {xs : List D} (g : m.seq r = some xs) : m.get r = some (.lst xs) := by
  unfold MH.seq at g
  split at g
  · rename_i ys e; cases g; exact e
  · cases g
theorem lineC_eq : lineC = sizeLine := by rw [sizeLine_eq]; rfl

/-! ### binary operators -/
theorem mulOk_ok {i j : Int} (h : mulOk i j = true) : IntMulOk i j := by
  have b : ∀ x : Int, Builtin.Int.intBits x ≤ x.natAbs.log2 + 1 := fun x => by
    unfold Builtin.Int.intBits
    split <;> omega
  have h1 := b i
  have h2 := b j
  have h3 : i.natAbs.log2 + j.natAbs.log2 < 100000000 := of_decide_eq_true h
  have e : bitsLine = 134217728 := by decide
  unfold IntMulOk
  intro z
  rw [Bool.and_eq_true] at z
  have z2 := z.2
  unfold Builtin.Int.intTooBig at z2
  have z3 := of_decide_eq_true z2
  rw [e] at z3
  omega
theorem op_mulM : OpR X (binaryOp .Mult) (rI (fun i j => mulOk i j = true) fun i j => .int (i * j)) := opI fun _ _ _ _ _ _ _ hc q => mul_int q (mulOk_ok hc)
theorem op_fdivM : OpR X (binaryOp .FloorDiv) (rI (fun _ j => j ≠ 0 ∧ j.natAbs.log2 < 9000) fun i j => .int (i.fdiv j)) := opI fun i j _ _ _ _ _ hc q =>
  floordiv_int hc.1 q (.inl (PyProof.noPylong_of_log2 hc.2))
def bopOf : BOp → Operator
  | .add => .Add | .sub => .Sub | .mul => .Mult | .fdiv => .FloorDiv | .mod => .Mod | .pow => .Pow
theorem bopI_ok {o : BOp} {i j k : Int} (h : bopI o i j = some k) {Q : VK} (q : Q (.int k) H) : opT X σ (binaryOp (bopOf o)) (.int i) (.int j) H Q := by
  cases o with
  | add => cases h; exact op_of op_add ⟨i, j, rfl, rfl, q⟩
  | sub => cases h; exact op_of op_sub ⟨i, j, rfl, rfl, q⟩
  | mul =>
    simp only [bopI] at h
    split at h
    · rename_i c; cases h; exact op_of op_mulM ⟨i, j, rfl, rfl, c, q⟩
    · cases h
  | fdiv =>
    simp only [bopI] at h
    split at h
    · rename_i c
      cases h
      rw [Bool.and_eq_true] at c
      exact op_of op_fdivM ⟨i, j, rfl, rfl, ⟨of_decide_eq_true c.1, of_decide_eq_true c.2⟩, q⟩
    · cases h
  | mod =>
    simp only [bopI] at h
    split at h
    · cases h
    · rename_i c; cases h; exact op_of op_modN ⟨i, j, rfl, rfl, c, q⟩
  | pow =>
    simp only [bopI] at h
    split at h
    · rename_i c
      cases h
      rw [Bool.and_eq_true, Bool.and_eq_true] at c
      exact op_of op_pow ⟨i, j, rfl, rfl, ⟨of_decide_eq_true c.1.1, of_decide_eq_true c.1.2, of_decide_eq_true c.2⟩, q⟩
    · cases h
theorem str_len (s : List Nat) : (stOf s).length = s.length := by simp [stOf, Str.length]
theorem stOf_append (s t : List Nat) : stOf s ++ stOf t = stOf (s ++ t) := by
  show (⟨(stOf s).cps ++ (stOf t).cps⟩ : Str) = _
  simp [stOf]

/-- a tuple's items, however it lies -/
theorem RV.tupAt {xs : List D} {v : V} (r : RV L φ H (.tup xs) v) : ∃ a vs, v = .ref a ∧ SqT L.K H a vs ∧ RVs L φ H xs vs := by
  cases r with
  | tup h r => exact ⟨_, _, rfl, .of h, r⟩
  | ktup h k r => exact ⟨_, _, rfl, h.sq, r⟩
theorem RV.fzAt {xs : List D} {v : V} (r : RV L φ H (.fz xs) v) : ∃ a vs, v = .ref a ∧ SqL L.K H a vs ∧ RVs L φ H xs vs := by
  cases r with
  | fz h r => exact ⟨_, _, rfl, h.sq, r⟩

theorem binop_ok (hK : X.K = L.K) {o : BOp} {dx dy : D} {x y : V} (hm : RH L φ H m) (rx : RV L φ H dx x) (ry : RV L φ H dy y) :
    Sat L X σ φ H (RVr L) (binop o dx dy m) (opT X σ (binaryOp (bopOf o)) x y H) := by
  unfold binop
  split
  · cases rx; cases ry
    split
    · rename_i e; exact Sat.ok (bopI_ok e (here hm (.int _)))
    · trivial
  · split
    · split
      · rename_i c
        obtain ⟨a, vs, rfl, ha, ra⟩ := rx.tupAt
        obtain ⟨b, ws, rfl, hb, rb⟩ := ry.tupAt
        rw [← hK] at ha hb
        refine Sat.ok (op_of op_catA ⟨a, b, vs, ws, rfl, rfl, ha, hb, ?_, ?_⟩)
        · rw [← ra.length, ← rb.length, ← lineC_eq]; exact c
        · refine ⟨fun e => ?_, fun _ e => ?_, fun _ _ p hp => newT hm (ra.append rb) hp⟩
          · subst e
            cases ra
            exact here hm ry
          · subst e
            cases rb
            rw [List.append_nil]
            exact here hm rx
      · trivial
    · trivial
  · split
    · split
      · rename_i c
        cases rx; cases ry
        refine Sat.ok (op_of op_add_str ⟨_, _, rfl, rfl, by rw [str_len, str_len, ← lineC_eq]; exact c, ?_⟩)
        rw [stOf_append]
        exact here hm (.str _)
      · trivial
    · trivial
  · split
    · rename_i g1 g2
      split
      · rename_i c
        cases rx with
        | ref hr =>
        cases ry with
        | ref hq =>
        obtain ⟨vs, ha, ra⟩ := lstAt hm hr g1
        obtain ⟨ws, hb, rb⟩ := lstAt hm hq g2
        refine Sat.ok (op_of op_cat ⟨_, _, vs, ws, rfl, rfl, ha, hb, by rw [← ra.length, ← rb.length, ← lineC_eq]; exact c, fun p hp => ?_⟩)
        exact newL hm (ra.append rb) hp
      · trivial
    · trivial
  · split
    · rename_i g1
      split
      · rename_i c
        rw [Bool.and_eq_true, Bool.and_eq_true] at c
        obtain ⟨⟨c1, c2⟩, c3⟩ := c
        have c1 := of_decide_eq_true c1
        have c2 := of_decide_eq_true c2
        have c3 := of_decide_eq_true c3
        cases rx with
        | ref hr =>
        cases ry
        obtain ⟨vs, ha, ra⟩ := lstAt hm hr g1
        refine Sat.ok (op_of op_rep ⟨_, _, vs, rfl, rfl, ha, by omega, by omega, by rw [← ra.length, ← lineC_eq]; exact c3, fun p hp => ?_⟩)
        exact newL hm (ra.rep _) hp
      · trivial
    · trivial
  · split
    · split
      · rename_i c
        rw [Bool.and_eq_true, Bool.and_eq_true, Bool.and_eq_true] at c
        obtain ⟨⟨⟨c0, c1⟩, c2⟩, c3⟩ := c
        have c1 := of_decide_eq_true c1
        have c2 := of_decide_eq_true c2
        have c3 := of_decide_eq_true c3
        cases ry
        obtain ⟨a, vs, rfl, ha, ra⟩ := rx.tupAt
        rw [← hK] at ha
        refine Sat.ok (op_of op_repT ⟨_, _, vs, rfl, rfl, ha, ?_, c1, c2, by rw [← ra.length]; exact c3, fun p hp => newT hm (ra.rep _) hp⟩)
        intro e
        subst e
        cases ra
        simp at c0
      · trivial
    · trivial
  · trivial
end
end Mp
end
section
set_option Elab.async false
set_option linter.all false
set_option maxRecDepth 100000
set_option maxHeartbeats 4000000
/-! PySnd3: equality of data, dicts, comparisons, subscripts, truth, by values. -/
namespace Mp
open PySem PySem.Spec PyProof.Rows L2

section
variable {L : LC} {X : Cx} {σ : L2.St} {φ : List Addr} {H : Hp} {m : MH}

/-! ### data -/
theorem strOk_of {s : List Nat} (h : s.all (· < 0x110000) = true) : PyData.strOk (stOf s) = true := by
  unfold PyData.strOk stOf
  simpa using h
theorem pd_all {n : Nat} (ih : ∀ {d : D} {v : V} {p : PyData}, pd m n d = some p → RV L φ H d v → Dp L.K H v p ∧ p.canLay0 = true ∧ p.depth ≤ n) :
    ∀ {ds : List D} {vs : List V} {ps : List PyData}, mapO (pd m n) ds = some ps → RVs L φ H ds vs → DpAll L.K H vs ps ∧ PyData.canLayAll0 ps = true ∧ PyData.depthAll ps ≤ n
  | [], _, _, h, .nil => by
    cases h
    exact ⟨.nil, rfl, by unfold PyData.depthAll; exact Nat.zero_le _⟩
  | d :: ds, _, ps, h, .cons r t => by
    unfold mapO at h
    split at h
    · rename_i p e1
      split at h
      · rename_i qs e2
        cases h
        obtain ⟨a1, a2, a3⟩ := ih e1 r
        obtain ⟨b1, b2, b3⟩ := pd_all ih e2 t
        refine ⟨.cons a1 b1, by unfold PyData.canLayAll0; rw [a2, b2]; rfl, ?_⟩
        unfold PyData.depthAll
        exact Nat.max_le.mpr ⟨a3, b3⟩
      · cases h
    · cases h
theorem pd_ok (hm : RH L φ H m) : ∀ (n : Nat) {d : D} {v : V} {p : PyData}, pd m n d = some p → RV L φ H d v → Dp L.K H v p ∧ p.canLay0 = true ∧ p.depth ≤ n := by
  intro n
  induction n with
  | zero =>
    intro d v p h r
    cases r <;> simp only [pd] at h
    · cases h; exact ⟨.non, rfl, Nat.le_refl _⟩
    · cases h; exact ⟨.bl _, rfl, Nat.le_refl _⟩
    · cases h; exact ⟨.int _, rfl, Nat.le_refl _⟩
    · split at h
      · rename_i c
        cases h
        exact ⟨.str _, strOk_of c, Nat.le_refl _⟩
      · cases h
    all_goals cases h
  | succ n ih =>
    intro d v p h r
    cases r with
    | non => simp only [pd] at h; cases h; exact ⟨.non, rfl, Nat.zero_le _⟩
    | bl b => simp only [pd] at h; cases h; exact ⟨.bl _, rfl, Nat.zero_le _⟩
    | int b => simp only [pd] at h; cases h; exact ⟨.int _, rfl, Nat.zero_le _⟩
    | str s =>
      simp only [pd] at h
      split at h
      · rename_i c
        cases h
        exact ⟨.str _, strOk_of c, Nat.zero_le _⟩
      · cases h
    | tup g r =>
      simp only [pd] at h
      obtain ⟨ps, e, rfl⟩ := Option.map_eq_some_iff.mp h
      obtain ⟨a1, a2, a3⟩ := pd_all (fun {d v p} => ih) e r
      exact ⟨.tup (.of g) a1, a2, Nat.succ_le_succ a3⟩
    | ktup g k r =>
      simp only [pd] at h
      obtain ⟨ps, e, rfl⟩ := Option.map_eq_some_iff.mp h
      obtain ⟨a1, a2, a3⟩ := pd_all (fun {d v p} => ih) e r
      exact ⟨.tup g.sq a1, a2, Nat.succ_le_succ a3⟩
    | fz g r =>
      simp only [pd] at h
      obtain ⟨ps, e, rfl⟩ := Option.map_eq_some_iff.mp h
      obtain ⟨a1, a2, a3⟩ := pd_all (fun {d v p} => ih) e r
      exact ⟨.lst g.sq a1, a2, Nat.succ_le_succ a3⟩
    | ref hr =>
      simp only [pd] at h
      split at h
      · rename_i xs g
        obtain ⟨ps, e, rfl⟩ := Option.map_eq_some_iff.mp h
        obtain ⟨vs, ha, r⟩ := lstAt hm hr (seqAt g)
        obtain ⟨a1, a2, a3⟩ := pd_all (fun {d v p} => ih) e r
        exact ⟨.lst (.of ha) a1, a2, Nat.succ_le_succ a3⟩
      · cases h
theorem shaped_of {p : PyData} (h1 : p.canLay0 = true) (h2 : p.depth ≤ 64) : SeqAt.shaped p = true := by
  unfold SeqAt.shaped
  rw [h1, decide_eq_true h2]; rfl

/-- == by values -/
theorem eqD_ok (hK : X.K = L.K) (hu : X.A.units + 64 < cLine) {dx dy : D} {x y : V} {b : Bool} (hm : RH L φ H m) (rx : RV L φ H dx x) (ry : RV L φ H dy y) (h : eqD m dx dy = some b)
    {Q : VK} (q : Q (.bl b) H) : opT X σ (compareOp .Eq) x y H Q := by
  unfold eqD at h
  split at h
  · cases rx; cases ry; cases h
    rename_i i j
    refine op_of op_eq ⟨rfl, ?_⟩
    have e : decide (V.int i = V.int j) = decide (i = j) := by rw [dec_int, Bool.beq_eq_decide_eq]
    rw [e]; exact q
  · cases rx; cases ry; cases h
    rename_i i j
    refine op_of op_eq ⟨rfl, ?_⟩
    have e : decide (V.str (stOf i) = V.str (stOf j)) = decide (i = j) := by
      by_cases c : i = j
      · subst c; simp
      · rw [decide_eq_false c, decide_eq_false (fun z => c (stOf_inj (V.str.inj z)))]
    rw [e]; exact q
  · cases rx; cases ry; cases h
    rename_i i j
    refine op_of op_eq ⟨rfl, ?_⟩
    have e : decide (V.bl i = V.bl j) = decide (i = j) := by rw [dec_bl, Bool.beq_eq_decide_eq]
    rw [e]; exact q
  · cases rx; cases ry; cases h
    exact op_of op_eq ⟨rfl, q⟩
  · split at h
    · rename_i e1 e2
      cases h
      obtain ⟨a1, a2, a3⟩ := pd_ok hm 60 e1 rx
      obtain ⟨b1, b2, b3⟩ := pd_ok hm 60 e2 ry
      rw [← hK] at a1 b1
      exact op_of (op_eqD hu) ⟨_, _, a1, b1, shaped_of a2 (by omega), shaped_of b2 (by omega), q⟩
    · cases h
theorem neD_ok (hK : X.K = L.K) (hu : X.A.units + 64 < cLine) {dx dy : D} {x y : V} {b : Bool} (hm : RH L φ H m) (rx : RV L φ H dx x) (ry : RV L φ H dy y) (h : eqD m dx dy = some b)
    {Q : VK} (q : Q (.bl (!b)) H) : opT X σ (compareOp .NotEq) x y H Q := by
  unfold eqD at h
  split at h
  · cases rx; cases ry; cases h
    rename_i i j
    refine op_of op_ne ⟨rfl, ?_⟩
    have e : decide (V.int i = V.int j) = decide (i = j) := by rw [dec_int, Bool.beq_eq_decide_eq]
    rw [e]; exact q
  · cases rx; cases ry; cases h
    rename_i i j
    refine op_of op_ne ⟨rfl, ?_⟩
    have e : decide (V.str (stOf i) = V.str (stOf j)) = decide (i = j) := by
      by_cases c : i = j
      · subst c; simp
      · rw [decide_eq_false c, decide_eq_false (fun z => c (stOf_inj (V.str.inj z)))]
    rw [e]; exact q
  · cases rx; cases ry; cases h
    rename_i i j
    refine op_of op_ne ⟨rfl, ?_⟩
    have e : decide (V.bl i = V.bl j) = decide (i = j) := by rw [dec_bl, Bool.beq_eq_decide_eq]
    rw [e]; exact q
  · cases rx; cases ry; cases h
    exact op_of op_ne ⟨rfl, q⟩
  · split at h
    · rename_i e1 e2
      cases h
      obtain ⟨a1, a2, a3⟩ := pd_ok hm 60 e1 rx
      obtain ⟨b1, b2, b3⟩ := pd_ok hm 60 e2 ry
      rw [← hK] at a1 b1
      exact op_of (op_neD hu) ⟨_, _, a1, b1, shaped_of a2 (by omega), shaped_of b2 (by omega), q⟩
    · cases h

/-! ### keys, dicts -/
theorem RK.beq : ∀ {d d' : D} {k k' : Key}, RK d k → RK d' k' → beqK d d' = decide (k = k')
  | _, _, _, _, .int i, .int j => by
    show (i == j) = _
    rw [key_ll]
  | _, _, _, _, .str s, .str t => by
    show (s == t) = _
    rw [key_rr]
    by_cases c : s = t
    · subst c; simp
    · rw [decide_eq_false (fun z => c (stOf_inj z))]; simp [c]
  | _, _, _, _, .int i, .str t => by rw [key_lr]; rfl
  | _, _, _, _, .str s, .int j => by rw [key_rl]; rfl
theorem RKs.beq : ∀ {ds ds' : List D} {ks ks' : List Key}, RKs ds ks → RKs ds' ks' → beqKs ds ds' = decide (ks = ks')
  | _, _, _, _, .nil, .nil => rfl
  | _, _, _, _, .nil, .cons _ _ => rfl
  | _, _, _, _, .cons _ _, .nil => rfl
  | _, _, _, _, .cons r t, .cons r' t' => by
    unfold beqKs
    rw [RK.beq r r', RKs.beq t t', ← Bool.decide_and]
    apply decide_eq_decide.mpr
    simp
theorem RK.notTup {d : D} {k : Key} (r : RK d k) : isTupK d = false := by cases r <;> rfl
theorem RK.eqK {d d' : D} {k k' : Key} (r : RK d k) (r' : RK d' k') : eqK d d' = decide (k = k') := by
  rw [← RK.beq r r']
  cases r <;> cases r' <;> rfl
theorem flatK_key {d : D} {v : V} (h : flatK d = true) (r : RV L φ H d v) : ∃ k, RK d k ∧ v = kV k := by
  cases r <;> simp only [flatK] at h
  · cases h
  · cases h
  · exact ⟨_, .int _, rfl⟩
  · exact ⟨_, .str _, rfl⟩
  all_goals cases h
theorem flatKs_key : ∀ {ds : List D} {vs : List V}, ds.all flatK = true → RVs L φ H ds vs → ∃ ks, RKs ds ks ∧ vs = ks.map kV
  | _, _, _, .nil => ⟨[], .nil, rfl⟩
  | _, _, h, .cons r t => by
    rw [List.all_cons, Bool.and_eq_true] at h
    obtain ⟨k, a, rfl⟩ := flatK_key h.1 r
    obtain ⟨ks, b, rfl⟩ := flatKs_key h.2 t
    exact ⟨k :: ks, .cons a b, rfl⟩
theorem beqK_refl {d : D} (h : flatK d = true) : beqK d d = true := by
  cases d <;> simp only [flatK] at h <;> first | (simp [beqK]; done) | cases h
theorem beqKs_refl : ∀ {ds : List D}, ds.all flatK = true → beqKs ds ds = true
  | [], _ => rfl
  | d :: ds, h => by
    rw [List.all_cons, Bool.and_eq_true] at h
    unfold beqKs
    rw [beqK_refl h.1, beqKs_refl h.2]; rfl

abbrev PK1 (L : LC) (φ : List Addr) (H : Hp) : D × D → Key × V → Prop := fun p q => RK p.1 q.1 ∧ RV L φ H p.2 q.2
abbrev PK2 (L : LC) (φ : List Addr) (H : Hp) : D × D → List Key × V → Prop := fun p q => (∃ xs, p.1 = .tup xs ∧ RKs xs q.1) ∧ RV L φ H p.2 q.2
theorem look1_ok {x : D} {k : Key} (rk : RK x k) : ∀ {kvs : List (D × D)} {ks : List (Key × V)}, Paired (PK1 L φ H) kvs ks →
    (lookK x kvs = none → valV ks k = none) ∧ ∀ d, lookK x kvs = some d → ∃ v, valV ks k = some v ∧ RV L φ H d v
  | _, _, .nil => ⟨fun _ => rfl, fun _ h => nomatch h⟩
  | (a, b) :: r, (c, d) :: t, .cons h s => by
    obtain ⟨h1, h2⟩ := h
    have e := RK.eqK h1 rk
    have ih := look1_ok rk s
    unfold lookK
    by_cases c' : c = k
    · subst c'
      have e' : Mp.eqK a x = true := by rw [e]; simp
      rw [if_pos e', valV_pos rfl]
      exact ⟨(fun z => nomatch z), fun d' z => by cases z; exact ⟨_, rfl, h2⟩⟩
    · have e' : ¬ Mp.eqK a x = true := by rw [e]; simp [c']
      rw [if_neg e', valV_neg c']
      exact ih
theorem look2_ok {xs : List D} {k : List Key} (rk : RKs xs k) : ∀ {kvs : List (D × D)} {ks : List (List Key × V)}, Paired (PK2 L φ H) kvs ks →
    (lookK (.tup xs) kvs = none → valV ks k = none) ∧ ∀ d, lookK (.tup xs) kvs = some d → ∃ v, valV ks k = some v ∧ RV L φ H d v
  | _, _, .nil => ⟨fun _ => rfl, fun _ h => nomatch h⟩
  | (a, b) :: r, (c, d) :: t, .cons h s => by
    obtain ⟨⟨ys, h1, h3⟩, h2⟩ := h
    have h1 : a = .tup ys := h1
    subst h1
    have e : Mp.eqK (.tup ys) (.tup xs) = decide (c = k) := RKs.beq h3 rk
    have ih := look2_ok rk s
    unfold lookK
    by_cases c' : c = k
    · subst c'
      have e' : Mp.eqK (.tup ys) (.tup xs) = true := by rw [e]; simp
      rw [if_pos e', valV_pos rfl]
      exact ⟨(fun z => nomatch z), fun d' z => by cases z; exact ⟨_, rfl, h2⟩⟩
    · have e' : ¬ Mp.eqK (.tup ys) (.tup xs) = true := by rw [e]; simp [c']
      rw [if_neg e', valV_neg c']
      exact ih

/-- an empty dict is one of each kind -/
theorem dk_dt {pins : List (Addr × Obj)} {s : Shared} {a : Addr} (I : Inv X pins σ H s) (e : H a = some (.dK [])) : Inv X pins σ (upd H a (.dT [])) s := by
  obtain ⟨z1, z2, vs, r, o, es, ep, q1, q2, q3, q4, q5, q6⟩ := I.hok a _ e
  cases r
  have he : es.toList = [] := by
    generalize es.toList = l at q5
    cases q5
    rfl
  have : Inv X pins σ (upd H a (.dT [])) { s with heap := s.heap, toks := s.toks } :=
    I.write (t' := s.toks) (by rw [e]; trivial) (.inl rfl) (fun b u _ w => w) ⟨_, q1⟩ ⟨z1, z2, [], .nil, o, es, ep, q1, q2, q3, by rw [he]; rfl, by simp⟩
  exact this
theorem dt_dk {pins : List (Addr × Obj)} {s : Shared} {a : Addr} (I : Inv X pins σ H s) (e : H a = some (.dT [])) : Inv X pins σ (upd H a (.dK [])) s := by
  obtain ⟨z1, z2, xs, r, o, es, ep, q1, q2, q3, q4, q5⟩ := I.hok a _ e
  cases r
  have he : es = #[] := by
    have : es.toList = [] := q4
    exact Array.toList_eq_nil_iff.mp this
  subst he
  have : Inv X pins σ (upd H a (.dK [])) { s with heap := s.heap, toks := s.toks } :=
    I.write (t' := s.toks) (by rw [e]; trivial) (.inl rfl) (fun b u _ w => w) ⟨_, q1⟩ ⟨z1, z2, [], .nil, o, _, ep, q1, q2, q3, (by intro e he; simp at he), .nil, by simp⟩
  exact this

/-- the heap said otherwise, nothing run -/
structure Cv (X : Cx) (H H1 : Hp) : Prop where
  inv : ∀ pins σ s, Inv X pins σ H s → Inv X pins σ H1 s
theorem Cv.refl : Cv X H H := ⟨fun _ _ _ h => h⟩
theorem runT.cv {H1 : Hp} (c : Cv X H H1) {t : Sem Value} {Q : VK} (h : runT X σ H1 t Q) : runT X σ H t Q := fun pins s I => h pins s (c.inv _ _ _ I)
theorem opT.cv {H1 : Hp} (c : Cv X H H1) {f : Value → Value → Sem Value} {x y : V} {Q : VK} (h : opT X σ f x y H1 Q) : opT X σ f x y H Q := fun σ v u rv ru => runT.cv c (h σ v u rv ru)

/-- a dict and a key of its kind -/
inductive DV (L : LC) (φ : List Addr) (H1 : Hp) (a : Addr) (x : D) (y : V) (kvs : List (D × D)) : Prop
  | k (ks : List (Key × V)) (k : Key) (e : H1 a = some (.dK ks)) (ey : y = kV k) (rk : RK x k) (r : Paired (PK1 L φ H1) kvs ks)
  | t (ks : List (List Key × V)) (k : List Key) (b : Addr) (xs : List D) (e : H1 a = some (.dT ks)) (ey : y = .ref b) (eb : H1 b = some (.tup (k.map kV))) (ex : x = .tup xs) (rk : RKs xs k) (r : Paired (PK2 L φ H1) kvs ks)
theorem Paired.nil_of {α β : Type} {F : α → β → Prop} {ys : List β} (h : Paired F [] ys) : ys = [] := by cases h; rfl
theorem kind_k {kvs : List (D × D)} {ks : List (Key × V)} (h : Paired (PK1 L φ H) kvs ks) : ∀ p ∈ kvs, isTupK p.1 = false := by
  induction h with
  | nil => intro p hp; cases hp
  | cons r t ih =>
    intro p hp
    rcases List.mem_cons.mp hp with rfl | hp
    · exact r.1.notTup
    · exact ih p hp
theorem kind_t {kvs : List (D × D)} {ks : List (List Key × V)} (h : Paired (PK2 L φ H) kvs ks) : ∀ p ∈ kvs, isTupK p.1 = true := by
  induction h with
  | nil => intro p hp; cases hp
  | cons r t ih =>
    intro p hp
    rcases List.mem_cons.mp hp with rfl | hp
    · obtain ⟨⟨xs, e, _⟩, _⟩ := r
      rw [e]; rfl
    · exact ih p hp
theorem dview (hm : RH L φ H m) {r : Nat} {a : Addr} (hr : φ[r]? = some a) {kvs : List (D × D)} (g : m.get r = some (.dct kvs)) {x : D} {y : V} (rx : RV L φ H x y) (hk : kindOk kvs x = true) (hn : keyNew L.kts x = true) :
    ∃ H1, Cv X H H1 ∧ RH L φ H1 m ∧ Ext φ H φ H1 ∧ Stays L φ H φ H1 ∧ DV L φ H1 a x y kvs := by
  obtain ⟨o, g', ro⟩ := hm.ob r a hr
  rw [g] at g'; cases g'
  unfold kindOk at hk
  rw [Bool.and_eq_true] at hk
  obtain ⟨hk1, hk2⟩ := hk
  rw [List.all_eq_true] at hk2
  -- the key's own form
  have key : (∃ k, RK x k ∧ y = kV k) ∨ ∃ xs k b, x = .tup xs ∧ RKs xs k ∧ y = .ref b ∧ H b = some (.tup (k.map kV)) := by
    cases rx with
    | tup hb rs =>
      obtain ⟨ks, q1, q2⟩ := flatKs_key hk1 rs
      subst q2
      exact .inr ⟨_, ks, _, rfl, q1, rfl, hb⟩
    | @ktup xs b vs hb kt rs =>
      exfalso
      have hk1 : xs.all flatK = true := hk1
      have : L.kts.any (Mp.eqK (.tup xs)) = true := List.any_eq_true.mpr ⟨_, kt, beqKs_refl hk1⟩
      unfold keyNew at hn
      rw [this] at hn
      exact absurd hn (by simp [isTupK])
    | non => exact .inl (flatK_key (L := L) (φ := φ) (H := H) hk1 .non)
    | bl b => exact .inl (flatK_key (L := L) (φ := φ) (H := H) hk1 (.bl b))
    | int b => exact .inl (flatK_key (L := L) (φ := φ) (H := H) hk1 (.int b))
    | str b => exact .inl (flatK_key (L := L) (φ := φ) (H := H) hk1 (.str b))
    | fz h rs => exact .inl (flatK_key (L := L) (φ := φ) (H := H) hk1 (.fz h rs))
    | ref h => exact .inl (flatK_key (L := L) (φ := φ) (H := H) hk1 (.ref h))
  rcases key with ⟨k, rk, ey⟩ | ⟨xs, k, b, ex, rk, ey, eb⟩
  · have hx := rk.notTup
    rcases ro with ⟨ks, e, rr⟩ | ⟨ks, e, rr⟩
    · exact ⟨H, .refl, hm, .refl, ⟨fun _ _ q => q, fun _ _ q => q, fun _ _ _ q => q⟩, .k ks k e ey rk rr⟩
    · have : kvs = [] := by
        cases kvs with
        | nil => rfl
        | cons p rest =>
          have q1 := kind_t rr p List.mem_cons_self
          have q2 := hk2 p List.mem_cons_self
          rw [q1, hx] at q2
          cases q2
      subst this
      obtain rfl := Paired.nil_of rr
      refine ⟨upd H a (.dK []), ⟨fun _ _ _ I => dt_dk I e⟩, ?_, .wr hm hr, .wr hm hr, .k [] k upd_same ey rk .nil⟩
      have := hm.wr hr (o := .dK []) (mo := .dct []) (.inl ⟨[], upd_same, .nil⟩)
      refine ⟨this.len.trans (MH.sz_put _ _ _), this.nd, fun q c hq => ?_⟩
      obtain ⟨o', g1, ro'⟩ := this.ob q c hq
      by_cases hqr : q = r
      · subst hqr
        rw [MH.get_put_self g] at g1
        cases g1
        exact ⟨_, g, ro'⟩
      · rw [MH.get_put_ne hqr] at g1
        exact ⟨_, g1, ro'⟩
  · subst ex
    rcases ro with ⟨ks, e, rr⟩ | ⟨ks, e, rr⟩
    · have : kvs = [] := by
        cases kvs with
        | nil => rfl
        | cons p rest =>
          have q1 := kind_k rr p List.mem_cons_self
          have q2 := hk2 p List.mem_cons_self
          rw [q1] at q2
          exact absurd q2 (by simp [isTupK])
      subst this
      obtain rfl := Paired.nil_of rr
      have hst : Stays L φ H φ (upd H a (.dT [])) := .wr hm hr
      refine ⟨upd H a (.dT []), ⟨fun _ _ _ I => dk_dt I e⟩, ?_, .wr hm hr, hst, .t [] k b xs upd_same ey (hst.tup _ _ eb) rfl rk .nil⟩
      have := hm.wr hr (o := .dT []) (mo := .dct []) (.inr ⟨[], upd_same, .nil⟩)
      refine ⟨this.len.trans (MH.sz_put _ _ _), this.nd, fun q c hq => ?_⟩
      obtain ⟨o', g1, ro'⟩ := this.ob q c hq
      by_cases hqr : q = r
      · subst hqr
        rw [MH.get_put_self g] at g1
        cases g1
        exact ⟨_, g, ro'⟩
      · rw [MH.get_put_ne hqr] at g1
        exact ⟨_, g1, ro'⟩
    · exact ⟨H, .refl, hm, .refl, ⟨fun _ _ q => q, fun _ _ q => q, fun _ _ _ q => q⟩, .t ks k b xs e ey eb rfl rk rr⟩
theorem DV.get {a : Addr} {x : D} {y : V} {kvs : List (D × D)} (d : DV L φ H a x y kvs) : ∃ o, DGet H a y o ∧ (lookK x kvs = none → o = none) ∧ ∀ z, lookK x kvs = some z → ∃ v, o = some v ∧ RV L φ H z v := by
  cases d with
  | k ks k e ey rk r =>
    subst ey
    exact ⟨_, .k e, look1_ok rk r⟩
  | t ks k b xs e ey eb ex rk r =>
    subst ey ex
    exact ⟨_, .t e eb, look2_ok rk r⟩
theorem put1_ok {x : D} {k : Key} {w : D} {v : V} (rk : RK x k) (rv : RV L φ H w v) : ∀ {kvs : List (D × D)} {ks : List (Key × V)}, Paired (PK1 L φ H) kvs ks → (ks.map (·.1)).Nodup → Paired (PK1 L φ H) (Mp.putK x w kvs) (L2.putK ks k v)
  | _, _, .nil, _ => .cons ⟨rk, rv⟩ .nil
  | (a, b) :: r, (c, d) :: t, .cons h s, nd => by
    obtain ⟨h1, h2⟩ := h
    have e := RK.eqK h1 rk
    rw [List.map_cons, List.nodup_cons] at nd
    have ih := put1_ok rk rv s nd.2
    unfold Mp.putK
    by_cases c' : c = k
    · subst c'
      have e' : Mp.eqK a x = true := by rw [e]; simp
      rw [if_pos e']
      unfold L2.putK
      have : ((c, d) :: t).any (fun kv => decide (kv.1 = c)) = true := by simp
      rw [if_pos this, List.map_cons]
      have ht : t.map (fun kv => if kv.1 = c then (kv.1, v) else kv) = t := by
        conv => rhs; rw [← List.map_id t]
        refine List.map_congr_left fun p hp => ?_
        rw [if_neg]
        · rfl
        · intro z
          exact nd.1 (z ▸ List.mem_map_of_mem (f := (·.1)) hp)
      rw [ht]
      have e2 : (if ((c, d) : Key × V).1 = c then (((c, d) : Key × V).1, v) else (c, d)) = (c, v) := by simp
      rw [e2]
      exact .cons ⟨h1, rv⟩ s
    · have e' : ¬ Mp.eqK a x = true := by rw [e]; simp [c']
      rw [if_neg e']
      unfold L2.putK at ih ⊢
      have e3 : ((c, d) :: t).any (fun kv => decide (kv.1 = k)) = t.any (fun kv => decide (kv.1 = k)) := by
        rw [List.any_cons]; simp [c']
      rw [e3]
      split
      · rename_i q
        rw [if_pos q] at ih
        rw [List.map_cons]
        have e2 : (if ((c, d) : Key × V).1 = k then (((c, d) : Key × V).1, v) else (c, d)) = (c, d) := by simp [c']
        rw [e2]
        exact .cons ⟨h1, h2⟩ ih
      · rename_i q
        rw [if_neg q] at ih
        exact .cons ⟨h1, h2⟩ ih
theorem put2_ok {xs : List D} {k : List Key} {w : D} {v : V} (rk : RKs xs k) (rv : RV L φ H w v) : ∀ {kvs : List (D × D)} {ks : List (List Key × V)}, Paired (PK2 L φ H) kvs ks → (ks.map (·.1)).Nodup → Paired (PK2 L φ H) (Mp.putK (.tup xs) w kvs) (L2.putK ks k v)
  | _, _, .nil, _ => .cons ⟨⟨_, rfl, rk⟩, rv⟩ .nil
  | (a, b) :: r, (c, d) :: t, .cons h s, nd => by
    obtain ⟨⟨ys, h1, h3⟩, h2⟩ := h
    have h1 : a = .tup ys := h1
    subst h1
    have e : Mp.eqK (.tup ys) (.tup xs) = decide (c = k) := RKs.beq h3 rk
    rw [List.map_cons, List.nodup_cons] at nd
    have ih := put2_ok rk rv s nd.2
    unfold Mp.putK
    by_cases c' : c = k
    · subst c'
      have e' : Mp.eqK (.tup ys) (.tup xs) = true := by rw [e]; simp
      rw [if_pos e']
      unfold L2.putK
      have : ((c, d) :: t).any (fun kv => decide (kv.1 = c)) = true := by simp
      rw [if_pos this, List.map_cons]
      have ht : t.map (fun kv => if kv.1 = c then (kv.1, v) else kv) = t := by
        conv => rhs; rw [← List.map_id t]
        refine List.map_congr_left fun p hp => ?_
        rw [if_neg]
        · rfl
        · intro z
          exact nd.1 (z ▸ List.mem_map_of_mem (f := (·.1)) hp)
      rw [ht]
      have e2 : (if ((c, d) : List Key × V).1 = c then (((c, d) : List Key × V).1, v) else (c, d)) = (c, v) := by simp
      rw [e2]
      exact .cons ⟨⟨_, rfl, h3⟩, rv⟩ s
    · have e' : ¬ Mp.eqK (.tup ys) (.tup xs) = true := by rw [e]; simp [c']
      rw [if_neg e']
      unfold L2.putK at ih ⊢
      have e3 : ((c, d) :: t).any (fun kv => decide (kv.1 = k)) = t.any (fun kv => decide (kv.1 = k)) := by
        rw [List.any_cons]; simp [c']
      rw [e3]
      split
      · rename_i q
        rw [if_pos q] at ih
        rw [List.map_cons]
        have e2 : (if ((c, d) : List Key × V).1 = k then (((c, d) : List Key × V).1, v) else (c, d)) = (c, d) := by simp [c']
        rw [e2]
        exact .cons ⟨⟨_, rfl, h3⟩, h2⟩ ih
      · rename_i q
        rw [if_neg q] at ih
        exact .cons ⟨⟨_, rfl, h3⟩, h2⟩ ih
end
end Mp
end
section
set_option Elab.async false
set_option linter.all false
set_option maxRecDepth 100000
set_option maxHeartbeats 4000000
/-! PySnd4: comparisons, subscripts, truth, built-ins, by values. -/
namespace Mp
open PySem PySem.Spec PyProof.Rows L2

section
variable {L : LC} {X : Cx} {σ : L2.St} {φ : List Addr} {H : Hp} {m : MH}

theorem isSome_of {kvs : List (D × D)} {x : D} {o : Option V} (h1 : lookK x kvs = none → o = none) (h2 : ∀ z, lookK x kvs = some z → ∃ v, o = some v ∧ RV L φ H z v) : (lookK x kvs).isSome = o.isSome := by
  cases e : lookK x kvs with
  | none => rw [h1 e]; rfl
  | some z => obtain ⟨v, e2, _⟩ := h2 z e; rw [e2]; rfl
/-- in, not in -/
theorem inD_ok (hK : X.K = L.K) (hu : X.A.units + 66 < cLine) {dx dy : D} {x y : V} {b : Bool} (hm : RH L φ H m) (rx : RV L φ H dx x) (ry : RV L φ H dy y) (h : isInD L.kts m dx dy = some b) :
    opT X σ (compareOp .In) x y H (fun v H' => v = .bl b ∧ ∃ φ', RH L φ' H' m ∧ Ext φ H φ' H') ∧
      opT X σ (compareOp .NotIn) x y H (fun v H' => v = .bl (!b) ∧ ∃ φ', RH L φ' H' m ∧ Ext φ H φ' H') := by
  unfold isInD at h
  split at h
  · split at h
    · rename_i a bs e1 e2
      cases h
      obtain ⟨c, vs, rfl, hc, rc⟩ := ry.tupAt
      obtain ⟨a1, a2, a3⟩ := pd_ok hm 60 e1 rx
      obtain ⟨b1, b2, b3⟩ := pd_all (fun {d v p} => pd_ok hm 59) e2 rc
      rw [← hK] at a1 b1 hc
      have go : ∀ σ v u, RelV x v → RelV (V.ref c) u → ∀ pins s, Inv X pins σ H s → ∃ as bs', Reads s.heap v a as ∧ Reads s.heap u (.tuple bs) bs' := fun σ v u rv ru pins s I => by
        obtain ⟨as, q1⟩ := Dp.reads I _ _ _ a1 rv
        obtain ⟨cs, q2⟩ := Dp.reads I _ _ _ (Dp.tup hc b1) ru
        exact ⟨as, cs, q1, q2⟩
      have hlt : X.A.units + 1 + min (PyData.depthAll bs) a.depth < cLine := by omega
      refine ⟨fun σ v u rv ru pins s I => ?_, fun σ v u rv ru pins s I => ?_⟩
      · obtain ⟨as, cs, q1, q2⟩ := go σ v u rv ru pins s I
        exact SeqAt.in_tuple_reads q2 q1 b2 a2 hlt ⟨.bl _, H, I, rfl, rfl, φ, hm, .refl⟩
      · obtain ⟨as, cs, q1, q2⟩ := go σ v u rv ru pins s I
        exact SeqAt.notIn_tuple_reads q2 q1 b2 a2 hlt ⟨.bl _, H, I, rfl, rfl, φ, hm, .refl⟩
    · cases h
  · split at h
    · rename_i r _ ys g
      split at h
      · rename_i a bs e1 e2
        cases h
        cases ry with
        | ref hr =>
        rename_i c
        obtain ⟨vs, hc, rc⟩ := lstAt hm hr g
        obtain ⟨a1, a2, a3⟩ := pd_ok hm 60 e1 rx
        obtain ⟨b1, b2, b3⟩ := pd_all (fun {d v p} => pd_ok hm 59) e2 rc
        rw [← hK] at a1 b1
        have go : ∀ σ v u, RelV x v → RelV (V.ref c) u → ∀ pins s, Inv X pins σ H s → ∃ as bs', Reads s.heap v a as ∧ Reads s.heap u (.list bs) bs' := fun σ v u rv ru pins s I => by
          obtain ⟨as, q1⟩ := Dp.reads I _ _ _ a1 rv
          obtain ⟨cs, q2⟩ := Dp.reads I _ _ _ (Dp.lst (.of hc) b1) ru
          exact ⟨as, cs, q1, q2⟩
        have hlt : X.A.units + 1 + min (PyData.depthAll bs) a.depth < cLine := by omega
        refine ⟨fun σ v u rv ru pins s I => ?_, fun σ v u rv ru pins s I => ?_⟩
        · obtain ⟨as, cs, q1, q2⟩ := go σ v u rv ru pins s I
          exact SeqAt.in_list_reads q2 q1 b2 a2 hlt ⟨.bl _, H, I, rfl, rfl, φ, hm, .refl⟩
        · obtain ⟨as, cs, q1, q2⟩ := go σ v u rv ru pins s I
          exact SeqAt.notIn_list_reads q2 q1 b2 a2 hlt ⟨.bl _, H, I, rfl, rfl, φ, hm, .refl⟩
      · cases h
    · rename_i r _ kvs g
      split at h
      · rename_i hk
        cases h
        rw [Bool.and_eq_true] at hk
        cases ry with
        | ref hr =>
        obtain ⟨H1, cv, hm1, ex, st, dv⟩ := dview (X := X) hm hr g rx hk.1 hk.2
        obtain ⟨o, dg, q1, q2⟩ := dv.get
        have e := isSome_of q1 q2
        refine ⟨.cv cv fun σ v u rv ru pins s I => ?_, .cv cv fun σ v u rv ru pins s I => ?_⟩
        · cases ru
          exact d_in (by omega) I dg rv fun s' I' => ⟨.bl o.isSome, H1, I', rfl, by rw [e], φ, hm1, ex⟩
        · cases ru
          exact d_notIn (by omega) I dg rv fun s' I' => ⟨.bl (!o.isSome), H1, I', rfl, by rw [e], φ, hm1, ex⟩
      · cases h
    · cases h
  · cases h

def copOf : COp → CmpOp
  | .eq => .Eq | .ne => .NotEq | .lt => .Lt | .le => .LtE | .gt => .Gt | .ge => .GtE | .isIn => .In | .notIn => .NotIn
theorem lexLt_eq : ∀ xs ys : List Int, lexLt xs ys = HT.lexLt xs ys
  | [], [] => rfl
  | [], _ :: _ => rfl
  | _ :: _, [] => rfl
  | x :: xs, y :: ys => by
    show (if x = y then lexLt xs ys else decide (x < y)) = _
    rw [lexLt_eq xs ys]; rfl
theorem cmpD_ok (hK : X.K = L.K) (hu : X.A.units + 66 < cLine) {o : COp} {dx dy : D} {x y : V} (hm : RH L φ H m) (rx : RV L φ H dx x) (ry : RV L φ H dy y) :
    Sat L X σ φ H (fun (b : Bool) v _ _ => v = .bl b) (Rs.opt (cmpD L.kts m o dx dy) m) (opT X σ (compareOp (copOf o)) x y H) := by
  cases e : cmpD L.kts m o dx dy with
  | none => trivial
  | some b =>
    show opT X σ (compareOp (copOf o)) x y H _
    have ih : ∀ {Q : VK}, ∀ b, Q (.bl b) H → Q (.bl b) H := fun b h => h
    have fin : ∀ b : Bool, (∃ φ', V.bl b = V.bl b ∧ RH L φ' H m ∧ Ext φ H φ' H) := fun b => ⟨φ, rfl, hm, .refl⟩
    cases o with
    | eq => exact eqD_ok hK (by omega) hm rx ry e (fin b)
    | ne =>
      obtain ⟨c, e1, rfl⟩ := Option.map_eq_some_iff.mp e
      exact neD_ok hK (by omega) hm rx ry e1 (fin _)
    | isIn => exact opT.mo _ _ (fun v H' ⟨e, φ', a, b⟩ => ⟨φ', e, a, b⟩) (inD_ok hK hu hm rx ry e).1
    | notIn =>
      obtain ⟨c, e1, rfl⟩ := Option.map_eq_some_iff.mp e
      exact opT.mo _ _ (fun v H' ⟨e, φ', a, b⟩ => ⟨φ', e, a, b⟩) (inD_ok hK hu hm rx ry e1).2
    | lt =>
      simp only [cmpD] at e
      split at e
      · cases rx; cases ry; cases e
        exact op_of op_lt ⟨_, _, rfl, rfl, fin _⟩
      · split at e
        · rename_i e1 e2
          cases e
          obtain ⟨a, vs, rfl, ha, ra⟩ := rx.tupAt
          obtain ⟨c, ws, rfl, hc, rc⟩ := ry.tupAt
          rw [ra.intsD e1] at ha
          rw [rc.intsD e2] at hc
          rw [← hK] at ha hc
          refine op_of (op_ltT (by omega)) ⟨a, c, _, _, rfl, rfl, ha, hc, ?_⟩
          rw [lexLt_eq]
          exact fin _
        · cases e
      · cases e
    | le =>
      simp only [cmpD] at e
      split at e
      · cases rx; cases ry; cases e
        exact op_of op_le ⟨_, _, rfl, rfl, fin _⟩
      · cases e
    | gt =>
      simp only [cmpD] at e
      split at e
      · cases rx; cases ry; cases e
        exact op_of op_gt ⟨_, _, rfl, rfl, fin _⟩
      · cases e
    | ge =>
      simp only [cmpD] at e
      split at e
      · cases rx; cases ry; cases e
        exact op_of op_ge ⟨_, _, rfl, rfl, fin _⟩
      · cases e

/-! ### subscripts -/
/-- value[slice], both evaluated -/
def ixT (X : Cx) (value slice : Expr) (_σ : L2.St) (x y : V) (H : Hp) : Tr V := fun Q => ∀ σ v u, RelV x v → RelV y u → (∀ o i, subscripted slice false o i = operate [o, i] (getItem o i)) → runT X σ H (subscriptTail value slice v u) Q
theorem ixT.mo {value slice : Expr} {x y : V} : Mo (ixT X value slice σ x y H) := fun Q Q' k h σ v u rv ru hs => runT.mo _ _ k (h σ v u rv ru hs)
theorem ix_of {value slice : Expr} {r : R2} {x y : V} {Q : VK} (o : IxR X r) (h : r x y H Q) : ixT X value slice σ x y H Q := fun σ v u rv ru hs pins s I => o value slice pins s σ H x y v u Q I rv ru h (hs v u)
theorem ixOf_eq (n : Nat) (i : Int) : ixOf n i = ixN n i := rfl
theorem atD_ok {xs : List D} {vs : List V} (r : RVs L φ H xs vs) {i : Int} {d : D} (h : atD xs i = some d) : ∃ v, atI vs i = some v ∧ RV L φ H d v := by
  unfold atD at h
  split at h
  · rename_i j e
    obtain ⟨v, h1, h2⟩ := r.get h
    refine ⟨v, ?_, h2⟩
    unfold atI
    rw [← r.length, show ixN xs.length i = some j from e]
    exact h1
  · cases h
theorem getIx_ok (hK : X.K = L.K) (hu : X.A.units + 66 < cLine) {value slice : Expr} {dx dy : D} {x y : V} (hm : RH L φ H m) (rx : RV L φ H dx x) (ry : RV L φ H dy y) :
    Sat L X σ φ H (RVr L) (Rs.opt (getIx L.kts dx dy m) m) (ixT X value slice σ x y H) := by
  cases e : getIx L.kts dx dy m with
  | none => trivial
  | some d =>
    show ixT X value slice σ x y H _
    unfold getIx at e
    split at e
    · obtain ⟨a, vs, rfl, ha, ra⟩ := rx.tupAt
      cases ry
      obtain ⟨v, h1, h2⟩ := atD_ok ra e
      rw [← hK] at ha
      exact ix_of ix_tup ⟨a, vs, _, v, rfl, rfl, ha, h1, here hm h2⟩
    · obtain ⟨a, vs, rfl, ha, ra⟩ := rx.fzAt
      cases ry
      obtain ⟨v, h1, h2⟩ := atD_ok ra e
      rw [← hK] at ha
      exact ix_of ix_list ⟨a, vs, _, v, rfl, rfl, ha, h1, here hm h2⟩
    · split at e
      · rename_i hl
        obtain ⟨c, e1, rfl⟩ := Option.map_eq_some_iff.mp e
        cases rx; cases ry
        refine ix_of ix_str ⟨_, _, c, rfl, rfl, by rw [str_len, ← lineC_eq]; exact hl, ?_, ?_⟩
        · show atI (stOf _).cps.toList _ = some c
          unfold atD at e1
          split at e1
          · rename_i j q
            unfold atI
            have : (stOf ‹List Nat›).cps.toList = ‹List Nat› := by simp [stOf]
            rw [this, show ixN _ _ = some j from q]
            exact e1
          · cases e1
        · exact here hm (.str [c])
      · cases e
    · split at e
      · rename_i g
        split at e
        · cases rx with
          | ref hr =>
          cases ry
          obtain ⟨vs, ha, ra⟩ := lstAt hm hr g
          obtain ⟨v, h1, h2⟩ := atD_ok ra e
          exact ix_of ix_list ⟨_, vs, _, v, rfl, rfl, .of ha, h1, here hm h2⟩
        · cases e
      · rename_i g
        split at e
        · rename_i hk
          rw [Bool.and_eq_true] at hk
          cases rx with
          | ref hr =>
          obtain ⟨H1, cv, hm1, ex, st, dv⟩ := dview (X := X) hm hr g ry hk.1 hk.2
          obtain ⟨o, dg, q1, q2⟩ := dv.get
          obtain ⟨v, rfl, rv⟩ := q2 d e
          intro σ' vv uu rvv ruu hs
          cases rvv
          refine runT.cv cv fun pins s I => ?_
          exact tail_any (dict_typeIs I dg) PySem.F.slot_dict_getitem.lookup (d_getItem (by omega) I dg ruu fun w' s3 I3 rw' => ⟨v, H1, I3, rw', φ, rv, hm1, ex⟩) (hs _ _)
        · cases e
      · cases e
    · cases e

/-! ### truth -/
/-- truth, by a value -/
def trT (X : Cx) (σ : L2.St) (x : V) (H : Hp) : Tr Bool := fun Q => ∀ v, RelV x v → ∀ pins s, Inv X pins σ H s → wpAny (model X.prog X.w) X.A (PySem.truthy v) (TP X pins σ Q) X.xe s
theorem trT.mo {x : V} : Mo (trT X σ x H) := fun Q Q' k h v rv pins s I => thn (h v rv pins s I) fun u s' ⟨H', I', q⟩ => ⟨H', I', k _ _ q⟩
theorem tru_of {x : V} {k : Bool} (h : TruV X.K x H k) {Q : Bool → Hp → Prop} (q : Q k H) : trT X σ x H Q := fun v rv pins s I => tru_ok pins s σ H x v Q I rv ⟨k, h, q⟩
theorem isEmpty_rvs {xs : List D} {vs : List V} (r : RVs L φ H xs vs) : xs.isEmpty = vs.isEmpty := by cases r <;> rfl
theorem isEmpty_prd {α β : Type} {F : α → β → Prop} {xs : List α} {ys : List β} (r : Paired F xs ys) : xs.isEmpty = ys.isEmpty := by cases r <;> rfl
theorem truV_ok (hK : X.K = L.K) {d : D} {x : V} {b : Bool} (hm : RH L φ H m) (r : RV L φ H d x) (e : Mp.truthy m d = some b) : TruV X.K x H b := by
  cases r with
  | non => cases e; exact (rfl : false = false)
  | bl c => cases e; exact (rfl : b = b)
  | int i => cases e; exact (rfl : (i != 0) = (i != 0))
  | str s =>
    simp only [Mp.truthy] at e
    split at e
    · rename_i hl
      cases e
      refine ⟨by rw [str_len, ← lineC_eq]; exact hl, ?_⟩
      rw [str_len]
      cases s <;> simp
      all_goals omega
    · cases e
  | tup h r => cases e; exact .inr (.inl ⟨_, .of h, by rw [isEmpty_rvs r]⟩)
  | ktup h k r => cases e; rw [← hK] at h; exact .inr (.inl ⟨_, h.sq, by rw [isEmpty_rvs r]⟩)
  | fz h r => cases e; rw [← hK] at h; exact .inl ⟨_, h.sq, by rw [isEmpty_rvs r]⟩
  | ref hr =>
    simp only [Mp.truthy] at e
    split at e
    · rename_i g
      cases e
      obtain ⟨vs, ha, ra⟩ := lstAt hm hr g
      exact .inl ⟨_, .of ha, by rw [isEmpty_rvs ra]⟩
    · cases e
theorem truthy_ok (hK : X.K = L.K) {d : D} {x : V} (hm : RH L φ H m) (r : RV L φ H d x) : Sat L X σ φ H (fun (b : Bool) c _ _ => c = b) (tstB m d) (trT X σ x H) := by
  unfold tstB
  cases e : Mp.truthy m d with
  | none => trivial
  | some b => exact tru_of (truV_ok hK hm r e) ⟨φ, rfl, hm, .refl⟩
end
end Mp
end
section
set_option Elab.async false
set_option linter.all false
set_option maxRecDepth 100000
set_option maxHeartbeats 4000000
/-! PySnd5: built-in functions and methods, fields, stores, by values. -/
namespace Mp
open PySem PySem.Spec PyProof.Rows L2

section
variable {L : LC} {X : Cx} {σ : L2.St} {φ : List Addr} {H : Hp} {m : MH}

/-! ### isinstance -/
def tyS : Option Ty → String
  | none => "NoneType" | some .int => "int" | some .bool => "bool" | some .str => "str" | some .list => "list" | some .tuple => "tuple" | some .dict => "dict"
def tyLeO : Option Ty → Ty → Bool
  | some t, u => tyLe t u
  | none, _ => false
theorem kitB_ty (t : Option Ty) (u : Ty) : kitB (tyS t) (tyS (some u)) = some (tyLeO t u) := by
  cases t with
  | none => cases u <;> decide +kernel
  | some t => cases t <;> cases u <;> decide +kernel
theorem kitAny_ty (K : PySem.W.Frag) (t : Option Ty) : ∀ ts : List Ty, PySem.W.kitAny K (.type (tyS t)) (ts.map fun u => Value.type (tyS (some u))) = some (ts.any (tyLeO t))
  | [] => kitAny_nil
  | u :: ts => by
    have h := kit_ty (K := K) (kitB_ty t u)
    refine kitAny_cons h (fun e => ?_) (fun e => ?_)
    · rw [List.any_cons, e, Bool.false_or]; exact kitAny_ty K t ts
    · rw [List.any_cons, e, Bool.true_or]
theorem tyX_of (hK : X.K = L.K) {d : D} {x : V} (hm : RH L φ H m) (r : RV L φ H d x) {t : Option Ty} (h : tyD d m = some t) : TyX X.K H x (.type (tyS t)) := by
  cases r with
  | non => cases h; exact .base .non
  | bl b => cases h; exact .base (.bl b)
  | int b => cases h; exact .base (.int b)
  | str b => cases h; exact .base (.str _)
  | tup g r => cases h; exact .base (.tup g)
  | ktup g k r =>
    cases h
    obtain ⟨o, its, n, q1, q2, _⟩ := g
    rw [← hK] at q1
    exact .kTuple q1 q2
  | fz g r =>
    cases h
    rw [← hK] at g
    rcases g with ⟨o, g⟩ | ⟨o, its, n, q1, q2, _⟩
    · exact .base (.frz g)
    · exact .kList q1 q2
  | ref hr =>
    simp only [tyD] at h
    split at h
    · rename_i g
      cases h
      obtain ⟨vs, ha, ra⟩ := lstAt hm hr g
      exact .base (.lst ha)
    · rename_i g
      cases h
      obtain ⟨o, g', ro⟩ := hm.ob _ _ hr
      rw [g] at g'; cases g'
      rcases ro with ⟨ks, ha, ra⟩ | ⟨ks, ha, ra⟩
      · exact .base (.dK ha)
      · exact .base (.dT ha)
    · cases h
theorem isiD_ty {d : D} {ts : List Ty} {b : Bool} (h : isiD d ts m = some b) : ∃ t, tyD d m = some t ∧ b = ts.any (tyLeO t) := by
  unfold isiD at h
  split at h
  · rename_i t e; cases h; exact ⟨_, e, rfl⟩
  · rename_i e
    cases h
    refine ⟨_, e, ?_⟩
    have : ∀ ts : List Ty, ts.any (tyLeO none) = false := fun ts => by
      induction ts with
      | nil => rfl
      | cons t ts ih => rw [List.any_cons, ih]; rfl
    rw [this]
  · cases h

/-! ### built-in functions -/
def bfVal : BF → Value
  | .len => .builtin "len" | .abs => .builtin "abs" | .int => .type "int" | .tuple => .type "tuple" | .list => .type "list"
  | .sum => .builtin "sum" | .all => .builtin "all" | .any => .builtin "any" | .max => .builtin "max" | .min => .builtin "min"
  | .sorted => .builtin "sorted" | .gcd => .builtin "math.gcd" | .dict => .type "dict"
theorem maxI_spec : ∀ (ns : List Int) (n : Int), maxI n ns ∈ n :: ns ∧ ∀ y ∈ n :: ns, y ≤ maxI n ns
  | [], n => ⟨by simp [maxI], by simp [maxI]⟩
  | j :: r, n => by
    unfold maxI
    by_cases c : n < j
    · rw [if_pos c]
      obtain ⟨h1, h2⟩ := maxI_spec r j
      have hj := h2 j List.mem_cons_self
      refine ⟨List.mem_cons_of_mem _ h1, fun y hy => ?_⟩
      rcases List.mem_cons.mp hy with e | hy
      · omega
      · exact h2 y hy
    · rw [if_neg c]
      obtain ⟨h1, h2⟩ := maxI_spec r n
      have hj := h2 n List.mem_cons_self
      refine ⟨?_, fun y hy => ?_⟩
      · rcases List.mem_cons.mp h1 with e | e
        · rw [e]; exact List.mem_cons_self
        · exact List.mem_cons_of_mem _ (List.mem_cons_of_mem _ e)
      · rcases List.mem_cons.mp hy with e | hy
        · omega
        · rcases List.mem_cons.mp hy with e | hy
          · omega
          · exact h2 y (List.mem_cons_of_mem _ hy)
theorem minI_spec : ∀ (ns : List Int) (n : Int), minI n ns ∈ n :: ns ∧ ∀ y ∈ n :: ns, minI n ns ≤ y
  | [], n => ⟨by simp [minI], by simp [minI]⟩
  | j :: r, n => by
    unfold minI
    by_cases c : j < n
    · rw [if_pos c]
      obtain ⟨h1, h2⟩ := minI_spec r j
      have hj := h2 j List.mem_cons_self
      refine ⟨List.mem_cons_of_mem _ h1, fun y hy => ?_⟩
      rcases List.mem_cons.mp hy with e | hy
      · omega
      · exact h2 y hy
    · rw [if_neg c]
      obtain ⟨h1, h2⟩ := minI_spec r n
      have hj := h2 n List.mem_cons_self
      refine ⟨?_, fun y hy => ?_⟩
      · rcases List.mem_cons.mp h1 with e | e
        · rw [e]; exact List.mem_cons_self
        · exact List.mem_cons_of_mem _ (List.mem_cons_of_mem _ e)
      · rcases List.mem_cons.mp hy with e | hy
        · omega
        · rcases List.mem_cons.mp hy with e | hy
          · omega
          · exact h2 y (List.mem_cons_of_mem _ hy)
theorem insI_perm (x : Int) : ∀ l : List Int, (insI x l).Perm (x :: l)
  | [] => .refl _
  | y :: r => by
    unfold insI
    split
    · exact .refl _
    · exact ((insI_perm x r).cons y).trans (.swap x y r)
theorem sortI_perm : ∀ l : List Int, (sortI l).Perm l
  | [] => .refl _
  | x :: r => (insI_perm x _).trans ((sortI_perm r).cons x)
theorem insI_sorted (x : Int) : ∀ l : List Int, l.Pairwise (· ≤ ·) → (insI x l).Pairwise (· ≤ ·)
  | [], _ => by simp [insI]
  | y :: r, h => by
    rw [List.pairwise_cons] at h
    unfold insI
    split
    · rename_i c
      refine List.pairwise_cons.mpr ⟨fun z hz => ?_, List.pairwise_cons.mpr h⟩
      rcases List.mem_cons.mp hz with rfl | hz
      · exact c
      · exact Int.le_trans c (h.1 z hz)
    · rename_i c
      refine List.pairwise_cons.mpr ⟨fun z hz => ?_, insI_sorted x r h.2⟩
      rcases List.mem_cons.mp ((insI_perm x r).mem_iff.mp hz) with rfl | hz
      · omega
      · exact h.1 z hz
theorem sortI_sorted : ∀ l : List Int, (sortI l).Pairwise (· ≤ ·)
  | [] => .nil
  | x :: r => insI_sorted x _ (sortI_sorted r)
theorem sorted_one : ∀ {l r : List Int}, l.Perm r → l.Pairwise (· ≤ ·) → r.Pairwise (· ≤ ·) → l = r := fun {l r} p hl hr =>
  p.eq_of_pairwise (fun a b _ _ h1 h2 => Int.le_antisymm h1 h2) hl hr

theorem rvs1 {d : D} {vs : List V} (r : RVs L φ H [d] vs) : ∃ v, vs = [v] ∧ RV L φ H d v := by
  cases r with
  | cons a b => cases b; exact ⟨_, rfl, a⟩
theorem rvs2 {d e : D} {vs : List V} (r : RVs L φ H [d, e] vs) : ∃ v w, vs = [v, w] ∧ RV L φ H d v ∧ RV L φ H e w := by
  cases r with
  | cons a b =>
    obtain ⟨w, rfl, q⟩ := rvs1 b
    exact ⟨_, _, rfl, a, q⟩
theorem lenD_ok (hK : X.K = L.K) {d : D} {x : V} (hm : RH L φ H m) (r : RV L φ H d x) {n : Nat} (h : lenD d m = some n) {Q : VK} (q : Q (.int n) H) : clT X σ (.builtin "len") [x] H Q := by
  cases r with
  | non => cases h
  | bl b => cases h
  | int b => cases h
  | str s =>
    simp only [lenD] at h
    split at h
    · rename_i c
      cases h
      refine cl_of call_len ⟨_, _, rfl, ⟨by rw [str_len, ← lineC_eq]; exact c, rfl⟩, ?_⟩
      rw [str_len]; exact q
    · cases h
  | tup g r =>
    cases h
    refine cl_of call_len ⟨_, _, rfl, .inr ⟨_, .of g, rfl⟩, ?_⟩
    rw [← r.length]; exact q
  | ktup g k r =>
    cases h
    rw [← hK] at g
    refine cl_of call_len ⟨_, _, rfl, .inr ⟨_, g.sq, rfl⟩, ?_⟩
    rw [← r.length]; exact q
  | fz g r =>
    cases h
    rw [← hK] at g
    refine cl_of call_len ⟨_, _, rfl, .inl ⟨_, g.sq, rfl⟩, ?_⟩
    rw [← r.length]; exact q
  | ref hr =>
    simp only [lenD] at h
    split at h
    · rename_i g
      cases h
      obtain ⟨vs, ha, ra⟩ := lstAt hm hr g
      refine cl_of call_len ⟨_, _, rfl, .inl ⟨_, .of ha, rfl⟩, ?_⟩
      rw [← ra.length]; exact q
    · rename_i g
      cases h
      obtain ⟨o, g', ro⟩ := hm.ob _ _ hr
      rw [g] at g'; cases g'
      rcases ro with ⟨ks, ha, ra⟩ | ⟨ks, ha, ra⟩
      · intro σ' us ru pins s I
        obtain ⟨u, rfl, e⟩ := vals1 ru
        cases e
        have hl := Paired.length ra
        refine d_len I (.inl ha) fun t s' I' => ⟨.int _, H, I', ⟨t, rfl⟩, ?_⟩
        rw [← hl]; exact q
      · have hl := Paired.length ra
        refine cl_of call_len_dT ⟨_, ks, rfl, ha, ?_⟩
        rw [← hl]; exact q
    · cases h
theorem newD (hm : RH L φ H m) {a : Addr} {kvs : List (D × D)} {ks : List (Key × V)} (r : Paired (PK1 L φ H) kvs ks) {p : Addr} (hp : H p = none) :
    ∃ φ', RV L φ' (upd H p (.dK ks)) (.ref m.sz) (.ref p) ∧ RH L φ' (upd H p (.dK ks)) (m.new (.dct kvs)) ∧ Ext φ H φ' (upd H p (.dK ks)) :=
  ⟨φ ++ [p], .new hm, hm.new hp (.inl ⟨ks, upd_same, Paired.mapP r fun _ _ z => ⟨z.1, z.2.kept (.new hm hp)⟩⟩), .new hp⟩
theorem bfItems_ok (hK : X.K = L.K) (hc : X.calm = true) {b : BF} {xs : List D} {a : Addr} {vs : List V} (hm : RH L φ H m) (ha : SqL X.K H a vs) (r : RVs L φ H xs vs) :
    Sat L X σ φ H (RVr L) (bfItems b xs m) (clT X σ (bfVal b) [.ref a] H) := by
  unfold bfItems
  split
  · exact Sat.ok (cl_of call_tuple_of ⟨a, vs, rfl, .inl ⟨ha, fun p hp => newT hm r hp⟩⟩)
  · exact Sat.ok (cl_of call_list_of ⟨a, vs, rfl, .inl ha, fun p hp => newL hm r hp⟩)
  · refine Sat.ok (cl_of call_len ⟨_, _, rfl, .inl ⟨_, ha, rfl⟩, ?_⟩)
    rw [← r.length]
    exact here hm (.int _)
  · split
    · rename_i ns e
      rw [r.intsD e] at ha
      exact Sat.ok (cl_of (cr_sum hc) ⟨a, ns, rfl, ha, here hm (.int _)⟩)
    · trivial
  · split
    · rename_i bs e
      rw [r.bools e] at ha
      exact Sat.ok (cl_of (cr_all hc) ⟨a, bs, rfl, ha, here hm (.bl _)⟩)
    · trivial
  · split
    · rename_i bs e
      rw [r.bools e] at ha
      exact Sat.ok (cl_of (cr_any hc) ⟨a, bs, rfl, ha, here hm (.bl _)⟩)
    · trivial
  · split
    · rename_i n ns e
      rw [r.intsD e] at ha
      refine Sat.ok (cl_of (cr_max hc) ⟨a, _, rfl, ha, by simp, fun w h1 h2 => ?_⟩)
      obtain ⟨q1, q2⟩ := maxI_spec ns n
      have : w = maxI n ns := Int.le_antisymm (q2 w h1) (h2 _ q1)
      rw [this]
      exact here hm (.int _)
    · trivial
  · split
    · rename_i n ns e
      rw [r.intsD e] at ha
      refine Sat.ok (cl_of (cr_min hc) ⟨a, _, rfl, ha, by simp, fun w h1 h2 => ?_⟩)
      obtain ⟨q1, q2⟩ := minI_spec ns n
      have : w = minI n ns := Int.le_antisymm (h2 _ q1) (q2 w h1)
      rw [this]
      exact here hm (.int _)
    · trivial
  · split
    · rename_i ns e
      rw [r.intsD e] at ha
      refine Sat.ok (cl_of cr_sortedI ⟨a, ns, rfl, ha, fun ns' p h1 h2 hp => ?_⟩)
      have : ns' = sortI ns := sorted_one (h1.trans (sortI_perm ns).symm) h2 (sortI_sorted ns)
      subst this
      exact newL hm (.ofInts _) hp
    · trivial
  · trivial
theorem bfD_ok (hK : X.K = L.K) (hc : X.calm = true) {b : BF} {xs : List D} {vs : List V} (hm : RH L φ H m) (r : RVs L φ H xs vs) :
    Sat L X σ φ H (RVr L) (bfD b xs m) (clT X σ (bfVal b) vs H) := by
  unfold bfD
  split
  · split
    · rename_i n e
      obtain ⟨v, rfl, rv⟩ := rvs1 r
      exact Sat.ok (lenD_ok hK hm rv e (here hm (.int _)))
    · trivial
  · obtain ⟨v, rfl, rv⟩ := rvs1 r
    cases rv
    exact Sat.ok (cl_of call_abs ⟨_, rfl, here hm (.int _)⟩)
  · obtain ⟨v, rfl, rv⟩ := rvs1 r
    cases rv
    exact Sat.ok (cl_of call_int1 (.inl ⟨_, rfl, here hm (.int _)⟩))
  · obtain ⟨v, rfl, rv⟩ := rvs1 r
    cases rv
    exact Sat.ok (cl_of call_int1 (.inr ⟨_, rfl, here hm (.int _)⟩))
  · obtain ⟨v, w, rfl, rv, rw'⟩ := rvs2 r
    cases rv; cases rw'
    exact Sat.ok (cl_of cr_gcd ⟨_, _, rfl, here hm (.int _)⟩)
  · obtain ⟨v, w, rfl, rv, rw'⟩ := rvs2 r
    cases rv; cases rw'
    exact Sat.ok (cl_of (call_max2 hc) ⟨_, _, rfl, here hm (.int _)⟩)
  · obtain ⟨v, w, rfl, rv, rw'⟩ := rvs2 r
    cases rv; cases rw'
    exact Sat.ok (cl_of (call_min2 hc) ⟨_, _, rfl, here hm (.int _)⟩)
  · obtain ⟨v, rfl, rv⟩ := rvs1 r
    obtain ⟨a, ws, rfl, ha, ra⟩ := rv.tupAt
    rw [← hK] at ha
    exact Sat.ok (cl_of call_tuple_of ⟨a, ws, rfl, .inr ⟨ha, here hm rv⟩⟩)
  · obtain ⟨v, rfl, rv⟩ := rvs1 r
    obtain ⟨a, ws, rfl, ha, ra⟩ := rv.fzAt
    rw [← hK] at ha
    exact Sat.ok (cl_of call_tuple_of ⟨a, ws, rfl, .inl ⟨ha, fun p hp => newT hm ra hp⟩⟩)
  · split
    · rename_i ys e
      obtain ⟨v, rfl, rv⟩ := rvs1 r
      cases rv with
      | ref hr =>
      obtain ⟨ws, ha, ra⟩ := lstAt hm hr (seqAt e)
      exact Sat.ok (cl_of call_tuple_of ⟨_, ws, rfl, .inl ⟨.of ha, fun p hp => newT hm ra hp⟩⟩)
    · trivial
  · obtain ⟨v, rfl, rv⟩ := rvs1 r
    obtain ⟨a, ws, rfl, ha, ra⟩ := rv.tupAt
    rw [← hK] at ha
    exact Sat.ok (cl_of call_list_of ⟨a, ws, rfl, .inr ha, fun p hp => newL hm ra hp⟩)
  · obtain ⟨v, rfl, rv⟩ := rvs1 r
    obtain ⟨a, ws, rfl, ha, ra⟩ := rv.fzAt
    rw [← hK] at ha
    exact Sat.ok (cl_of call_list_of ⟨a, ws, rfl, .inl ha, fun p hp => newL hm ra hp⟩)
  · split
    · rename_i ys e
      obtain ⟨v, rfl, rv⟩ := rvs1 r
      cases rv with
      | ref hr =>
      obtain ⟨ws, ha, ra⟩ := lstAt hm hr (seqAt e)
      exact Sat.ok (cl_of call_list_of ⟨_, ws, rfl, .inl (.of ha), fun p hp => newL hm ra hp⟩)
    · trivial
  · split
    · rename_i g
      split
      · rename_i hk
        obtain ⟨v, rfl, rv⟩ := rvs1 r
        cases rv with
        | ref hr =>
        obtain ⟨o, g', ro⟩ := hm.ob _ _ hr
        rw [g] at g'; cases g'
        rcases ro with ⟨ks, ha, ra⟩ | ⟨ks, ha, ra⟩
        · exact Sat.ok (cl_of call_dictD ⟨_, ks, rfl, .inl ha, fun p hp => newD (a := p) hm ra hp⟩)
        · exfalso
          cases ra with
          | nil => simp at hk
          | cons h t =>
            obtain ⟨⟨xs, e, _⟩, _⟩ := h
            rw [List.all_cons, e] at hk
            simp [isTupK] at hk
      · trivial
    · trivial
  · trivial
  · trivial
  · trivial
  · split
    · rename_i g
      obtain ⟨v, rfl, rv⟩ := rvs1 r
      cases rv with
      | ref hr =>
      obtain ⟨ws, ha, ra⟩ := lstAt hm hr g
      exact bfItems_ok hK hc hm (.of ha) ra
    · trivial
  · trivial
end
end Mp
end
section
set_option Elab.async false
set_option linter.all false
set_option maxRecDepth 100000
set_option maxHeartbeats 4000000
/-! PySnd6: methods of lists and dicts, fields, stores, by values. -/
namespace Mp
open PySem PySem.Spec PyProof.Rows L2

section
variable {L : LC} {X : Cx} {σ : L2.St} {φ : List Addr} {H : Hp} {m : MH}

def bmId : BM → String
  | .append => "list.append" | .extend => "list.extend" | .pop => "list.pop" | .index => "list.index" | .get => "dict.get"
  | .items => "dict.items" | .values => "dict.values" | .keys => "dict.keys" | .setdefault => "dict.setdefault"
def bmT : BM → String
  | .append => "list" | .extend => "list" | .pop => "list" | .index => "list" | _ => "dict"
def bmN : BM → Str
  | .append => "append" | .extend => "extend" | .pop => "pop" | .index => "index" | .get => "get"
  | .items => "items" | .values => "values" | .keys => "keys" | .setdefault => "setdefault"
def mtT (X : Cx) (_σ : L2.St) (id : String) (x : V) (xs : List V) (H : Hp) : Tr V := fun Q => ∀ σ v us, RelV x v → Vals xs us → runT X σ H (call (.builtin id) (v :: us)) Q
theorem mtT.mo {id : String} {x : V} {xs : List V} : Mo (mtT X σ id x xs H) := fun Q Q' k h σ v us rv ru => runT.mo _ _ k (h σ v us rv ru)
theorem mt_of {id : String} {r : V → List V → Hp → VK → Prop} {x : V} {xs : List V} {Q : VK} (o : MtR X id r) (h : r x xs H Q) : mtT X σ id x xs H Q := fun σ v us rv ru pins s I => o pins s σ H x xs v us Q I rv ru h
theorem bmTy_ok {b : BM} {d : D} {x : V} (hm : RH L φ H m) (r : RV L φ H d x) (h : bmTy b d m = true) : tyV X.K (bmT b) x H := by
  unfold bmTy at h
  split at h
  · cases r with
    | ref hr =>
    have lst : ∀ {xs : List D}, m.get _ = some (.lst xs) → (("list" : String) = "list" ∧ ∃ ys, SqL X.K H _ ys) := fun g => by
      obtain ⟨vs, ha, _⟩ := lstAt hm hr g
      exact ⟨rfl, vs, .of ha⟩
    split at h
    · rename_i g; exact .inl (lst g)
    · rename_i g; exact .inl (lst g)
    · rename_i g; exact .inl (lst g)
    · rename_i g; exact .inl (lst g)
    · rename_i g
      obtain ⟨o, g', ro⟩ := hm.ob _ _ hr
      rw [g] at g'; cases g'
      refine .inr (.inr (.inl ⟨rfl, ?_⟩))
      rcases ro with ⟨ks, ha, _⟩ | ⟨ks, ha, _⟩
      · exact .inl ⟨_, ha⟩
      · exact .inr ⟨_, ha⟩
    · cases h
  · cases h
theorem firstAt_ok {h : MH} {a : PyData} : ∀ (bs : List PyData) (i j : Nat), firstAt h a i bs = some j → ∃ k z, j = i + k ∧ bs[k]? = some z ∧ PyData.eqv z a = true ∧ ∀ (q : Nat) (z' : PyData), q < k → bs[q]? = some z' → PyData.eqv z' a = false
  | [], _, _, e => by cases e
  | b :: r, i, j, e => by
    unfold firstAt at e
    split at e
    · rename_i c
      cases e
      exact ⟨0, b, rfl, rfl, c, fun q z' hq => absurd hq (by omega)⟩
    · rename_i c
      obtain ⟨k, z, e1, e2, e3, e4⟩ := firstAt_ok r (i + 1) j e
      refine ⟨k + 1, z, by omega, by simpa using e2, e3, fun q z' hq hz => ?_⟩
      cases q with
      | zero => simp at hz; subst hz; simpa using c
      | succ q => exact e4 q z' (by omega) (by simpa using hz)
theorem wrL (hm : RH L φ H m) {r : Nat} {a : Addr} (hr : φ[r]? = some a) {xs : List D} {vs : List V} (rr : RVs L φ H xs vs) :
    RH L φ (upd H a (.lst vs)) (m.put r (.lst xs)) ∧ Ext φ H φ (upd H a (.lst vs)) :=
  ⟨hm.wr hr ⟨vs, upd_same, rr.kept (.wr hm hr)⟩, .wr hm hr⟩
theorem bmD_ok (hK : X.K = L.K) (hu : X.A.units + 66 < cLine) {b : BM} {dx : D} {x : V} {xs : List D} {vs : List V} (hm : RH L φ H m) (rx : RV L φ H dx x) (rs : RVs L φ H xs vs) :
    Sat L X σ φ H (RVr L) (bmD L.kts b dx xs m) (mtT X σ (bmId b) x vs H) := by
  unfold bmD
  split
  · cases rx with
    | ref hr =>
    rename_i a
    split
    · rename_i g
      split
      · rename_i c
        obtain ⟨y, rfl, ry⟩ := rvs1 rs
        obtain ⟨ws, ha, ra⟩ := lstAt hm hr g
        obtain ⟨q1, q2⟩ := wrL hm hr (ra.append (.cons ry .nil))
        refine Sat.ok (mt_of mt_append ⟨a, ws, y, rfl, rfl, ha, by rw [← ra.length, ← lineC_eq]; exact c, φ, .non, q1, q2⟩)
      · trivial
    · rename_i g
      split
      · rename_i g2
        split
        · rename_i c
          obtain ⟨y, rfl, ry⟩ := rvs1 rs
          cases ry with
          | ref hq =>
          obtain ⟨ws, ha, ra⟩ := lstAt hm hr g
          obtain ⟨zs, hb, rb⟩ := lstAt hm hq g2
          obtain ⟨q1, q2⟩ := wrL hm hr (ra.append rb)
          refine Sat.ok (mt_of mt_extend ⟨a, _, ws, zs, rfl, rfl, ha, hb, by rw [← ra.length, ← rb.length, ← lineC_eq]; exact c, φ, .non, q1, q2⟩)
        · trivial
      · trivial
    · rename_i g
      split
      · rename_i y e
        cases rs
        obtain ⟨ws, ha, ra⟩ := lstAt hm hr g
        rw [ra.length] at e
        obtain ⟨v, e1, rv⟩ := ra.get e
        obtain ⟨q1, q2⟩ := wrL hm hr ra.dropLast
        refine Sat.ok (mt_of mt_pop ⟨a, ws, v, rfl, rfl, ha, e1, φ, rv.kept (.wr hm hr), q1, q2⟩)
      · trivial
    · rename_i g
      split
      · rename_i p bs e1 e2
        split
        · rename_i j e3
          obtain ⟨y, rfl, ry⟩ := rvs1 rs
          obtain ⟨ws, ha, ra⟩ := lstAt hm hr g
          obtain ⟨a1, a2, a3⟩ := pd_ok hm 60 e1 ry
          obtain ⟨b1, b2, b3⟩ := pd_all (fun {d v p} => pd_ok hm 59) e2 ra
          obtain ⟨k, z, e4, e5, e6, e7⟩ := firstAt_ok bs 0 j e3
          rw [Nat.zero_add] at e4
          subst e4
          rw [← hK] at a1 b1
          refine Sat.ok (mt_of (mt_indexD (by omega)) ⟨a, y, p, bs, j, z, rfl, rfl, .lst (.of ha) b1, a1, shaped_of (p := .list bs) b2 ?_, shaped_of a2 (by omega), e5, e6, e7, here hm (.int _)⟩)
          unfold PyData.depth
          omega
        · trivial
      · trivial
    · rename_i g
      split
      · rename_i hk
        rw [Bool.and_eq_true] at hk
        obtain ⟨y, rfl, ry⟩ := rvs1 rs
        obtain ⟨H1, cv, hm1, ex, st, dv⟩ := dview (X := X) hm hr g ry hk.1 hk.2
        obtain ⟨o, dg, q1, q2⟩ := dv.get
        refine Sat.ok fun σ' v us rv ru => runT.cv cv fun pins s I => ?_
        cases rv
        obtain ⟨u, rfl, rv1⟩ := vals1 ru
        refine d_get1 (by omega) I dg rv1 fun w' s' I' rw' => ⟨_, H1, I', rw', φ, ?_, hm1, ex⟩
        cases e : lookK _ _ with
        | none => rw [q1 e]; exact .non
        | some z => obtain ⟨v, e2, rv⟩ := q2 z e; rw [e2]; exact rv
      · trivial
    · rename_i g
      split
      · rename_i hk
        rw [Bool.and_eq_true] at hk
        obtain ⟨y, w, rfl, ry, rd⟩ := rvs2 rs
        obtain ⟨H1, cv, hm1, ex, st, dv⟩ := dview (X := X) hm hr g ry hk.1 hk.2
        obtain ⟨o, dg, q1, q2⟩ := dv.get
        refine Sat.ok fun σ' v us rv ru => runT.cv cv fun pins s I => ?_
        cases rv
        obtain ⟨u, z, rfl, rv1, rz⟩ := vals2 ru
        refine d_get2 (by omega) I dg rv1 rz fun w' s' I' rw' => ⟨_, H1, I', rw', φ, ?_, hm1, ex⟩
        cases e : lookK _ _ with
        | none => rw [q1 e]; exact rd.kept st
        | some z => obtain ⟨v, e2, rv⟩ := q2 z e; rw [e2]; exact rv
      · trivial
    · trivial
  · trivial

/-! ### fields -/
/-- what the text says of its classes: fields that no class attribute hides, names that differ -/
structure ClsOk (K : PySem.W.Frag) (L : LC) (ok : Nat → Nat → Bool) : Prop where
  inj : ∀ f g, L.at_ f = L.at_ g → f = g
  cls : ∀ c f, ok c f = true → Cls K (L.cA c) ∧ NoAttr K (L.cA c) (L.at_ f)
abbrev PF1 (L : LC) (φ : List Addr) (H : Hp) : Nat × D → Str × V → Prop := fun p q => q.1 = L.at_ p.1 ∧ RV L φ H p.2 q.2
theorem lookF_ok (inj : ∀ f g, L.at_ f = L.at_ g → f = g) {f : Nat} : ∀ {fs : List (Nat × D)} {gs : List (Str × V)}, Paired (PF1 L φ H) fs gs → (lookF f fs = none → gs.lookup (L.at_ f) = none) ∧ ∀ d, lookF f fs = some d → ∃ v, gs.lookup (L.at_ f) = some v ∧ RV L φ H d v
  | _, _, .nil => ⟨fun _ => rfl, fun _ h => nomatch h⟩
  | (a, b) :: r, (c, d) :: t, .cons h s => by
    obtain ⟨h1, h2⟩ := h
    have h1 : c = L.at_ a := h1
    subst h1
    have ih := lookF_ok inj (f := f) s
    unfold lookF
    rw [List.lookup_cons]
    by_cases e : a = f
    · subst e
      simp only [beq_self_eq_true, if_true]
      exact ⟨(fun z => nomatch z), fun d' z => by cases z; exact ⟨_, rfl, h2⟩⟩
    · have e1 : (a == f) = false := by simpa using e
      have e2 : (L.at_ f == L.at_ a) = false := by
        rw [beq_eq_false_iff_ne]
        exact fun z => e (inj _ _ z).symm
      rw [e1, e2]
      exact ih
theorem putF_ok (inj : ∀ f g, L.at_ f = L.at_ g → f = g) {f : Nat} {w : D} {v : V} (rv : RV L φ H w v) : ∀ {fs : List (Nat × D)} {gs : List (Str × V)}, Paired (PF1 L φ H) fs gs → Paired (PF1 L φ H) (Mp.putF f w fs) (L2.putF (L.at_ f) v gs)
  | _, _, .nil => .cons ⟨rfl, rv⟩ .nil
  | (a, b) :: r, (c, d) :: t, .cons h s => by
    obtain ⟨h1, h2⟩ := h
    have h1 : c = L.at_ a := h1
    subst h1
    have ih := putF_ok inj (f := f) rv s
    unfold Mp.putF L2.putF
    by_cases e : a = f
    · subst e
      simp only [beq_self_eq_true, if_true]
      exact .cons ⟨rfl, rv⟩ s
    · have e1 : (a == f) = false := by simpa using e
      have e2 : ¬ L.at_ a = L.at_ f := fun z => e (inj _ _ z)
      rw [e1, if_neg e2]
      exact .cons ⟨rfl, h2⟩ ih
/-- o.f, by the value of o -/
def flT (X : Cx) (σ : L2.St) (x : V) (f : Str) (H : Hp) : Tr V := fun Q => ∀ v, RelV x v → ∀ b : Bool, runT X σ H (getAttr v f b) Q
theorem flT.mo {x : V} {f : Str} : Mo (flT X σ x f H) := fun Q Q' k h v rv b => runT.mo _ _ k (h v rv b)
theorem getF_ok (hK : X.K = L.K) {ok : Nat → Nat → Bool} (hc : ClsOk L.K L ok) {f : Nat} {d : D} {x : V} (hm : RH L φ H m) (r : RV L φ H d x) :
    Sat L X σ φ H (RVr L) (Rs.opt (getF ok f d m) m) (flT X σ x (L.at_ f) H) := by
  cases e : getF ok f d m with
  | none => trivial
  | some z =>
    show flT X σ x (L.at_ f) H _
    unfold getF at e
    split at e
    · split at e
      · rename_i g
        split at e
        · rename_i hk
          cases r with
          | ref hr =>
          obtain ⟨dx, gs, ha, hd, rr⟩ := insAt hm hr g
          obtain ⟨v, l, rv⟩ := (lookF_ok hc.inj rr).2 z e
          obtain ⟨c1, c2⟩ := hc.cls _ _ hk
          rw [← hK] at c1 c2
          intro u ru b pins s I
          cases ru
          exact getattr_ok I ha c1 c2 l fun u s' I' ru => ⟨v, H, I', ru, here hm rv⟩
        · cases e
      · cases e
    · cases e
/-- a store, by values: what the heap is behind it -/
abbrev TrH := (Hp → Prop) → Prop
def stT (X : Cx) (σ : L2.St) (H : Hp) (c : Sem Unit) : TrH := fun Q => ∀ pins s, Inv X pins σ H s → wpAny (model X.prog X.w) X.A c (fun _ s' => ∃ H', Inv X pins σ H' s' ∧ Q H') X.xe s
theorem setF_ok (hK : X.K = L.K) {ok : Nat → Nat → Bool} (hc : ClsOk L.K L ok) {f : Nat} {d w : D} {x y : V} (hm : RH L φ H m) (r : RV L φ H d x) (rw' : RV L φ H w y) {m' : MH} (e : setF ok f d w m = some m')
    {v u : Value} (rv : RelV x v) (ru : RelV y u) : stT X σ H (setAttr v (L.at_ f) u) (fun H' => ∃ φ', RH L φ' H' m' ∧ Ext φ H φ' H') := by
  unfold setF at e
  split at e
  · split at e
    · rename_i g
      split at e
      · rename_i hk
        rw [Bool.and_eq_true] at hk
        cases e
        cases r with
        | ref hr =>
        obtain ⟨dx, gs, ha, hd, rr⟩ := insAt hm hr g
        obtain ⟨c1, c2⟩ := hc.cls _ _ hk.1
        rw [← hK] at c1 c2
        have hl := Paired.length rr
        have h9 := of_decide_eq_true hk.2
        intro pins s I
        cases rv
        refine setattr_ok I ha c1 c2 (by omega) ru fun s' I' => ⟨_, I', φ, ?_, .wr hm hr⟩
        refine hm.wr hr ⟨dx, _, upd_same, ?_, ?_⟩
        · rw [upd_ne]
          · exact hd
          · intro z
            subst z
            rw [ha] at hd
            cases hd
        · exact putF_ok hc.inj (rw'.kept (.wr hm hr)) (Paired.mapP rr fun _ _ z => ⟨z.1, z.2.kept (.wr hm hr)⟩)
      · cases e
    · cases e
  · cases e
theorem kt_keys {H : Hp} {ks : List (List Key × V)} {ys : List (List Key × Addr × Value)} (h : KT H ks ys) : ks.map (·.1) = ys.map (·.1) := by
  induction h with
  | nil => rfl
  | cons r t ih => rw [List.map_cons, List.map_cons, ih, r.1]
theorem setIx_ok (hK : X.K = L.K) (hu : X.A.units + 66 < cLine) {d i w : D} {x z y : V} (hm : RH L φ H m) (r : RV L φ H d x) (ri : RV L φ H i z) (rw' : RV L φ H w y) {m' : MH} (e : setIx L.kts d i w m = some m')
    {v vi u : Value} (rv : RelV x v) (rvi : RelV z vi) (ru : RelV y u) : stT X σ H (setItem v vi u) (fun H' => ∃ φ', RH L φ' H' m' ∧ Ext φ H φ' H') := by
  unfold setIx at e
  split at e
  · split at e
    · rename_i g
      split at e
      · split at e
        · rename_i k ek
          cases e
          cases r with
          | ref hr =>
          cases ri
          obtain ⟨ws, ha, ra⟩ := lstAt hm hr g
          intro pins s I
          refine set_list pins s σ H _ _ _ _ _ _ _ I rv rvi ru ⟨_, ws, _, k, rfl, rfl, ha, ?_, φ, wrL hm hr (ra.set rw' k)⟩
          rw [← ra.length]
          exact ek
        · cases e
      · cases e
    · rename_i g
      split at e
      · rename_i hk
        rw [Bool.and_eq_true, Bool.and_eq_true] at hk
        cases e
        cases r with
        | ref hr =>
        obtain ⟨H1, cv, hm1, ex, st, dv⟩ := dview (X := X) hm hr g ri hk.1.1 hk.1.2
        have h6 := of_decide_eq_true hk.2
        have rw1 := rw'.kept st
        have big : (1000000 : Nat) < sizeLine := by rw [sizeLine_eq]; decide
        intro pins s I
        have I1 := cv.inv _ _ _ I
        cases rv
        cases dv with
        | k ks k e1 ey rk rr =>
          subst ey
          have hl := Paired.length rr
          obtain ⟨_, _, vs, kv, dd⟩ := dk_of I1.hok e1
          have nd : (ks.map (·.1)).Nodup := by
            rw [kv.keys]
            obtain ⟨_, _, _, _, _, _, _, _, nd⟩ := dd
            exact nd
          refine d_setItem (by omega) I1 (.k e1 (by omega)) rvi ru fun s' I' => ⟨_, I', φ, ?_, ex.trans (.wr hm1 hr)⟩
          exact hm1.wr hr (.inl ⟨_, upd_same, Paired.mapP (put1_ok rk rw1 rr nd) fun _ _ z => ⟨z.1, z.2.kept (.wr hm1 hr)⟩⟩)
        | t ks k b xs e1 ey eb exx rk rr =>
          subst ey exx
          have hl := Paired.length rr
          obtain ⟨_, _, ys, kv, _, _, _, _, _, _, _, _, nd0⟩ := dt_of I1.hok e1
          have nd : (ks.map (·.1)).Nodup := by
            rw [kt_keys kv]
            exact nd0
          refine d_setItem (by omega) I1 (.t e1 eb (by omega)) rvi ru fun s' I' => ⟨_, I', φ, ?_, ex.trans (.wr hm1 hr)⟩
          exact hm1.wr hr (.inr ⟨_, upd_same, Paired.mapP (put2_ok rk rw1 rr nd) fun _ _ z => ⟨z.1, z.2.kept (.wr hm1 hr)⟩⟩)
      · cases e
    · cases e
  · cases e
end
end Mp
end
section
set_option Elab.async false
set_option linter.all false
set_option maxRecDepth 100000
set_option maxHeartbeats 4000000
/-! PyCk: that a term of the evaluator stands for a piece of the text. -/
namespace Mp
open PySem PySem.Spec PyProof.Rows L2

/-- the text's names: defs (with their parameters), classes, constants, fields -/
structure GT where
  fns : List (Str × List Str)
  cls : List Str
  consts : List Str
  attr : Nat → Str
  gcd : Bool
  xcls : List Str
  isas : List Str
  xfs : List Str
  kwf : List (Nat × Nat × List Str × List Nat)
/-- where a piece stands: the slots' names, the running scope's names, the cells that are the frame's own -/
structure TC where
  N : List Str
  names : List (Str × NameKind)
  fn : Str → Bool
  hot : Bool
  top : Bool
  cau : Option Nat

def visQ (Γ : TC) (i : Nat) (x : Str) : Bool := decide (Γ.N[i]? = some x) && (match Γ.names.lookup x with
  | some .local => true
  | some .cell => true
  | some .free => true
  | _ => false)
def locQ (Γ : TC) (i : Nat) (x : Str) : Bool := decide (Γ.N[i]? = some x) && (match Γ.cau with | some j => i != j | none => true) && (match Γ.names.lookup x with
  | some .local => true
  | some .cell => Γ.fn x
  | _ => false)
def glQ (Γ : TC) (x : Str) : Bool := match Γ.names.lookup x with
  | some .globalImplicit => true
  | _ => false
def notStar : Expr → Bool
  | .Starred .. => false
  | _ => true
def notSlice : Expr → Bool
  | .Slice .. => false
  | _ => true
def notSet : Expr → Bool
  | .Set .. => false
  | _ => true
def notComp : Expr → Bool
  | .ListComp .. => false
  | .SetComp .. => false
  | .DictComp .. => false
  | _ => true
/-- no super(): attributeBase is the expression itself -/
def baseQ : Expr → Bool
  | .Call (.Name _ _) [] [] _ => false
  | _ => true
def copQ : COp → CmpOp → Bool
  | .eq, .Eq => true | .ne, .NotEq => true | .lt, .Lt => true | .le, .LtE => true | .gt, .Gt => true | .ge, .GtE => true | .isIn, .In => true | .notIn, .NotIn => true
  | _, _ => false
def bopQ : BOp → Operator → Bool
  | .add, .Add => true | .sub, .Sub => true | .mul, .Mult => true | .fdiv, .FloorDiv => true | .mod, .Mod => true | .pow, .Pow => true
  | _, _ => false
def bfN : BF → Str
  | .len => "len" | .abs => "abs" | .int => "int" | .tuple => "tuple" | .list => "list" | .sum => "sum" | .all => "all" | .any => "any"
  | .max => "max" | .min => "min" | .sorted => "sorted" | .gcd => "gcd" | .dict => "dict"
def gcdQ (T : GT) : BF → Bool
  | .gcd => T.gcd
  | _ => true
def tyN : Ty → Str
  | .int => "int" | .bool => "bool" | .str => "str" | .list => "list" | .tuple => "tuple" | .dict => "dict"
def ckL {α β : Type} (f : α → β → Bool) : List α → List β → Bool
  | [], [] => true
  | a :: as, b :: bs => f a b && ckL f as bs
  | _, _ => false
/-- keys and values, in turn -/
def ckKV (f : Expr → ME → Bool) : List (Option Expr) → List Expr → List ME → Bool
  | [], [], [] => true
  | some k :: ks, v :: vs, a :: b :: r => f k a && f v b && ckKV f ks vs r
  | _, _, _ => false
/-- the position of each parameter among the written arguments: the positional ones, then the keywords' -/
def idxO (x : Str) : Nat → List Str → Option Nat
  | _, [] => none
  | i, y :: r => if decide (x = y) then some i else idxO x (i + 1) r
def permQ (ps : List Str) (np : Nat) (ks : List Str) (p : List Nat) : Bool := decide (p.length = ps.length) && decide (np + ks.length = ps.length) &&
  (ps.zip p).all fun q => match idxO q.1 0 (ps.take np ++ ks) with
    | some i => i == q.2
    | none => false
def blkTC (Γ : TC) (scope : Scope) : TC where
  N := Γ.N
  names := (scope.names.map fun (n, k) => if (k == .free && Γ.names.lookup n == some .cell) then (n, .cell) else (n, k))
  fn := fun x => scope.names.lookup x == some .cell
  hot := Γ.hot
  top := false
  cau := none
def blkQ (Γ : TC) (scope : Scope) (own : List Nat) : Bool := (match scope.kind with | .function => true | _ => false) && (scope.names.all fun y => decide (scope.names.lookup y.1 = some y.2)) &&
    (own.all fun p => match Γ.N[p]? with | some _ => true | none => false) &&
    (scope.names.all fun y => match y.2 with
      | .free => (match Γ.names.lookup y.1 with | some .cell => true | some .free => true | _ => false)
      | .local => (own.any fun p => decide (Γ.N[p]? = some y.1)) || decide (y.1 ∉ Γ.N)
      | .cell => (own.any fun p => decide (Γ.N[p]? = some y.1)) || decide (y.1 ∉ Γ.N)
      | _ => true)
/-- the shape of a call of a method of a built-in -/
def bmQ (o : Expr) (es : List Expr) (apos cpos : Pos) : Bool := baseQ o && (apos.endLine == cpos.line) && decide (es.length < 20)

def kwNames (ks : List Keyword) : List Str := ks.filterMap (·.arg)
/-- the exception's name -/
def cauQ (Γ : TC) (y : Str) : Bool := match Γ.cau with
  | some i => visQ Γ i y
  | none => false
mutual
def ckE : Nat → GT → TC → Expr → ME → Bool
  | 0, _, _, _, _ => false
  | n + 1, T, Γ, e, m => match m with
    | .lit d => (match d with
      | .int i => (match e with | .Constant (.int j) _ _ => decide (j = i) | _ => false)
      | .bl i => (match e with | .Constant (.bool j) _ _ => decide (j = i) | _ => false)
      | .str s => (match e with | .Constant (.str x) _ _ => decide (x = stOf s) | _ => false)
      | .non => (match e with | .Constant .none _ _ => true | _ => false)
      | _ => false)
    | .var i => (match e with | .Name x _ => visQ Γ i x | _ => false)
    | .glob g => (match e with | .Name x _ => glQ Γ x && decide (T.consts[g]? = some x) | _ => false)
    | .tup es => (match e with | .Tuple es' _ _ => ckEs n T Γ es' es | _ => false)
    | .lst es => (match e with | .List es' _ => ckEs n T Γ es' es | _ => false)
    | .dct es => (match e with | .Dict [] [] _ => es.isEmpty | _ => false)
    | .bin o a b => (match e with | .BinOp a' o' b' _ => bopQ o o' && ckE n T Γ a' a && ckE n T Γ b' b | _ => false)
    | .neg a => (match e with | .UnaryOp .USub a' _ => ckE n T Γ a' a | _ => false)
    | .cmp o a b => (match e with | .Compare a' [o'] [b'] _ => copQ o o' && !behindInMarks o' b' && ckE n T Γ a' a && ckE n T Γ b' b | _ => false)
    | .isN a => (match e with | .Compare a' [.Is] [.Constant .none _ _] _ => ckE n T Γ a' a | _ => false)
    | .notN a => (match e with | .Compare a' [.IsNot] [.Constant .none _ _] _ => ckE n T Γ a' a | _ => false)
    | .chain o p a b c => (match e with | .Compare a' [o', p'] [b', c'] _ => copQ o o' && copQ p p' && !lastMarks [o', p'] [b', c'] && ckE n T Γ a' a && ckE n T Γ b' b && ckE n T Γ c' c | _ => false)
    | .and a b => (match e with | .BoolOp .And (a' :: b' :: r) pos => ckE n T Γ a' a && (match r with | [] => ckE n T Γ b' b | _ => ckE n T Γ (.BoolOp .And (b' :: r) pos) b) | _ => false)
    | .or a b => (match e with | .BoolOp .Or (a' :: b' :: r) pos => ckE n T Γ a' a && (match r with | [] => ckE n T Γ b' b | _ => ckE n T Γ (.BoolOp .Or (b' :: r) pos) b) | _ => false)
    | .not a => (match e with | .UnaryOp .Not a' _ => ckE n T Γ a' a | _ => false)
    | .ite c a b => (match e with | .IfExp c' a' b' _ => ckE n T Γ c' c && ckE n T Γ a' a && ckE n T Γ b' b | _ => false)
    | .ix a b => (match e with | .Subscript a' b' _ => notSlice b' && ckE n T Γ a' a && ckE n T Γ b' b | _ => false)
    | .sl a lo hi => (match e with | .Subscript a' (.Slice lo' hi' none _) _ => ckE n T Γ a' a && ckO n T Γ lo' lo && ckO n T Γ hi' hi | _ => false)
    | .fld a f => (match e with | .Attribute a' x _ => decide (x = T.attr f) && baseQ a' && ckE n T Γ a' a | _ => false)
    | .call f es p => (match e with
      | .Call (.Name x _) es' kws _ => !Γ.hot && glQ Γ x && (match T.fns[f]? with
        | some (y, ps) => decide (x = y) && !decide (x = Str.empty) && (match kws with
          | [] => decide (p = []) && ckEs n T Γ es' es
          | kws => !p.isEmpty && T.kwf.contains (f, es'.length, kwNames kws, p) && kws.all (fun k => k.arg.isSome) && ckEs n T Γ es' (es.take es'.length) && ckEs n T Γ (kws.map (·.value)) (es.drop es'.length))
        | none => false)
      | _ => false)
    | .new c es p => (match e with
      | .Call (.Name x _) es' [] _ => !Γ.hot && glQ Γ x && decide (T.cls[c]? = some x) && decide (p = []) && ckEs n T Γ es' es
      | _ => false)
    | .mth f o es p => (match e with
      | .Call (.Attribute o' x apos) es' [] cpos => !Γ.hot && decide (x = T.attr f) && bmQ o' es' apos cpos && decide (p = []) && ckE n T Γ o' o && ckEs n T Γ es' es
      | _ => false)
    | .bm b o es => (match e with
      | .Call (.Attribute o' x apos) es' [] cpos => decide (x = bmN b) && bmQ o' es' apos cpos && ckE n T Γ o' o && ckEs n T Γ es' es
      | _ => false)
    | .bf b es => (match e with
      | .Call (.Name x _) (e1 :: es') [] _ => !Γ.hot && glQ Γ x && decide (x = bfN b) && gcdQ T b && ckEs n T Γ (e1 :: es') es
      | _ => false)
    | .isi a ts => (match e with
      | .Call (.Name x _) [a', t] [] _ => glQ Γ x && decide (x = "isinstance") && notStar a' && decide (ts.length ≤ 1000000) && ckE n T Γ a' a && (match t with
        | .Name y _ => ckL (fun (z : Str) u => glQ Γ z && decide (z = tyN u)) [y] ts
        | .Tuple ys _ _ => ckL (fun (z : Expr) u => match z with | .Name w _ => glQ Γ w && decide (w = tyN u) | _ => false) ys ts
        | _ => false)
      | _ => false)
    | .lc el tg it ifs own => (match e with
      | .ListComp el' [⟨tg', it', ifs', 0⟩] scope _ => !Γ.hot && blkQ Γ scope own && ckI n T Γ tg' it' it && ckG n T (blkTC Γ scope) tg' tg && ckEs n T (blkTC Γ scope) ifs' ifs && decide (ifs'.length ≤ 1) && ckE n T (blkTC Γ scope) el' el && ownQ own tg
      | _ => false)
    | .dc ke ve tg it ifs own => false
    | .cis ks => (match e with
      | .Call (.Name x _) [.Name y _, .Name z _] [] _ => glQ Γ x && decide (x = "isinstance") && cauQ Γ y && glQ Γ z && (match ks with
        | [k] => decide (T.isas[k]? = some z)
        | _ => false)
      | _ => false)
    | .cfld => false
def ckEs : Nat → GT → TC → List Expr → List ME → Bool
  | 0, _, _, _, _ => false
  | n + 1, T, Γ, es, ms => match es, ms with
    | [], [] => true
    | e :: es, m :: ms => notStar e && ckE n T Γ e m && ckEs n T Γ es ms
    | _, _ => false
def ckO : Nat → GT → TC → Option Expr → Option ME → Bool
  | 0, _, _, _, _ => false
  | n + 1, T, Γ, e, m => match e, m with
    | none, none => true
    | some e, some m => ckE n T Γ e m
    | _, _ => false
def ckG : Nat → GT → TC → Expr → MT → Bool
  | 0, _, _, _, _ => false
  | n + 1, T, Γ, e, m => match m with
    | .nm i => (match e with | .Name x _ => locQ Γ i x | _ => false)
    | .tup ts => (match e with | .Tuple es _ _ => !Γ.hot && ckGs n T Γ es ts | _ => false)
    | .sub o i => (match e with | .Subscript o' i' _ => notSlice i' && ckE n T Γ o' o && ckE n T Γ i' i | _ => false)
    | .fld o f => (match e with | .Attribute o' x _ => decide (x = T.attr f) && ckE n T Γ o' o | _ => false)
def ckGs : Nat → GT → TC → List Expr → List MT → Bool
  | 0, _, _, _, _ => false
  | n + 1, T, Γ, es, ms => match es, ms with
    | [], [] => true
    | e :: es, m :: ms => notStar e && ckG n T Γ e m && ckGs n T Γ es ms
    | _, _ => false
def ckI : Nat → GT → TC → Expr → Expr → MI → Bool
  | 0, _, _, _, _, _ => false
  | n + 1, T, Γ, tg, e, m => match m with
    | .seq a => notSet e && ckE n T Γ e a
    | .range1 a => (match e with | .Call (.Name x _) [a'] [] _ => glQ Γ x && decide (x = "range") && notStar a' && ckE n T Γ a' a | _ => false)
    | .range2 a b => (match e with | .Call (.Name x _) [a', b'] [] _ => glQ Γ x && decide (x = "range") && notStar a' && notStar b' && ckE n T Γ a' a && ckE n T Γ b' b | _ => false)
    | .zip a b => (match e with | .Call (.Name x _) [a', b'] [] _ => glQ Γ x && decide (x = "zip") && notStar a' && notStar b' && ckE n T Γ a' a && ckE n T Γ b' b && (match tg with | .Tuple .. => true | _ => false) | _ => false)
    | .enum a => (match e with | .Call (.Name x _) [a'] [] _ => glQ Γ x && decide (x = "enumerate") && notStar a' && ckE n T Γ a' a && (match tg with | .Tuple .. => true | _ => false) | _ => false)
    | _ => false
/-- the slots that a target stores are own ones -/
def ownQ (own : List Nat) : MT → Bool
  | .nm i => own.contains i
  | .tup ts => ownQs own ts
  | _ => false
def ownQs (own : List Nat) : List MT → Bool
  | [] => true
  | t :: ts => ownQ own t && ownQs own ts
end
end Mp
end
section
set_option Elab.async false
set_option linter.all false
set_option maxRecDepth 100000
set_option maxHeartbeats 4000000
/-! PyCkS: that a statement of the evaluator stands for a statement of the text. -/
namespace Mp
open PySem PySem.Spec PyProof.Rows L2

def starred : Expr → Bool
  | .Starred .. => true
  | _ => false
def nameOn (Γ : TC) (line : Nat) : Expr → Option Str
  | .Name id pos => if Γ.names.lookup id == some .local && pos.line == line then some id else none
  | _ => none
/-- are the stores of ts = vs turned about? none: not known -/
def swQ (Γ : TC) (ts vs : List Expr) : Option (Option (List Str)) :=
  if (!(ts.length == 2 || ts.length == 3) || vs.length != ts.length) = true then some none
  else if vs.any starred = true then some none
  else if (((ts.filterMap (nameOn Γ ((ts.head?.map (·.pos.line)).getD 0))).length != ts.length) || ((ts.filterMap (nameOn Γ ((ts.head?.map (·.pos.line)).getD 0))).eraseDups.length != (ts.filterMap (nameOn Γ ((ts.head?.map (·.pos.line)).getD 0))).length)) = true then some none
  else if vs.all (foldedForSure 8) = true then some none
  else if vs.all (constantsAlone 8) = true then none
  else some (some (ts.filterMap (nameOn Γ ((ts.head?.map (·.pos.line)).getD 0))))
/-- the stores are as they stand -/
def plainSt (Γ : TC) (tg v : Expr) : Bool := match tg, v with
  | .Tuple ts _ _, .Tuple vs _ _ => decide (swQ Γ ts vs = some none)
  | .List _ _, .Tuple _ _ _ => false
  | _, _ => true
def isNameE : Expr → Bool
  | .Name .. => true
  | _ => false
def lclQ (Γ : TC) (i : Nat) (x : Str) : Bool := decide (Γ.N[i]? = some x) && decide (Γ.names.lookup x = some .local) && (match Γ.cau with | some j => i != j | none => true)
/-- a comprehension that is stored in its own loop -/
def setLcQ (Γ : TC) (x : Str) (p : Pos) (v : Expr) : Bool := match v with
  | .ListComp _ _ s pos => p.line == pos.line && !(s.names.any fun y => y.1 == x && (y.2 == .local || y.2 == .cell))
  | _ => false
def exNone : Option Expr → Bool
  | none => true
  | _ => false

mutual
def ckS : Nat → GT → TC → Stmt → MS → Bool
  | 0, _, _, _, _ => false
  | n + 1, T, Γ, st, m => match m with
    | .asg t e => (match st with
      | .Assign [tg] v pos => (notStar tg && plainSt Γ tg v && (notComp v || !isNameE tg) && ckE n T Γ v e && ckG n T Γ tg t) ||
        (match tg, v, t, e with
        | .Tuple [.Name x px, .Name y py] _ _, .Tuple [a, b] _ _, .tup [.nm i, .nm j], .tup [ma, mb] =>
          !Γ.hot && lclQ Γ i x && lclQ Γ j y && i != j && decide (swQ Γ [.Name x px, .Name y py] [a, b] = some (some [x, y])) && ckEs n T Γ [a, b] [ma, mb]
        | .Tuple [.Name x px, .Name y py, .Name z pz] _ _, .Tuple [a, b, c] _ _, .tup [.nm i, .nm j, .nm k], .tup [ma, mb, mc] =>
          !Γ.hot && lclQ Γ i x && lclQ Γ j y && lclQ Γ k z && i != j && i != k && j != k && decide (swQ Γ [.Name x px, .Name y py, .Name z pz] [a, b, c] = some (some [x, y, z])) && ckEs n T Γ [a, b, c] [ma, mb, mc]
        | .Name x px, v, .nm i, e => !Γ.hot && lclQ Γ i x && setLcQ Γ x px v && ckE n T Γ v e
        | _, _, _, _ => false)
      | _ => false)
    | .aug t o e => false
    | .expr e => (match st with | .Expr v _ => notComp v && ckE n T Γ v e | _ => false)
    | .ret e => (match st with | .Return (some v) _ => ckE n T Γ v e | _ => false)
    | .ife c a b => (match st with | .If c' a' b' _ => ckE n T Γ c' c && ckSs n T Γ a' a && ckSs n T Γ b' b | _ => false)
    | .whl c b => (match st with | .While c' b' [] _ => !Γ.hot && ckE n T Γ c' c && ckSs n T Γ b' b | _ => false)
    | .forr t i b => (match st with | .For tg it b' [] _ => !Γ.hot && ckI n T Γ tg it i && ckG n T Γ tg t && ckSs n T Γ b' b | _ => false)
    | .brk => (match st with | .Break _ => true | _ => false)
    | .cont => (match st with | .Continue _ => true | _ => false)
    | .pass => (match st with | .Pass _ => true | _ => false)
    | .raise c es => (match st with
      | .Raise (some (.Call (.Name x _) [] [] _)) none _ => !Γ.hot && glQ Γ x && decide (T.xcls[c]? = some x) && decide (T.xfs[c]? = some Str.empty) && es.isEmpty
      | _ => false)
    | .try_ b hs => (match st with
      | .Try b' [.ExceptHandler (some (.Name x _)) nm (s0 :: su) _] [] [] _ => (match hs with
        | [.mk c ni hb] => !Γ.hot && Γ.top && Γ.cau.isNone && glQ Γ x && decide (T.xcls[c]? = some x) && ckSs n T Γ b' b && (match nm, ni with
          | none, none => ckSs n T { Γ with hot := true, top := false } (s0 :: su) hb
          | some y, some i => lclQ Γ i y && ckSs n T { Γ with hot := true, top := false, cau := some i } (s0 :: su) hb
          | _, _ => false)
        | _ => false)
      | _ => false)
def ckSs : Nat → GT → TC → List Stmt → List MS → Bool
  | 0, _, _, _, _ => false
  | n + 1, T, Γ, ss, ms => match ss, ms with
    | [], [] => true
    | s :: ss, m :: ms => ckS n T Γ s m && ckSs n T Γ ss ms
    | _, _ => false
end
end Mp
end
section
set_option Elab.async false
set_option linter.all false
set_option maxRecDepth 100000
set_option maxHeartbeats 4000000
/-! PySnd7: the context, and each construct of an expression. -/
namespace Mp
open PySem PySem.Spec PyProof.Rows L2

/-- what a call of a def promises -/
def spF (L : LC) (call : List D → MH → Rs D) (ar : Nat) : Sp := fun vs H Q E => vs.length = ar ∧ ∃ φ m xs, RVs L φ H xs vs ∧ RH L φ H m ∧ (match call xs m with
  | .ok d m' => ∀ v φ' H', RV L φ' H' d v → RH L φ' H' m' → Ext φ H φ' H' → Q v H'
  | .exc x m' => ∀ cls d φ' H', RX L φ' H' x cls d → RH L φ' H' m' → Ext φ H φ' H' → E cls d H'
  | .bad => False)

/-- a text: its program, its layout, its terms, how many calls deep -/
structure SC where
  P : Program
  w : World
  L : LC
  mg : Str → Option Value
  base : Heap
  G : GC
  T : GT
  n : Nat
  fa : Nat → Addr
  fd : Nat → FuncData

def bltNames : List Str := ["len", "abs", "int", "tuple", "list", "sum", "all", "any", "max", "min", "sorted", "dict", "isinstance", "range", "zip", "enumerate", "bool", "str"]

structure Facts (S : SC) : Prop where
  cls : ClsOk S.L.K S.L S.G.fld
  attr : S.T.attr = S.L.at_
  kts : S.G.kts = S.L.kts
  fn : ∀ f y ps, S.T.fns[f]? = some (y, ps) → FnOk S.P S.w S.L.K S.mg S.base (L2.CX S.P S.w) S.n (S.fa f) (S.fd f) ps (spF S.L (S.G.call f) ps.length) ∧ Binds S.L.K (S.fd f) ps []
  fn1 : ∀ f y ps, S.T.fns[f]? = some (y, ps) → FnOk S.P S.w S.L.K S.mg S.base (L2.CX S.P S.w) (S.n - 1) (S.fa f) (S.fd f) ps (spF S.L (S.G.call1 f) ps.length)
  one : S.n = 0 → ∀ f xs h, S.G.call1 f xs h = .bad
  kb : ∀ f np ks p, (f, np, ks, p) ∈ S.T.kwf → ∀ y ps, S.T.fns[f]? = some (y, ps) → ∀ (s : Shared) (us ws : List Value), S.L.K.In s.heap → us.length = np → ws.length = ks.length → ∃ bs, permL (us ++ ws) p = some bs ∧ BindsTo s (S.fd f) ⟨us, ks.zip ws⟩ (ps.zip bs)
  ar : ∀ (f : Nat) (y : Str) ps, S.T.fns[f]? = some (y, ps) → ∀ xs h, S.G.call f xs h ≠ .bad → xs.length = ps.length
  ar1 : ∀ (f : Nat) (y : Str) ps, S.T.fns[f]? = some (y, ps) → ∀ xs h, S.G.call1 f xs h ≠ .bad → xs.length = ps.length
  glf : ∀ f y ps, S.T.fns[f]? = some (y, ps) → y ≠ Str.empty → S.mg y = some (.ref (S.fa f)) ∧ PySem.W.keepIn S.L.K (.ref (S.fa f)) = true ∧ y ≠ "__debug__"
  con : ∀ (g : Nat) (x : Str), S.T.consts[g]? = some x → x ≠ "__debug__" ∧ ∃ u d v, S.mg x = some u ∧ S.G.glob g = some d ∧ RelV v u ∧ ∀ φ H, RV S.L φ H d v
  cl : ∀ (c : Nat) (x : Str), S.T.cls[c]? = some x → x ≠ "__debug__" ∧ S.mg x = some (.ref (S.L.cA c)) ∧ ∀ f, S.G.init c = some f → Mk S.L.K (S.L.cA c) (S.fa f) ∧ ∃ y ps, S.T.fns[f]? = some (y, ps)
  mth : ∀ c m f, S.G.mth c m = some f → Cls S.L.K (S.L.cA c) ∧ Meth S.L.K (S.L.cA c) (S.L.at_ m) (S.fa f) ∧ ∃ y ps, S.T.fns[f]? = some (y, ps)
  blt : ∀ x ∈ bltNames, S.mg x = none
  xc : ∀ (c : Nat) (x : Str), S.T.xcls[c]? = some x → x ≠ "__debug__" ∧ S.mg x = some (.ref (S.L.xA c)) ∧ PySem.W.keepIn S.L.K (.ref (S.L.xA c)) = true ∧ ExcC S.L.K (S.L.xA c) ∧ PySem.W.typeIn S.L.K (.ref (S.L.xA c)) = some (.type "type")
  xn : ∀ (c : Nat) (x : Str), S.T.xcls[c]? = some x → S.T.xfs[c]? = some Str.empty → ∃ B newId initId bmB, ExcBaseFacts B newId initId bmB ∧ PySem.W.excIn S.L.K (S.L.xA c) bmB newId = true
  xm : ∀ c d b, S.G.sub c d = some b → PySem.W.exmOne S.L.K (.ref (S.L.xA c)) (.ref (S.L.xA d)) = some b
  xi : ∀ c k b x, S.G.isa c k = some b → S.T.isas[k]? = some x → ExcC S.L.K (S.L.xA c) ∧ x ≠ "__debug__" ∧ ∃ cv, PySem.W.kitOne S.L.K (.ref (S.L.xA c)) cv = some b ∧ ((∃ C, cv = .ref C ∧ S.mg x = some cv) ∨ (∃ T : String, cv = .type T ∧ S.mg x = none ∧ bootBuiltins x = some cv ∧ x ≠ "__name__"))
  gcd : S.T.gcd = true → S.mg "gcd" = some (.builtin "math.gcd")

structure Good (S : SC) (Γ : TC) (X : Cx) : Prop where
  prog : X.prog = S.P
  w : X.w = S.w
  K : X.K = S.L.K
  mg : X.mg = S.mg
  base : X.base = S.base
  N : X.N = Γ.N
  nd : Γ.N.Nodup
  clean : ∀ x ∈ Γ.N, x ≠ "__debug__" ∧ x ≠ "__classdict__"
  names : X.env.scope.names = Γ.names
  kind : X.env.scope.kind = .function
  fn : ∀ x, Γ.fn x = true → X.fn x = true
  calm : Γ.hot = false → X.calm = true ∧ Room S.n X.A
  un : X.A.units + 100 < cLine
  po : Γ.hot = false → PassesOwn (model X.prog X.w) X.A X.env X.xe
  top : Γ.top = true → X.stack = X.env :: X.outer ∧ X.env.frame = some X.env.locals

/-- the slots -/
structure RE (L : LC) (φ : List Addr) (H : Hp) (ρ : Env) (σ : L2.St) : Prop where
  len : ρ.length = σ.length
  get : ∀ (i : Nat) d, ρ[i]? = some (some d) → ∃ v, σ[i]? = some (some v) ∧ RV L φ H d v
theorem RE.kept {L : LC} {φ φ' : List Addr} {H H' : Hp} {ρ : Env} {σ : L2.St} (r : RE L φ H ρ σ) (s : Stays L φ H φ' H') : RE L φ' H' ρ σ :=
  ⟨r.len, fun i d e => let ⟨v, h1, h2⟩ := r.get i d e; ⟨v, h1, h2.kept s⟩⟩
theorem RE.ext {L : LC} {φ φ' : List Addr} {H H' : Hp} {m : MH} {ρ : Env} {σ : L2.St} (r : RE L φ H ρ σ) (hm : RH L φ H m) (e : Ext φ H φ' H') : RE L φ' H' ρ σ := r.kept (e.kept hm)
theorem RE.set {L : LC} {φ : List Addr} {H : Hp} {ρ : Env} {σ : L2.St} (r : RE L φ H ρ σ) {i : Nat} {d : D} {v : V} (rv : RV L φ H d v) : RE L φ H (ρ.set i (some d)) (σ.set i (some v)) := by
  refine ⟨by simp [r.len], fun j e h => ?_⟩
  by_cases hj : i = j
  · subst hj
    have hl : i < ρ.length := by
      have := (List.getElem?_eq_some_iff.mp h).1
      simpa using this
    rw [List.getElem?_set_self hl] at h
    cases h
    exact ⟨v, by rw [List.getElem?_set_self (by rw [← r.len]; exact hl)], rv⟩
  · rw [List.getElem?_set_ne hj] at h
    obtain ⟨w, h1, h2⟩ := r.get j e h
    exact ⟨w, by rw [List.getElem?_set_ne hj]; exact h1, h2⟩

section
variable {S : SC} {Γ : TC} {X : Cx} {σ : L2.St} {φ : List Addr} {H : Hp} {h : MH} {ρ : Env}

theorem visQ_ok (g : Good S Γ X) {i : Nat} {x : Str} (q : visQ Γ i x = true) : X.N[i]? = some x ∧ Vis X.env.scope x := by
  unfold visQ at q
  rw [Bool.and_eq_true] at q
  refine ⟨by rw [g.N]; exact of_decide_eq_true q.1, ?_⟩
  have q2 := q.2
  unfold Vis
  rw [g.names]
  split at q2 <;> first | (rename_i e; simp [e]; done) | cases q2
theorem locQ_ok (g : Good S Γ X) {i : Nat} {x : Str} (q : locQ Γ i x = true) : X.N[i]? = some x ∧ L2.Loc X.env.scope x ∧ (X.fn x = true ∨ X.env.scope.names.lookup x = some .local) := by
  unfold locQ at q
  rw [Bool.and_eq_true, Bool.and_eq_true] at q
  refine ⟨by rw [g.N]; exact of_decide_eq_true q.1.1, ?_⟩
  have q2 := q.2
  unfold L2.Loc
  rw [g.names]
  split at q2
  · rename_i e; exact ⟨.inl e, .inr e⟩
  · rename_i e; exact ⟨.inr e, .inl (g.fn _ q2)⟩
  · cases q2
theorem glQ_ok (g : Good S Γ X) {x : Str} (q : glQ Γ x = true) : Gl X x := by
  unfold glQ at q
  show X.env.scope.names.lookup x = _
  rw [g.names]
  split at q
  · assumption
  · cases q
theorem clean_dbg (g : Good S Γ X) {i : Nat} {x : Str} (e : X.N[i]? = some x) : (x == ("__debug__" : Str)) = false ∧ (x == ("__classdict__" : Str)) = false := by
  rw [g.N] at e
  obtain ⟨a, b⟩ := g.clean x (List.mem_of_getElem? e)
  exact ⟨beq_eq_false_iff_ne.mpr a, beq_eq_false_iff_ne.mpr b⟩
theorem star_cons {e : Expr} {es : List Expr} {env : PySem.Env} (q : notStar e = true) : starEach (e :: es) env = (false, eval e env) :: starEach es env := by
  cases e <;> first | rfl | cases q
theorem star_plain {pos : Pos} {env : PySem.Env} : ∀ {es : List Expr}, (∀ e ∈ es, notStar e = true) → (backTo pos (starEach es env)).any (·.1) = false
  | [], _ => rfl
  | e :: es, q => by
    rw [star_cons (q e List.mem_cons_self)]
    show (false || (backTo pos (starEach es env)).any (·.1)) = false
    rw [star_plain fun e he => q e (List.mem_cons_of_mem _ he)]; rfl

/-- one expression, then another -/
theorem sat2 {a b : Expr} {ra : Rs D} {rb : MH → Rs D} {f : D → D → MH → Rs α} {β : Type} {Rel : Rl α β} {T2 : V → V → Hp → Tr β} (hm : RH S.L φ H h) (mo2 : ∀ x y H, Mo (T2 x y H))
    (ha : Sat S.L X σ φ H (RVr S.L) ra (twE X a σ H)) (hb : ∀ φ1 H1 h1, RH S.L φ1 H1 h1 → Ext φ H φ1 H1 → Sat S.L X σ φ1 H1 (RVr S.L) (rb h1) (twE X b σ H1))
    (k : ∀ u v x y φ2 H2 h2, RV S.L φ2 H2 u x → RV S.L φ2 H2 v y → RH S.L φ2 H2 h2 → Sat S.L X σ φ2 H2 Rel (f u v h2) (T2 x y H2)) :
    Sat S.L X σ φ H Rel (ra.bind fun u h1 => (rb h1).bind fun v h2 => f u v h2) (fun Q => twE X a σ H fun x H1 => twE X b σ H1 fun y H2 => T2 x y H2 Q) := by
  refine Sat.bind (T2 := fun x H1 Q => twE X b σ H1 fun y H2 => T2 x y H2 Q) twE.mo (fun x H1 Q Q' z q => twE.mo _ _ (fun y H2 q => mo2 x y H2 _ _ z q) q) ha fun u h1 _ x φ1 H1 rx hm1 e1 => ?_
  refine Sat.bind (T2 := fun y H2 => T2 x y H2) twE.mo (fun y H2 => mo2 x y H2) (hb φ1 H1 h1 hm1 e1) fun v h2 _ y φ2 H2 ry hm2 e2 => ?_
  exact k u v x y φ2 H2 h2 (rx.kept (e2.kept hm1)) ry hm2
theorem sat1 {a : Expr} {ra : Rs D} {f : D → MH → Rs α} {β : Type} {Rel : Rl α β} {T2 : V → Hp → Tr β} (mo2 : ∀ x H, Mo (T2 x H))
    (ha : Sat S.L X σ φ H (RVr S.L) ra (twE X a σ H))
    (k : ∀ u x φ1 H1 h1, ra = .ok u h1 → RV S.L φ1 H1 u x → RH S.L φ1 H1 h1 → Ext φ H φ1 H1 → Sat S.L X σ φ1 H1 Rel (f u h1) (T2 x H1)) :
    Sat S.L X σ φ H Rel (ra.bind f) (fun Q => twE X a σ H fun x H1 => T2 x H1 Q) :=
  Sat.bind (T2 := T2) twE.mo mo2 ha fun u h1 e x φ1 H1 rx hm1 e1 => k u x φ1 H1 h1 e rx hm1 e1

/-- an outcome that is a value at hand -/
abbrev retT (x : V) (H : Hp) : Tr V := fun Q => Q x H
theorem retT.mo {x : V} {H : Hp} : Mo (retT x H) := fun _ _ k q => k _ _ q

/-! ### the induction's hypotheses -/
/-- the exception that the suite holds -/
def XO (S : SC) (Γ : TC) (X : Cx) (xo : Option Ex) (σ : L2.St) (φ : List Addr) (H : Hp) : Prop := match Γ.cau with
  | none => True
  | some i => ∃ (x : Ex) (a : Addr) (d : Option Addr) (oe : Obj) (pn : List (Addr × Obj)) (X0 : Cx), xo = some x ∧ σ[i]? = some (some (.ref a)) ∧ X = X0.suite a ((a, oe) :: pn) ∧ Zc (.ref (S.L.xA x.c)) d oe ∧ (∃ vs, oe.data = .fields vs) ∧
      match x.v with
      | none => d = none
      | some v => ∃ dd w, d = some dd ∧ H dd = some (.xd [(S.L.xf x.c, w)]) ∧ RV S.L φ H v w
theorem RH.noXd {L : LC} (h : RH L φ H m) {a : Addr} {fs : List (Str × V)} (e : H a = some (.xd fs)) : a ∉ φ := fun ha => by
  rcases h.kind ha with ⟨_, q⟩ | ⟨_, q⟩ | ⟨_, q⟩ | ⟨_, _, _, q⟩ <;> rw [e] at q <;> cases q
theorem XO.ext {S : SC} {Γ : TC} {X : Cx} {xo : Option Ex} {σ : L2.St} {φ φ' : List Addr} {H H' : Hp} {m : MH} (r : XO S Γ X xo σ φ H) (hm : RH S.L φ H m) (e : Ext φ H φ' H') : XO S Γ X xo σ φ' H' := by
  unfold XO at r ⊢
  split
  · trivial
  · rename_i i hc
    rw [hc] at r
    obtain ⟨x, a, d, oe, pn, X0, h1, h2, h3, h4, h5, h6⟩ := r
    refine ⟨x, a, d, oe, pn, X0, h1, h2, h3, h4, h5, ?_⟩
    cases hv : x.v with
    | none => rw [hv] at h6; exact h6
    | some v =>
      rw [hv] at h6
      obtain ⟨dd, w, g1, g2, g3⟩ := h6
      exact ⟨dd, w, g1, e.frame _ _ g2 (hm.noXd g2), g3.kept (e.kept hm)⟩
/-- the slots, the exception in hand -/
structure RQ (S : SC) (Γ : TC) (X : Cx) (xo : Option Ex) (φ : List Addr) (H : Hp) (ρ : Env) (σ : L2.St) : Prop where
  re : RE S.L φ H ρ σ
  xo : XO S Γ X xo σ φ H
theorem RQ.ext {S : SC} {Γ : TC} {X : Cx} {xo : Option Ex} {σ : L2.St} {φ φ' : List Addr} {H H' : Hp} {m : MH} {ρ : Env} (r : RQ S Γ X xo φ H ρ σ) (hm : RH S.L φ H m) (e : Ext φ H φ' H') : RQ S Γ X xo φ' H' ρ σ := ⟨r.re.ext hm e, r.xo.ext hm e⟩
abbrev HypE (S : SC) (n : Nat) : Prop := ∀ Γ X e m, Good S Γ X → ckE n S.T Γ e m = true → ∀ xo ρ σ φ H h, RQ S Γ X xo φ H ρ σ → RH S.L φ H h → Sat S.L X σ φ H (RVr S.L) (evalE S.G xo m ρ h) (twE X e σ H)
abbrev HypT (S : SC) (n : Nat) : Prop := ∀ Γ X e m, Good S Γ X → ckE n S.T Γ e m = true → ∀ xo ρ σ φ H h, RQ S Γ X xo φ H ρ σ → RH S.L φ H h → Sat S.L X σ φ H (fun (b : Bool) c _ _ => c = b) (evalT S.G xo m ρ h) (twT X e σ H)
abbrev HypEs (S : SC) (n : Nat) : Prop := ∀ Γ X es ms, Good S Γ X → ckEs n S.T Γ es ms = true → ∀ xo ρ σ φ H h, RQ S Γ X xo φ H ρ σ → RH S.L φ H h → Sat S.L X σ φ H (RVsr S.L) (evalEs S.G xo ms ρ h) (twA X es σ H)

theorem ckEs_star : ∀ {n : Nat} {T : GT} {es : List Expr} {ms : List ME}, ckEs n T Γ es ms = true → (∀ e ∈ es, notStar e = true) ∧ es.length ≤ n ∧ ms.length = es.length
  | 0, _, _, _, q => by cases q
  | n + 1, T, [], [], _ => ⟨(fun e he => nomatch he), Nat.zero_le _, rfl⟩
  | n + 1, T, [], _ :: _, q => by cases q
  | n + 1, T, _ :: _, [], q => by cases q
  | n + 1, T, e :: es, m :: ms, q => by
    unfold ckEs at q
    rw [Bool.and_eq_true, Bool.and_eq_true] at q
    obtain ⟨a, b, c⟩ := ckEs_star q.2
    refine ⟨fun x hx => ?_, Nat.succ_le_succ b, by simp [c]⟩
    rcases List.mem_cons.mp hx with rfl | hx
    · exact q.1.1
    · exact a x hx
theorem evalEs_len {G : GC} {xo : Option Ex} : ∀ {ms : List ME} {ρ : Env} {h h' : MH} {xs : List D}, evalEs G xo ms ρ h = .ok xs h' → xs.length = ms.length
  | [], _, _, _, _, e => by unfold evalEs at e; cases e; rfl
  | m :: ms, ρ, h, h', xs, e => by
    unfold evalEs at e
    cases q : evalE G xo m ρ h with
    | bad => rw [q] at e; cases e
    | exc x h1 => rw [q] at e; cases e
    | ok u h1 =>
      rw [q] at e
      simp only [Rs.bind] at e
      cases q2 : evalEs G xo ms ρ h1 with
      | bad => rw [q2] at e; cases e
      | exc x h1 => rw [q2] at e; cases e
      | ok us h2 =>
        rw [q2] at e
        simp only [Rs.bind] at e
        cases e
        simp [evalEs_len q2]

theorem stepEs {n : Nat} (hE : HypE S n) (hEs : HypEs S n) : HypEs S (n + 1) := by
  intro Γ X es ms g q xo ρ σ φ H h re hm
  unfold ckEs at q
  split at q
  · unfold evalEs
    exact Sat.ok (twA_of pa_nil ⟨φ, .nil, hm, .refl⟩)
  · rename_i e es m ms
    rw [Bool.and_eq_true, Bool.and_eq_true] at q
    obtain ⟨⟨q1, q2⟩, q3⟩ := q
    unfold evalEs
    refine Sat.imp (T := fun Q => twE X e σ H fun x H1 => twA X es σ H1 fun xs H2 => Q (x :: xs) H2) ?_ fun Q z => twA_of (pa_cons pe_tw pa_tw (star_cons q1)) z
    refine sat1 (T2 := fun x H1 Q => twA X es σ H1 fun xs H2 => Q (x :: xs) H2) (fun x H1 Q Q' k z => twA.mo _ _ (fun _ _ z => k _ _ z) z) (hE Γ X e m g q2 xo ρ σ φ H h re hm) fun u x φ1 H1 h1 _ rx hm1 e1 => ?_
    refine Sat.bind (T2 := fun xs H2 Q => Q (x :: xs) H2) twA.mo (fun xs H2 Q Q' k z => k _ _ z) (hEs Γ X es ms g q3 xo ρ σ φ1 H1 h1 (re.ext hm e1) hm1) fun us h2 _ xs φ2 H2 rxs hm2 e2 => ?_
    exact Sat.ok ⟨φ2, .cons (rx.kept (e2.kept hm1)) rxs, hm2, .refl⟩
  · cases q

/-! ### tests -/
/-- the tests that are no chain of tests: the value's truth -/
def plainT : Expr → Bool
  | .UnaryOp .Not _ _ => false
  | .BoolOp _ _ _ => false
  | .IfExp _ _ _ _ => false
  | .Compare _ _ _ _ => false
  | _ => true
theorem isTrue_plain' {e : Expr} (q : plainT e = true) (env : PySem.Env) (whole : Sem Value) : isTrue e env whole = (do let v ← whole; standAt e.pos; holding [v] (PySem.truthy v)) := by
  cases e <;> first | rfl | cases q | (rename_i o _ _; cases o <;> first | rfl | cases q)
theorem tst_of {e : Expr} (q : plainT e = true) (hK : X.K = S.L.K) {m : ME} {xo : Option Ex} (hE : Sat S.L X σ φ H (RVr S.L) (evalE S.G xo m ρ h) (twE X e σ H)) :
    Sat S.L X σ φ H (fun (b : Bool) c _ _ => c = b) (evalT S.G xo m ρ h) (twT X e σ H) := by
  unfold evalT
  refine Sat.imp (T := fun Q => twE X e σ H fun x H1 => trT X σ x H1 Q) ?_ fun Q z pins s I => ?_
  · exact sat1 (T2 := fun x H1 => trT X σ x H1) (fun x H1 => trT.mo) hE fun u x φ1 H1 h1 _ rx hm1 e1 => truthy_ok hK hm1 rx
  · rw [isTrue_plain' q]
    refine wpAny_bind (thn (z pins s I) fun v s1 ⟨x, H1, I1, r1, q1⟩ => wpAny_bind (wpAny_standAt (wpAny_holding ?_)))
    exact q1 v r1 pins s1 I1
/-- a test whose value is a bool -/
theorem tst_bool {e : Expr} {m : ME} {xo : Option Ex} {T0 : Tr V} (mo0 : Mo T0) (hE : Sat S.L X σ φ H (RVr S.L) (evalE S.G xo m ρ h) T0) (hb : ∀ d h', evalE S.G xo m ρ h = .ok d h' → ∃ b, d = .bl b) (hT : ∀ Q, (T0 fun x H1 => ∃ c, x = .bl c ∧ Q c H1) → twT X e σ H Q) :
    Sat S.L X σ φ H (fun (b : Bool) c _ _ => c = b) (evalT S.G xo m ρ h) (twT X e σ H) := by
  unfold evalT
  refine Sat.imp (T := fun Q => T0 fun x H1 => ∃ c, x = .bl c ∧ Q c H1) ?_ hT
  refine Sat.bind (T2 := fun x H1 Q => ∃ c, x = V.bl c ∧ Q c H1) mo0 (fun x H1 Q Q' k ⟨c, z, q⟩ => ⟨c, z, k _ _ q⟩) hE fun u h1 e x φ1 H1 rx hm1 e1 => ?_
  obtain ⟨b, rfl⟩ := hb u h1 e
  cases rx
  show Sat S.L X σ φ1 H1 _ (.ok b h1) _
  exact Sat.ok ⟨b, rfl, φ1, rfl, hm1, .refl⟩
end
end Mp
end
section
set_option Elab.async false
set_option linter.all false
set_option maxRecDepth 100000
set_option maxHeartbeats 4000000
/-! PySnd8: each construct of an expression, by the hypotheses for its parts. -/
namespace Mp
open PySem PySem.Spec PyProof.Rows L2

section
variable {S : SC} {Γ : TC} {X : Cx} {σ : L2.St} {φ : List Addr} {H : Hp} {h : MH} {ρ : Env} {n : Nat} {xo : Option Ex}

theorem copQ_ok {o : COp} {op : CmpOp} (q : copQ o op = true) : op = copOf o := by cases o <;> cases op <;> first | rfl | cases q
theorem bopQ_ok {o : BOp} {op : Operator} (q : bopQ o op = true) : op = bopOf o := by cases o <;> cases op <;> first | rfl | cases q
theorem bigLine : (1000000 : Nat) < sizeLine := by rw [sizeLine_eq]; decide
theorem base_ok {e : Expr} (q : baseQ e = true) (f : Str) (env : PySem.Env) (whole : Sem Value) : attributeBase e f env whole = whole := by
  unfold attributeBase
  split
  · rename_i e1 _ _
    simp [baseQ] at q
  · rfl

theorem opR_op (σ : L2.St) (f : Value → Value → Sem Value) : OpR X f (fun x y H Q => opT X σ f x y H Q) := fun pins s σ' H' x y v u Q' I rv ru q => q σ' v u rv ru pins s I
/-- one expression's operator -/
def unT (X : Cx) (σ : L2.St) (f : Value → Sem Value) (x : V) (H : Hp) : Tr V := fun Q => ∀ v, RelV x v → runT X σ H (f v) Q
theorem unT.mo {f : Value → Sem Value} {x : V} {H : Hp} : Mo (unT X σ f x H) := fun Q Q' k h v rv => runT.mo _ _ k (h v rv)

theorem cE_bin (g : Good S Γ X) {o : BOp} {op : Operator} {a b : Expr} {ma mb : ME} {pos : Pos} (ho : bopQ o op = true) (hm : RH S.L φ H h) (re : RE S.L φ H ρ σ)
    (ha : Sat S.L X σ φ H (RVr S.L) (evalE S.G xo ma ρ h) (twE X a σ H)) (hb : ∀ φ1 H1 h1, RH S.L φ1 H1 h1 → Ext φ H φ1 H1 → Sat S.L X σ φ1 H1 (RVr S.L) (evalE S.G xo mb ρ h1) (twE X b σ H1)) :
    Sat S.L X σ φ H (RVr S.L) (evalE S.G xo (.bin o ma mb) ρ h) (twE X (.BinOp a op b pos) σ H) := by
  have := bopQ_ok ho
  subst this
  simp only [evalE]
  refine Sat.imp (sat2 (T2 := fun x y H2 => opT X σ (binaryOp (bopOf o)) x y H2) hm (fun _ _ _ => opT.mo) ha hb fun u v x y φ2 H2 h2 rx ry hm2 => binop_ok g.K hm2 rx ry) fun Q z => ?_
  exact tw_of (pe_op (r := fun x y H Q => opT X σ (binaryOp (bopOf o)) x y H Q) (opR_op σ _) pe_tw pe_tw) z

theorem cE_lit {d : D} {e : Expr} (q : (match d with
      | .int i => (match e with | .Constant (.int j) _ _ => decide (j = i) | _ => false)
      | .bl i => (match e with | .Constant (.bool j) _ _ => decide (j = i) | _ => false)
      | .str s => (match e with | .Constant (.str x) _ _ => decide (x = stOf s) | _ => false)
      | .non => (match e with | .Constant .none _ _ => true | _ => false)
      | _ => false) = true) (hm : RH S.L φ H h) : Sat S.L X σ φ H (RVr S.L) (evalE S.G xo (.lit d) ρ h) (twE X e σ H) := by
  simp only [evalE]
  split at q
  · split at q
    · have := of_decide_eq_true q; subst this
      exact Sat.ok (tw_of pe_int (here hm (.int _)))
    · cases q
  · split at q
    · have := of_decide_eq_true q; subst this
      exact Sat.ok (tw_of pe_bl (here hm (.bl _)))
    · cases q
  · split at q
    · have := of_decide_eq_true q; subst this
      exact Sat.ok (tw_of pe_str (here hm (.str _)))
    · cases q
  · split at q
    · exact Sat.ok (tw_of pe_non (here hm .non))
    · cases q
  · cases q
theorem cE_var (g : Good S Γ X) {i : Nat} {x : Str} {pos : Pos} (q : visQ Γ i x = true) (hm : RH S.L φ H h) (re : RE S.L φ H ρ σ) : Sat S.L X σ φ H (RVr S.L) (evalE S.G xo (.var i) ρ h) (twE X (.Name x pos) σ H) := by
  simp only [evalE]
  split
  · rename_i d e
    obtain ⟨v, e1, rv⟩ := re.get i d e
    obtain ⟨a, b⟩ := visQ_ok g q
    obtain ⟨c1, c2⟩ := clean_dbg g a
    exact Sat.ok (tw_of (pe_var a b c1 c2) ⟨v, e1, here hm rv⟩)
  · trivial
theorem cE_glob (F : Facts S) (g : Good S Γ X) {i : Nat} {x : Str} {pos : Pos} (q1 : glQ Γ x = true) (q2 : S.T.consts[i]? = some x) (hm : RH S.L φ H h) : Sat S.L X σ φ H (RVr S.L) (evalE S.G xo (.glob i) ρ h) (twE X (.Name x pos) σ H) := by
  simp only [evalE]
  obtain ⟨nd, u, d, v, e1, e2, rv, r⟩ := F.con i x q2
  rw [e2]
  refine Sat.ok (tw_of (pe_glob (glQ_ok g q1) (by rw [g.mg]; exact e1) rv (beq_eq_false_iff_ne.mpr nd)) (here hm (r φ H)))
theorem cE_tup {es : List Expr} {ms : List ME} {k : Nat} {pos : Pos} (hl : es.length ≤ 1000000) (hml : ms.length = es.length) (hm : RH S.L φ H h)
    (ha : Sat S.L X σ φ H (RVsr S.L) (evalEs S.G xo ms ρ h) (twA X es σ H)) : Sat S.L X σ φ H (RVr S.L) (evalE S.G xo (.tup ms) ρ h) (twE X (.Tuple es k pos) σ H) := by
  simp only [evalE]
  refine Sat.imp (Sat.bind (T2 := fun (xs : List V) (H1 : Hp) (Q : VK) => xs.length ≤ sizeLine ∧ ∀ p, H1 p = none → Q (V.ref p) (upd H1 p (.tup xs))) twA.mo (fun xs H1 Q Q' k ⟨a, b⟩ => ⟨a, fun p hp => k _ _ (b p hp)⟩) ha fun ds h1 e xs φ1 H1 rx hm1 e1 => ?_) fun Q z => tw_of (pe_tup pa_tw) z
  refine Sat.ok ⟨?_, fun p hp => newT hm1 rx hp⟩
  have := evalEs_len e
  have := rx.length
  have := bigLine
  omega
theorem cE_lst {es : List Expr} {ms : List ME} {pos : Pos} (hl : es.length ≤ 1000000) (hml : ms.length = es.length) (hm : RH S.L φ H h)
    (ha : Sat S.L X σ φ H (RVsr S.L) (evalEs S.G xo ms ρ h) (twA X es σ H)) : Sat S.L X σ φ H (RVr S.L) (evalE S.G xo (.lst ms) ρ h) (twE X (.List es pos) σ H) := by
  simp only [evalE]
  refine Sat.imp (Sat.bind (T2 := fun (xs : List V) (H1 : Hp) (Q : VK) => xs.length ≤ sizeLine ∧ ∀ p, H1 p = none → Q (V.ref p) (upd H1 p (.lst xs))) twA.mo (fun xs H1 Q Q' k ⟨a, b⟩ => ⟨a, fun p hp => k _ _ (b p hp)⟩) ha fun ds h1 e xs φ1 H1 rx hm1 e1 => ?_) fun Q z => tw_of (pe_lst pa_tw) z
  refine Sat.ok ⟨?_, fun p hp => newL hm1 rx hp⟩
  have := evalEs_len e
  have := rx.length
  have := bigLine
  omega
theorem cE_neg {a : Expr} {ma : ME} {pos : Pos} (ha : Sat S.L X σ φ H (RVr S.L) (evalE S.G xo ma ρ h) (twE X a σ H)) : Sat S.L X σ φ H (RVr S.L) (evalE S.G xo (.neg ma) ρ h) (twE X (.UnaryOp .USub a pos) σ H) := by
  simp only [evalE]
  refine Sat.imp (sat1 (T2 := fun (x : V) (H1 : Hp) (Q : VK) => ∃ i, x = V.int i ∧ Q (V.int (-i)) H1) (fun x H1 Q Q' k ⟨i, a, b⟩ => ⟨i, a, k _ _ b⟩) ha fun u x φ1 H1 h1 _ rx hm1 e1 => ?_) fun Q z => tw_of (pe_un un_neg pe_tw) z
  split
  · cases rx
    exact Sat.ok ⟨_, rfl, here hm1 (.int _)⟩
  · trivial
theorem co_cmp (F : Facts S) (g : Good S Γ X) {o : COp} {a b : Expr} {ma mb : ME} (hm : RH S.L φ H h)
    (ha : Sat S.L X σ φ H (RVr S.L) (evalE S.G xo ma ρ h) (twE X a σ H)) (hb : ∀ φ1 H1 h1, RH S.L φ1 H1 h1 → Ext φ H φ1 H1 → Sat S.L X σ φ1 H1 (RVr S.L) (evalE S.G xo mb ρ h1) (twE X b σ H1)) :
    Sat S.L X σ φ H (RVr S.L) (evalE S.G xo (.cmp o ma mb) ρ h) (fun Q => twE X a σ H fun x H1 => twE X b σ H1 fun y H2 => opT X σ (compareOp (copOf o)) x y H2 Q) := by
  simp only [evalE]
  rw [F.kts]
  refine sat2 (T2 := fun x y H2 => opT X σ (compareOp (copOf o)) x y H2) hm (fun _ _ _ => opT.mo) ha hb fun u v x y φ2 H2 h2 rx ry hm2 => ?_
  have hu := g.un
  refine Sat.bind (T2 := fun (v : V) (H' : Hp) (Q : VK) => Q v H') opT.mo (fun _ _ _ _ k z => k _ _ z) (cmpD_ok (σ := σ) g.K (by omega) hm2 rx ry) fun b h3 _ v φ3 H3 rv hm3 e3 => ?_
  subst rv
  exact Sat.ok (here hm3 (.bl _))
theorem cE_cmp (F : Facts S) (g : Good S Γ X) {o : COp} {op : CmpOp} {a b : Expr} {ma mb : ME} {pos : Pos} (ho : copQ o op = true) (hbm : behindInMarks op b = false) (hm : RH S.L φ H h)
    (ha : Sat S.L X σ φ H (RVr S.L) (evalE S.G xo ma ρ h) (twE X a σ H)) (hb : ∀ φ1 H1 h1, RH S.L φ1 H1 h1 → Ext φ H φ1 H1 → Sat S.L X σ φ1 H1 (RVr S.L) (evalE S.G xo mb ρ h1) (twE X b σ H1)) :
    Sat S.L X σ φ H (RVr S.L) (evalE S.G xo (.cmp o ma mb) ρ h) (twE X (.Compare a [op] [b] pos) σ H) := by
  have := copQ_ok ho
  subst this
  exact Sat.imp (co_cmp F g hm ha hb) fun Q z => tw_of (pe_cmpR (opR_op σ _) pe_tw pe_tw hbm) z
theorem isNon_eq {d : D} {x : V} (r : RV S.L φ H d x) : decide (x = .non) = isNonD d := by cases r <;> simp [isNonD]
theorem co_isN {a : Expr} {ma : ME} (ha : Sat S.L X σ φ H (RVr S.L) (evalE S.G xo ma ρ h) (twE X a σ H)) : Sat S.L X σ φ H (RVr S.L) (evalE S.G xo (.isN ma) ρ h) (fun Q => twE X a σ H fun x H1 => Q (V.bl (decide (x = V.non))) H1) := by
  simp only [evalE]
  refine sat1 (T2 := fun (x : V) (H1 : Hp) (Q : VK) => Q (V.bl (decide (x = V.non))) H1) (fun x H1 Q Q' k z => k _ _ z) ha fun u x φ1 H1 h1 _ rx hm1 e1 => ?_
  refine Sat.ok ?_
  rw [isNon_eq rx]
  exact here hm1 (.bl _)
theorem cE_isN {a : Expr} {ma : ME} {pos p2 : Pos} {j : Nat} (ha : Sat S.L X σ φ H (RVr S.L) (evalE S.G xo ma ρ h) (twE X a σ H)) : Sat S.L X σ φ H (RVr S.L) (evalE S.G xo (.isN ma) ρ h) (twE X (.Compare a [.Is] [.Constant .none j p2] pos) σ H) :=
  Sat.imp (co_isN ha) fun Q z => tw_of (pe_cmp (pc_isN pe_tw) (by rfl)) z
theorem co_notN {a : Expr} {ma : ME} (ha : Sat S.L X σ φ H (RVr S.L) (evalE S.G xo ma ρ h) (twE X a σ H)) : Sat S.L X σ φ H (RVr S.L) (evalE S.G xo (.notN ma) ρ h) (fun Q => twE X a σ H fun x H1 => Q (V.bl (!decide (x = V.non))) H1) := by
  simp only [evalE]
  refine sat1 (T2 := fun (x : V) (H1 : Hp) (Q : VK) => Q (V.bl (!decide (x = V.non))) H1) (fun x H1 Q Q' k z => k _ _ z) ha fun u x φ1 H1 h1 _ rx hm1 e1 => ?_
  refine Sat.ok ?_
  rw [isNon_eq rx]
  exact here hm1 (.bl _)
theorem cE_notN {a : Expr} {ma : ME} {pos p2 : Pos} {j : Nat} (ha : Sat S.L X σ φ H (RVr S.L) (evalE S.G xo ma ρ h) (twE X a σ H)) : Sat S.L X σ φ H (RVr S.L) (evalE S.G xo (.notN ma) ρ h) (twE X (.Compare a [.IsNot] [.Constant .none j p2] pos) σ H) :=
  Sat.imp (co_notN ha) fun Q z => tw_of (pe_cmp (pc_notN pe_tw) (by rfl)) z
theorem co_chain (F : Facts S) (g : Good S Γ X) {o p : COp} {a b c : Expr} {ma mb mc : ME} (hm : RH S.L φ H h)
    (ha : Sat S.L X σ φ H (RVr S.L) (evalE S.G xo ma ρ h) (twE X a σ H)) (hb : ∀ φ1 H1 h1, RH S.L φ1 H1 h1 → Ext φ H φ1 H1 → Sat S.L X σ φ1 H1 (RVr S.L) (evalE S.G xo mb ρ h1) (twE X b σ H1))
    (hc : ∀ φ1 H1 h1, RH S.L φ1 H1 h1 → Ext φ H φ1 H1 → Sat S.L X σ φ1 H1 (RVr S.L) (evalE S.G xo mc ρ h1) (twE X c σ H1)) :
    Sat S.L X σ φ H (RVr S.L) (evalE S.G xo (.chain o p ma mb mc) ρ h) (fun Q => twE X a σ H fun x H1 => twE X b σ H1 fun y H2 => opT X σ (compareOp (copOf o)) x y H2 fun z H3 => ∃ k, z = .bl k ∧ (if k = true then twE X c σ H3 fun w' H4 => opT X σ (compareOp (copOf p)) y w' H4 Q else Q (.bl false) H3)) := by
  simp only [evalE]
  rw [F.kts]
  have hu := g.un
  have mo3 : ∀ y z H3, Mo (fun Q : V → Hp → Prop => ∃ k, z = V.bl k ∧ (if k = true then twE X c σ H3 fun w' H4 => opT X σ (compareOp (copOf p)) y w' H4 Q else Q (.bl false) H3)) := fun y z H3 Q Q' k ⟨b, e, q⟩ => by
    refine ⟨b, e, ?_⟩
    cases b with
    | true =>
      rw [if_pos rfl] at q ⊢
      exact twE.mo _ _ (fun w H4 q => opT.mo _ _ k q) q
    | false =>
      rw [if_neg Bool.false_ne_true] at q ⊢
      exact k _ _ q
  refine Sat.bind (T2 := fun x H1 Q => twE X b σ H1 fun y H2 => opT X σ (compareOp (copOf o)) x y H2 fun z H3 => ∃ k, z = .bl k ∧ (if k = true then twE X c σ H3 fun w' H4 => opT X σ (compareOp (copOf p)) y w' H4 Q else Q (.bl false) H3)) twE.mo
    (fun x H1 Q Q' k z => twE.mo _ _ (fun y H2 z => opT.mo _ _ (fun z H3 q => mo3 y z H3 _ _ k q) z) z) ha fun u h1 _ x φ1 H1 rx hm1 e1 => ?_
  refine Sat.bind (T2 := fun y H2 Q => opT X σ (compareOp (copOf o)) x y H2 fun z H3 => ∃ k, z = .bl k ∧ (if k = true then twE X c σ H3 fun w' H4 => opT X σ (compareOp (copOf p)) y w' H4 Q else Q (.bl false) H3)) twE.mo
    (fun y H2 Q Q' k z => opT.mo _ _ (fun z H3 q => mo3 y z H3 _ _ k q) z) (hb φ1 H1 h1 hm1 e1) fun v h2 _ y φ2 H2 ry hm2 e2 => ?_
  have e12 := e1.trans e2
  refine Sat.bind (T2 := fun z H3 Q => ∃ k, z = V.bl k ∧ (if k = true then twE X c σ H3 fun w' H4 => opT X σ (compareOp (copOf p)) y w' H4 Q else Q (.bl false) H3)) opT.mo (fun z H3 => mo3 y z H3) (cmpD_ok (σ := σ) g.K (by omega) hm2 (rx.kept (e2.kept hm1)) ry) fun k h3 _ z φ3 H3 rz hm3 e3 => ?_
  subst rz
  cases k with
  | false =>
    rw [if_neg Bool.false_ne_true]
    refine Sat.imp (T := retT (.bl false) H3) (Sat.ok (here hm3 (.bl _))) fun Q z => ⟨false, rfl, ?_⟩
    rw [if_neg Bool.false_ne_true]; exact z
  | true =>
    rw [if_pos rfl]
    refine Sat.imp (T := fun Q => twE X c σ H3 fun w' H4 => opT X σ (compareOp (copOf p)) y w' H4 Q) ?_ fun Q z => ⟨true, rfl, ?_⟩
    · refine sat1 (T2 := fun w' H4 => opT X σ (compareOp (copOf p)) y w' H4) (fun _ _ => opT.mo) (hc φ3 H3 h3 hm3 (e12.trans e3)) fun w w' φ4 H4 h4 _ rw' hm4 e4 => ?_
      refine Sat.bind (T2 := fun (v : V) (H' : Hp) (Q : VK) => Q v H') opT.mo (fun _ _ _ _ k z => k _ _ z) (cmpD_ok (σ := σ) g.K (by omega) hm4 (ry.kept ((e3.trans e4).kept hm2)) rw') fun b h5 _ v φ5 H5 rv hm5 e5 => ?_
      subst rv
      exact Sat.ok (here hm5 (.bl _))
    · rw [if_pos rfl]; exact z

theorem cE_chain (F : Facts S) (g : Good S Γ X) {o p : COp} {op op' : CmpOp} {a b c : Expr} {ma mb mc : ME} {pos : Pos} (ho : copQ o op = true) (hp : copQ p op' = true) (hl : lastMarks [op, op'] [b, c] = false) (hm : RH S.L φ H h)
    (ha : Sat S.L X σ φ H (RVr S.L) (evalE S.G xo ma ρ h) (twE X a σ H)) (hb : ∀ φ1 H1 h1, RH S.L φ1 H1 h1 → Ext φ H φ1 H1 → Sat S.L X σ φ1 H1 (RVr S.L) (evalE S.G xo mb ρ h1) (twE X b σ H1))
    (hc : ∀ φ1 H1 h1, RH S.L φ1 H1 h1 → Ext φ H φ1 H1 → Sat S.L X σ φ1 H1 (RVr S.L) (evalE S.G xo mc ρ h1) (twE X c σ H1)) :
    Sat S.L X σ φ H (RVr S.L) (evalE S.G xo (.chain o p ma mb mc) ρ h) (twE X (.Compare a [op, op'] [b, c] pos) σ H) := by
  have := copQ_ok ho
  subst this
  have := copQ_ok hp
  subst this
  exact Sat.imp (co_chain F g hm ha hb hc) fun Q z => tw_of (pe_chain (opR_op σ _) (opR_op σ _) pe_tw pe_tw pe_tw hl) z

/-! ### and, or, not, if -/
theorem pe_bo {op : BoolOp} {b : Expr} {r : List Expr} {pos : Pos} : PE X (.BoolOp op (b :: r) pos) (match r with | [] => twE X b | _ => twE X (.BoolOp op (b :: r) pos)) := by
  cases r with
  | nil => exact pe_one pe_tw
  | cons c r => exact pe_tw
theorem cE_and (g : Good S Γ X) {a b : Expr} {r : List Expr} {ma mb : ME} {pos : Pos} (hm : RH S.L φ H h)
    (ha : Sat S.L X σ φ H (RVr S.L) (evalE S.G xo ma ρ h) (twE X a σ H)) (hb : ∀ φ1 H1 h1, RH S.L φ1 H1 h1 → Ext φ H φ1 H1 → Sat S.L X σ φ1 H1 (RVr S.L) (evalE S.G xo mb ρ h1) ((match r with | [] => twE X b | _ => twE X (.BoolOp .And (b :: r) pos)) σ H1)) :
    Sat S.L X σ φ H (RVr S.L) (evalE S.G xo (.and ma mb) ρ h) (twE X (.BoolOp .And (a :: b :: r) pos) σ H) := by
  simp only [evalE]
  generalize hT : (match r with | [] => twE X b | _ => twE X (.BoolOp .And (b :: r) pos)) = tb at hb
  have mob : ∀ H1, Mo (tb σ H1) := fun H1 => by
    subst hT
    cases r <;> exact twE.mo
  have pb : PE X (.BoolOp .And (b :: r) pos) tb := by subst hT; exact pe_bo
  refine Sat.imp (sat1 (T2 := fun (x : V) (H1 : Hp) (Q : VK) => ∃ k, TruV X.K x H1 k ∧ if k = true then tb σ H1 Q else Q x H1) (fun x H1 Q Q' k ⟨b, t, q⟩ => ⟨b, t, ?_⟩) ha fun u x φ1 H1 h1 _ rx hm1 e1 => ?_) fun Q z => tw_of (pe_andT pe_tw pb) z
  · cases b with
    | true => rw [if_pos rfl] at q ⊢; exact mob _ _ _ k q
    | false => rw [if_neg Bool.false_ne_true] at q ⊢; exact k _ _ q
  · unfold tstB
    cases e : Mp.truthy h1 u with
    | none => trivial
    | some k =>
      have t := truV_ok g.K hm1 rx e
      simp only [Rs.opt, Rs.bind]
      cases k with
      | true => exact Sat.imp (hb φ1 H1 h1 hm1 e1) fun Q z => ⟨true, t, by rw [if_pos rfl]; exact z⟩
      | false => exact Sat.imp (T := retT x H1) (Sat.ok (here hm1 rx)) fun Q z => ⟨false, t, by rw [if_neg Bool.false_ne_true]; exact z⟩
theorem cE_or (g : Good S Γ X) {a b : Expr} {r : List Expr} {ma mb : ME} {pos : Pos} (hm : RH S.L φ H h)
    (ha : Sat S.L X σ φ H (RVr S.L) (evalE S.G xo ma ρ h) (twE X a σ H)) (hb : ∀ φ1 H1 h1, RH S.L φ1 H1 h1 → Ext φ H φ1 H1 → Sat S.L X σ φ1 H1 (RVr S.L) (evalE S.G xo mb ρ h1) ((match r with | [] => twE X b | _ => twE X (.BoolOp .Or (b :: r) pos)) σ H1)) :
    Sat S.L X σ φ H (RVr S.L) (evalE S.G xo (.or ma mb) ρ h) (twE X (.BoolOp .Or (a :: b :: r) pos) σ H) := by
  simp only [evalE]
  generalize hT : (match r with | [] => twE X b | _ => twE X (.BoolOp .Or (b :: r) pos)) = tb at hb
  have mob : ∀ H1, Mo (tb σ H1) := fun H1 => by
    subst hT
    cases r <;> exact twE.mo
  have pb : PE X (.BoolOp .Or (b :: r) pos) tb := by subst hT; exact pe_bo
  refine Sat.imp (sat1 (T2 := fun (x : V) (H1 : Hp) (Q : VK) => ∃ k, TruV X.K x H1 k ∧ if k = true then Q x H1 else tb σ H1 Q) (fun x H1 Q Q' k ⟨b, t, q⟩ => ⟨b, t, ?_⟩) ha fun u x φ1 H1 h1 _ rx hm1 e1 => ?_) fun Q z => tw_of (pe_orT pe_tw pb) z
  · cases b with
    | false => rw [if_neg Bool.false_ne_true] at q ⊢; exact mob _ _ _ k q
    | true => rw [if_pos rfl] at q ⊢; exact k _ _ q
  · unfold tstB
    cases e : Mp.truthy h1 u with
    | none => trivial
    | some k =>
      have t := truV_ok g.K hm1 rx e
      simp only [Rs.opt, Rs.bind]
      cases k with
      | false => exact Sat.imp (hb φ1 H1 h1 hm1 e1) fun Q z => ⟨false, t, by rw [if_neg Bool.false_ne_true]; exact z⟩
      | true => exact Sat.imp (T := retT x H1) (Sat.ok (here hm1 rx)) fun Q z => ⟨true, t, by rw [if_pos rfl]; exact z⟩
theorem cE_not (g : Good S Γ X) {a : Expr} {ma : ME} {pos : Pos} (ha : Sat S.L X σ φ H (RVr S.L) (evalE S.G xo ma ρ h) (twE X a σ H)) : Sat S.L X σ φ H (RVr S.L) (evalE S.G xo (.not ma) ρ h) (twE X (.UnaryOp .Not a pos) σ H) := by
  simp only [evalE]
  refine Sat.imp (sat1 (T2 := fun (x : V) (H1 : Hp) (Q : VK) => ∃ k, TruV X.K x H1 k ∧ Q (V.bl (!k)) H1) (fun x H1 Q Q' k ⟨b, t, q⟩ => ⟨b, t, k _ _ q⟩) ha fun u x φ1 H1 h1 _ rx hm1 e1 => ?_) fun Q z => tw_of (pe_notT pe_tw) z
  unfold tstB
  cases e : Mp.truthy h1 u with
  | none => trivial
  | some k => exact Sat.ok ⟨k, truV_ok g.K hm1 rx e, here hm1 (.bl _)⟩
theorem bind_assoc' {α β γ : Type} (r : Rs α) (f : α → MH → Rs β) (k : β → MH → Rs γ) : (r.bind f).bind k = r.bind fun a h => (f a h).bind k := by cases r <;> rfl
theorem cE_ite {a b c : Expr} {ma mb mc : ME} {pos : Pos} (hm : RH S.L φ H h)
    (hc : Sat S.L X σ φ H (fun (b : Bool) c _ _ => c = b) (evalT S.G xo mc ρ h) (twT X c σ H))
    (ha : ∀ φ1 H1 h1, RH S.L φ1 H1 h1 → Ext φ H φ1 H1 → Sat S.L X σ φ1 H1 (RVr S.L) (evalE S.G xo ma ρ h1) (twE X a σ H1)) (hb : ∀ φ1 H1 h1, RH S.L φ1 H1 h1 → Ext φ H φ1 H1 → Sat S.L X σ φ1 H1 (RVr S.L) (evalE S.G xo mb ρ h1) (twE X b σ H1)) :
    Sat S.L X σ φ H (RVr S.L) (evalE S.G xo (.ite mc ma mb) ρ h) (twE X (.IfExp c a b pos) σ H) := by
  have e : evalE S.G xo (.ite mc ma mb) ρ h = (evalT S.G xo mc ρ h).bind fun k h2 => if k then evalE S.G xo ma ρ h2 else evalE S.G xo mb ρ h2 := by
    simp only [evalE]
    unfold evalT
    rw [bind_assoc']
  rw [e]
  refine Sat.imp (Sat.bind (T2 := fun (k : Bool) (H1 : Hp) (Q : VK) => if k = true then twE X a σ H1 Q else twE X b σ H1 Q) twT.mo (fun k H1 Q Q' kk q => ?_) hc fun k h1 _ c φ1 H1 rc hm1 e1 => ?_) fun Q z => tw_of (pe_ifExp pt_tw pe_tw pe_tw) z
  · cases k with
    | true => rw [if_pos rfl] at q ⊢; exact twE.mo _ _ kk q
    | false => rw [if_neg Bool.false_ne_true] at q ⊢; exact twE.mo _ _ kk q
  · subst rc
    cases c with
    | true => exact ha φ1 H1 h1 hm1 e1
    | false => exact hb φ1 H1 h1 hm1 e1

/-! ### subscripts, fields -/
theorem slice_ok {e : Expr} (q : notSlice e = true) : ∀ o i, subscripted e false o i = operate [o, i] (getItem o i) := by cases e <;> first | (intro _ _; rfl) | cases q
theorem cE_ix (F : Facts S) (g : Good S Γ X) {a b : Expr} {ma mb : ME} {pos : Pos} (q : notSlice b = true) (hm : RH S.L φ H h)
    (ha : Sat S.L X σ φ H (RVr S.L) (evalE S.G xo ma ρ h) (twE X a σ H)) (hb : ∀ φ1 H1 h1, RH S.L φ1 H1 h1 → Ext φ H φ1 H1 → Sat S.L X σ φ1 H1 (RVr S.L) (evalE S.G xo mb ρ h1) (twE X b σ H1)) :
    Sat S.L X σ φ H (RVr S.L) (evalE S.G xo (.ix ma mb) ρ h) (twE X (.Subscript a b pos) σ H) := by
  simp only [evalE]
  rw [F.kts]
  have hu := g.un
  refine Sat.imp (sat2 (T2 := fun x y H2 => ixT X a b σ x y H2) hm (fun _ _ _ => ixT.mo) ha hb fun u v x y φ2 H2 h2 rx ry hm2 => getIx_ok g.K (by omega) hm2 rx ry) fun Q z => fun pins s I => ?_
  exact Subscript_ (binT pe_tw pe_tw I z fun v u s2 x y H2 I2 rx ry q' => q' σ v u rx ry (slice_ok q) pins s2 I2)
theorem clip_eq (n d : Nat) (o : Option Int) : clip n d o = HT.sIx n d o := by cases o <;> rfl
theorem cut_ok {xs : List D} {vs : List V} (r : RVs S.L φ H xs vs) (lo hi : Option Int) : RVs S.L φ H (cut xs lo hi) (cutV vs lo hi) := by
  unfold cut cutV
  rw [clip_eq, clip_eq, r.length]
  exact (r.drop _).take _
theorem cut_all {xs : List D} {lo hi : Option Int} (h1 : clip xs.length 0 lo = 0) (h2 : clip xs.length xs.length hi = xs.length) : cut xs lo hi = xs := by
  unfold cut
  rw [h1, h2]
  simp
/-- a part of a slice -/
def twO (X : Cx) (e : Option Expr) : TO := fun σ H Q => ∀ pins s, Inv X pins σ H s → wpAny (model X.prog X.w) X.A (evalPart e X.env) (fun u s' => ∃ o H', Inv X pins σ H' s' ∧ IsPart u o ∧ Q o H') X.xe s
theorem twO.mo {e : Option Expr} : Mo (twO X e σ H) := fun Q Q' k h pins s I => thn (h pins s I) fun u s' ⟨o, H', I', p, q⟩ => ⟨o, H', I', p, k _ _ q⟩
theorem po_tw {e : Option Expr} : PO X e (twO X e) := ⟨fun pins s σ H Q I h => h pins s I⟩
abbrev HypO (S : SC) (n : Nat) : Prop := ∀ Γ X e m, Good S Γ X → ckO n S.T Γ e m = true → ∀ xo ρ σ φ H h, RQ S Γ X xo φ H ρ σ → RH S.L φ H h → Sat S.L X σ φ H (fun (o : Option Int) o' _ _ => o' = o) (evalO S.G xo m ρ h) (twO X e σ H)
theorem stepO (hE : HypE S n) : HypO S (n + 1) := by
  intro Γ X e m g q xo ρ σ φ H h re hm
  unfold ckO at q
  split at q
  · simp only [evalO]
    exact Sat.ok (fun pins s I => po_none.run pins s σ H _ I ⟨φ, rfl, hm, .refl⟩)
  · rename_i e m
    simp only [evalO]
    refine Sat.imp (sat1 (T2 := fun (x : V) (H1 : Hp) (Q : Option Int → Hp → Prop) => ∃ i, x = V.int i ∧ Q (some i) H1) (fun x H1 Q Q' k ⟨i, a, b⟩ => ⟨i, a, k _ _ b⟩) (hE Γ X e m g q xo ρ σ φ H h re hm) fun u x φ1 H1 h1 _ rx hm1 e1 => ?_) fun Q z => fun pins s I => (po_some pe_tw).run pins s σ H _ I z
    split
    · cases rx
      exact Sat.ok ⟨_, rfl, φ1, rfl, hm1, .refl⟩
    · trivial
  · cases q
theorem cE_sl (g : Good S Γ X) {a : Expr} {lo hi : Option Expr} {ma : ME} {ml mh : Option ME} {pos p2 : Pos} (hm : RH S.L φ H h)
    (ha : Sat S.L X σ φ H (RVr S.L) (evalE S.G xo ma ρ h) (twE X a σ H))
    (hl : ∀ φ1 H1 h1, RH S.L φ1 H1 h1 → Ext φ H φ1 H1 → Sat S.L X σ φ1 H1 (fun (o : Option Int) o' _ _ => o' = o) (evalO S.G xo ml ρ h1) (twO X lo σ H1))
    (hh : ∀ φ1 H1 h1, RH S.L φ1 H1 h1 → Ext φ H φ1 H1 → Sat S.L X σ φ1 H1 (fun (o : Option Int) o' _ _ => o' = o) (evalO S.G xo mh ρ h1) (twO X hi σ H1)) :
    Sat S.L X σ φ H (RVr S.L) (evalE S.G xo (.sl ma ml mh) ρ h) (twE X (.Subscript a (.Slice lo hi none p2) pos) σ H) := by
  simp only [evalE]
  have mo : ∀ x l u H3, Mo (fun Q : VK => rSlA X.K x l u H3 Q ∨ rSlL X.K x l u H3 Q) := fun x l u H3 Q Q' k z => by
    rcases z with ⟨a, xs, e, hs, q1, q2⟩ | ⟨a, xs, e, hs, q⟩
    · exact .inl ⟨a, xs, e, hs, fun z => k _ _ (q1 z), fun z p hp => k _ _ (q2 z p hp)⟩
    · exact .inr ⟨a, xs, e, hs, fun p hp => k _ _ (q p hp)⟩
  refine Sat.imp (T := fun Q => twE X a σ H fun x H1 => twO X lo σ H1 fun l H2 => twO X hi σ H2 fun u H3 => rSlA X.K x l u H3 Q ∨ rSlL X.K x l u H3 Q) ?_ fun Q z => tw_of (pe_slice (sl_tupA.or sl_list) pe_tw po_tw po_tw) z
  refine Sat.bind (T2 := fun x H1 Q => twO X lo σ H1 fun l H2 => twO X hi σ H2 fun u H3 => rSlA X.K x l u H3 Q ∨ rSlL X.K x l u H3 Q) twE.mo
    (fun x H1 Q Q' k z => twO.mo _ _ (fun l H2 z => twO.mo _ _ (fun u H3 z => mo x l u H3 _ _ k z) z) z) ha fun u h1 _ x φ1 H1 rx hm1 e1 => ?_
  refine Sat.bind (T2 := fun l H2 Q => twO X hi σ H2 fun u H3 => rSlA X.K x l u H3 Q ∨ rSlL X.K x l u H3 Q) twO.mo (fun l H2 Q Q' k z => twO.mo _ _ (fun u H3 z => mo x l u H3 _ _ k z) z) (hl φ1 H1 h1 hm1 e1) fun l h2 _ l' φ2 H2 rl hm2 e2 => ?_
  subst rl
  refine Sat.bind (T2 := fun u H3 Q => rSlA X.K x l' u H3 Q ∨ rSlL X.K x l' u H3 Q) twO.mo (fun u H3 => mo x l' u H3) (hh φ2 H2 h2 hm2 (e1.trans e2)) fun k h3 _ k' φ3 H3 rk hm3 e3 => ?_
  subst rk
  have rx := rx.kept ((e2.trans e3).kept hm1)
  unfold slD
  split
  · obtain ⟨b, vs, rfl, hb, rb⟩ := rx.tupAt
    rw [← g.K] at hb
    refine Sat.ok (.inl ⟨b, vs, rfl, hb, fun z => ?_, fun z p hp => newT hm3 (cut_ok rb _ _) hp⟩)
    rw [cut_all (by rw [clip_eq, rb.length]; exact z.1) (by rw [clip_eq, rb.length]; exact z.2)]
    exact here hm3 rx
  · obtain ⟨b, vs, rfl, hb, rb⟩ := rx.fzAt
    rw [← g.K] at hb
    exact Sat.ok (.inr ⟨b, vs, rfl, hb, fun p hp => newL hm3 (cut_ok rb _ _) hp⟩)
  · split
    · rename_i e
      cases rx with
      | ref hr =>
      obtain ⟨vs, hb, rb⟩ := lstAt hm3 hr (seqAt e)
      exact Sat.ok (.inr ⟨_, vs, rfl, .of hb, fun p hp => newL hm3 (cut_ok rb _ _) hp⟩)
    · trivial
  · trivial
theorem cE_fld (F : Facts S) (g : Good S Γ X) {a : Expr} {ma : ME} {f : Nat} {x : Str} {pos : Pos} (q1 : x = S.T.attr f) (q2 : baseQ a = true)
    (ha : Sat S.L X σ φ H (RVr S.L) (evalE S.G xo ma ρ h) (twE X a σ H)) : Sat S.L X σ φ H (RVr S.L) (evalE S.G xo (.fld ma f) ρ h) (twE X (.Attribute a x pos) σ H) := by
  simp only [evalE]
  subst q1
  rw [F.attr]
  refine Sat.imp (sat1 (T2 := fun x H1 => flT X σ x (S.L.at_ f) H1) (fun _ _ => flT.mo) ha fun u x φ1 H1 h1 _ rx hm1 e1 => getF_ok g.K F.cls hm1 rx) fun Q z => fun pins s I => ?_
  exact attr_of (base_ok q2 _ _ _) (thn (z pins s I) fun v s1 ⟨y, H1, I1, r1, q1⟩ => q1 v r1 true pins s1 I1)
end
end Mp
end
section
set_option Elab.async false
set_option linter.all false
set_option maxRecDepth 100000
set_option maxHeartbeats 4000000
/-! PySnd9: calls; the step of the induction over expressions, tests. -/
namespace Mp
open PySem PySem.Spec PyProof.Rows L2

section
variable {S : SC} {Γ : TC} {X : Cx} {σ : L2.St} {φ : List Addr} {H : Hp} {h : MH} {ρ : Env} {n : Nat} {xo : Option Ex}

theorem FnOk.at {P P' : Program} {w w' : World} {K K' : PySem.W.Frag} {mg mg' : Str → Option Value} {base base' : Heap} {k : Nat} {f : Addr} {fd : FuncData} {ps : List Str} {sp : Sp}
    (e1 : P' = P) (e2 : w' = w) (e3 : K' = K) (e4 : mg' = mg) (e5 : base' = base) (F : FnOk P w K mg base (L2.CX P w) k f fd ps sp) : FnOk P' w' K' mg' base' (L2.CX P' w') k f fd ps sp := by
  subst e1 e2 e3 e4 e5; exact F
/-- no exception comes -/
theorem passesNo {P : Program} {w : World} : PassesAt (L2.CX P w) X σ (fun _ _ _ => False) := fun _ _ _ _ _ _ ⟨_, _, _, _, _, _, _, _, _, _, _, _, z⟩ => z.elim
theorem spF_ok {call : List D → MH → Rs D} {ar : Nat} {xs : List D} {vs : List V} {m m' : MH} {d : D} (hl : vs.length = ar) (hm : RH S.L φ H m) (r : RVs S.L φ H xs vs) (e : call xs m = .ok d m') {E : XK} :
    spF S.L call ar vs H (fun v H' => ∃ φ', RV S.L φ' H' d v ∧ RH S.L φ' H' m' ∧ Ext φ H φ' H') E := by
  refine ⟨hl, φ, m, xs, r, hm, ?_⟩
  rw [e]
  exact fun v φ' H' a b c => ⟨φ', a, b, c⟩
/-- the callee runs: the values at hand -/
theorem run_ok (F : Facts S) (g : Good S Γ X) (hot : Γ.hot = false) {f : Nat} {y : Str} {ps : List Str} (hf : S.T.fns[f]? = some (y, ps)) {xs : List D} {vs : List V} (hm : RH S.L φ H h) (r : RVs S.L φ H xs vs) :
    Sat S.L X σ φ H (RVr S.L) (S.G.call f xs h) (fun Q => ∀ us, Vals vs us → runT X σ H (call (.ref (S.fa f)) us) Q) := by
  obtain ⟨FO, B⟩ := F.fn f y ps hf
  have FO := FnOk.at g.prog g.w g.K g.mg g.base FO
  rw [← g.K] at B
  obtain ⟨hc, hr⟩ := g.calm hot
  cases e : S.G.call f xs h with
  | bad => trivial
  | ok d m' =>
    intro us ru pins s I
    by_cases hl : vs.length = ps.length
    · exact run_fnS (E := fun _ _ _ _ => False) FO hr B passesNo I ru (spF_ok hl hm r e)
    · have : us.length ≠ ps.length := by rw [← ru.length]; exact hl
      exact absurd (F.ar f y ps hf xs h (by rw [e]; exact fun z => nomatch z)) (by rw [r.length]; exact hl)
  | exc x m' =>
    intro W tk hw us ru pins s I
    by_cases hl : vs.length = ps.length
    · refine run_fnS (E := WE W) FO hr B (passAt tk σ) I ru ⟨hl, φ, h, xs, r, hm, ?_⟩
      rw [e]
      exact fun cls d φ' H' a b c => hw cls d φ' H' a b c
    · exact absurd (F.ar f y ps hf xs h (by rw [e]; exact fun z => nomatch z)) (by rw [r.length]; exact hl)
theorem cE_call (F : Facts S) (g : Good S Γ X) (hot : Γ.hot = false) {f : Nat} {x : Str} {ps : List Str} {es : List Expr} {ms : List ME} {p pos : Pos} (q1 : glQ Γ x = true) (hf : S.T.fns[f]? = some (x, ps)) (hx : x ≠ Str.empty)
    (hs : ∀ e ∈ es, notStar e = true) (hl : ms.length = es.length) (hm : RH S.L φ H h) (ha : Sat S.L X σ φ H (RVsr S.L) (evalEs S.G xo ms ρ h) (twA X es σ H)) :
    Sat S.L X σ φ H (RVr S.L) (evalE S.G xo (.call f ms []) ρ h) (twE X (.Call (.Name x p) es [] pos) σ H) := by
  simp only [evalE, callP]
  obtain ⟨gm, kp, nd⟩ := F.glf f x ps hf hx
  rw [← g.mg] at gm
  rw [← g.K] at kp
  cases es with
  | nil =>
    obtain rfl : ms = [] := List.eq_nil_of_length_eq_zero hl
    refine Sat.imp (run_ok F g hot hf hm .nil) fun Q z => fun pins s I => ?_
    refine wpAny_Call_Name_kw (ld_glob I (glQ_ok g q1) gm ?_ (beq_eq_false_iff_ne.mpr nd))
    exact PySem.W.callWith_K0 I.kIn kp (z [] .nil pins s I)
  | cons e es =>
    refine Sat.imp (Sat.bind (T2 := fun (vs : List V) (H1 : Hp) (Q : VK) => ∀ us, Vals vs us → runT X σ H1 (call (.ref (S.fa f)) us) Q) twA.mo (fun vs H1 Q Q' k z us ru => runT.mo _ _ k (z us ru)) ha fun ds h1 _ vs φ1 H1 rv hm1 e1 => run_ok F g hot hf hm1 rv) fun Q z => fun pins s I => ?_
    refine wpAny_Call_Name_kw (ld_glob I (glQ_ok g q1) gm ?_ (beq_eq_false_iff_ne.mpr nd))
    refine PySem.W.callWith_K (h₀ := X.base) I.ok.mod.kin kp (thn (z pos pins s I) fun us s1 ⟨vs, H1, I1, r, q⟩ => ⟨I1.kIn, ?_⟩) (star_cons (hs e List.mem_cons_self)) (star_plain fun e he => hs e (List.mem_cons_of_mem _ he))
    exact q us r pins s1 I1

/-! ### keywords -/
def twK (X : Cx) (kws : List Keyword) : TA := fun σ H Q => ∀ pos pins s, Inv X pins σ H s → wpAny (model X.prog X.w) X.A (evalAll ((backToKw pos (keywordEach kws X.env)).map (·.2))) (AP X pins σ Q) X.xe s
theorem twK.mo {kws : List Keyword} : Mo (twK X kws σ H) := fun Q Q' k h pos pins s I => thn (h pos pins s I) fun u s' ⟨vs, H', I', r, q⟩ => ⟨vs, H', I', r, k _ _ q⟩
theorem pk_twK {kws : List Keyword} : PK X kws (twK X kws) := ⟨fun pos pins s σ H Q I h => h pos pins s I⟩
theorem twK_of {kws : List Keyword} {t : TA} {Q : List V → Hp → Prop} (p : PK X kws t) (h : t σ H Q) : twK X kws σ H Q := fun pos pins s I => p.run pos pins s σ H Q I h
theorem kw_sat (g : Good S Γ X) : ∀ {k : Nat} {kws : List Keyword} {ms : List ME}, (∀ j, j ≤ k → HypE S j) → ckEs k S.T Γ (kws.map (·.value)) ms = true → ∀ {φ H h}, RQ S Γ X xo φ H ρ σ → RH S.L φ H h →
    Sat S.L X σ φ H (RVsr S.L) (evalEs S.G xo ms ρ h) (twK X kws σ H) := by
  intro k
  induction k with
  | zero => intro kws ms _ q; cases q
  | succ k ih =>
    intro kws ms hE q φ H h re hm
    cases kws with
    | nil =>
      cases ms with
      | nil =>
        simp only [evalEs]
        exact Sat.ok (twK_of pk_nil ⟨φ, .nil, hm, .refl⟩)
      | cons _ _ => unfold ckEs at q; cases q
    | cons kw kws =>
      cases ms with
      | nil => unfold ckEs at q; cases q
      | cons m ms =>
        obtain ⟨nm, v, kp⟩ := kw
        unfold ckEs at q
        have q : (notStar v && ckE k S.T Γ v m && ckEs k S.T Γ (kws.map (·.value)) ms) = true := q
        rw [Bool.and_eq_true, Bool.and_eq_true] at q
        obtain ⟨⟨q1, q2⟩, q3⟩ := q
        simp only [evalEs]
        refine Sat.imp (T := fun Q => twE X v σ H fun x H1 => twK X kws σ H1 fun xs H2 => Q (x :: xs) H2) ?_ fun Q z => twK_of (pk_cons pe_tw pk_twK) z
        refine sat1 (T2 := fun x H1 Q => twK X kws σ H1 fun xs H2 => Q (x :: xs) H2) (fun x H1 Q Q' k z => twK.mo _ _ (fun _ _ z => k _ _ z) z) (hE k (Nat.le_succ k) Γ X v m g q2 xo ρ σ φ H h re hm) fun u x φ1 H1 h1 _ rx hm1 e1 => ?_
        refine Sat.bind (T2 := fun xs H2 Q => Q (x :: xs) H2) twK.mo (fun xs H2 Q Q' k z => k _ _ z) (ih (fun j hj => hE j (Nat.le_succ_of_le hj)) q3 (re.ext hm e1) hm1) fun us h2 _ xs φ2 H2 rxs hm2 e2 => ?_
        exact Sat.ok ⟨φ2, .cons (rx.kept (e2.kept hm1)) rxs, hm2, .refl⟩
theorem evalEs_app {G : GC} : ∀ {as bs : List ME} {h : MH}, evalEs G xo (as ++ bs) ρ h = (evalEs G xo as ρ h).bind fun xs h1 => (evalEs G xo bs ρ h1).bind fun ys h2 => .ok (xs ++ ys) h2
  | [], bs, h => by
    simp only [List.nil_append, evalEs, Rs.bind]
    cases evalEs G xo bs ρ h <;> rfl
  | a :: as, bs, h => by
    simp only [List.cons_append, evalEs, bind_assoc']
    congr 1
    funext u h1
    rw [evalEs_app]
    simp only [bind_assoc', Rs.bind]
    cases evalEs G xo as ρ h1 with
    | bad => rfl
    | exc x m => rfl
    | ok xs h2 =>
      simp only [Rs.bind]
      cases evalEs G xo bs ρ h2 <;> rfl
theorem perm_rv {L : LC} {xs : List D} {vs : List V} (r : RVs L φ H xs vs) : ∀ {p : List Nat} {ys : List D}, permL xs p = some ys → ∃ ws, permL vs p = some ws ∧ RVs L φ H ys ws
  | [], ys, e => by cases e; exact ⟨[], rfl, .nil⟩
  | i :: p, ys, e => by
    unfold permL at e ⊢
    cases e1 : xs[i]? with
    | none => rw [e1] at e; cases e
    | some x =>
      rw [e1] at e
      obtain ⟨v, e2, rv⟩ := r.get e1
      cases e3 : permL xs p with
      | none => rw [e3] at e; cases e
      | some zs =>
        rw [e3] at e
        cases e
        obtain ⟨ws, e4, rws⟩ := perm_rv r e3
        exact ⟨v :: ws, by rw [e2, e4]; rfl, .cons rv rws⟩
theorem perm_vals {vs : List V} {us : List Value} (r : Vals vs us) : ∀ {p : List Nat} {ws : List V} {bs : List Value}, permL vs p = some ws → permL us p = some bs → Vals ws bs
  | [], ws, bs, e, e' => by cases e; cases e'; exact .nil
  | i :: p, ws, bs, e, e' => by
    unfold permL at e e'
    cases e1 : vs[i]? with
    | none => rw [e1] at e; cases e
    | some v =>
      obtain ⟨u, e2, ru⟩ := r.get e1
      rw [e1] at e
      rw [e2] at e'
      cases e3 : permL vs p with
      | none => rw [e3] at e; cases e
      | some zs =>
        cases e4 : permL us p with
        | none => rw [e4] at e'; cases e'
        | some cs =>
          rw [e3] at e
          rw [e4] at e'
          cases e; cases e'
          exact .cons ru (perm_vals r e3 e4)
/-- the callee runs, keywords among its arguments -/
theorem run_kw (F : Facts S) (g : Good S Γ X) (hot : Γ.hot = false) {f np : Nat} {y : Str} {ps ks : List Str} {p : List Nat} (hf : S.T.fns[f]? = some (y, ps)) (hk : (f, np, ks, p) ∈ S.T.kwf) {xs zs : List D} {vs ws : List V} (hm : RH S.L φ H h) (r : RVs S.L φ H xs vs) (r2 : RVs S.L φ H zs ws) (hnp : xs.length = np) (hks : zs.length = ks.length) (hp : p ≠ []) :
    Sat S.L X σ φ H (RVr S.L) (callP S.G f (xs ++ zs) p h) (fun Q => ∀ us us2, Vals vs us → Vals ws us2 → runT X σ H (call (.ref (S.fa f)) us (ks.zip us2)) Q) := by
  obtain ⟨FO, B⟩ := F.fn f y ps hf
  have FO := FnOk.at g.prog g.w g.K g.mg g.base FO
  obtain ⟨hc, hr⟩ := g.calm hot
  have e0 : callP S.G f (xs ++ zs) p h = match permL (xs ++ zs) p with
      | some ys => S.G.call f ys h
      | none => .bad := by
    unfold callP
    cases p with
    | nil => exact absurd rfl hp
    | cons i p => rfl
  rw [e0]
  cases ep : permL (xs ++ zs) p with
  | none => trivial
  | some ys =>
    obtain ⟨vs', ev, rv'⟩ := perm_rv (r.append r2) ep
    dsimp only
    have main : ∀ {Q : VK} {E : L2.St → XK} (hx : PassesAt (L2.CX X.prog X.w) X σ (E σ)), spF S.L (S.G.call f) ps.length vs' H Q (E σ) → ∀ us us2, Vals vs us → Vals ws us2 → runT X σ H (call (.ref (S.fa f)) us (ks.zip us2)) Q := by
      intro Q E hx h us us2 ru ru2 pins s I
      obtain ⟨bs, e1, b⟩ := F.kb f np ks p hk y ps hf s us us2 (by rw [← g.K]; exact I.kIn) (by rw [← ru.length, ← r.length]; exact hnp) (by rw [← ru2.length, ← r2.length]; exact hks)
      have rr := perm_vals (ru.append ru2) ev e1
      refine wpAny_call (codeAny_mono (FO.run X.A X.stack s H ⟨us, ks.zip us2⟩ bs vs' Q (E σ) hr I.env0 b rr h) fun r s' hq => ?_)
      cases r with
      | error e => exact hx pins H s e s' I hq
      | ok fl =>
        cases fl with
        | ret u => exact I.after hq
        | next => exact False.elim hq
        | brk => exact False.elim hq
        | cont => exact False.elim hq
    cases e : S.G.call f ys h with
    | bad => trivial
    | ok d m' =>
      have hl := F.ar f y ps hf ys h (by rw [e]; exact fun z => nomatch z)
      exact main (E := fun _ _ _ _ => False) passesNo (spF_ok (by rw [← rv'.length]; exact hl) hm rv' e)
    | exc x m' =>
      intro W tk hw
      have hl := F.ar f y ps hf ys h (by rw [e]; exact fun z => nomatch z)
      refine main (E := WE W) (passAt tk σ) ⟨by rw [← rv'.length]; exact hl, φ, h, ys, rv', hm, ?_⟩
      rw [e]
      exact fun cls d φ' H' a b c => hw cls d φ' H' a b c
theorem kw_all {pos : Pos} {env : PySem.Env} : ∀ {kws : List Keyword}, kws.all (fun k => k.arg.isSome) = true → (backToKw pos (keywordEach kws env)).all (fun x => x.1.isSome) = true ∧ (backToKw pos (keywordEach kws env)).filterMap (·.1) = kwNames kws ∧ (backToKw pos (keywordEach kws env)).any (fun x => x.1.isNone) = false ∧ (kwNames kws).length = kws.length
  | [], _ => ⟨rfl, rfl, rfl, rfl⟩
  | ⟨nm, v, kp⟩ :: kws, q => by
    rw [List.all_cons, Bool.and_eq_true] at q
    obtain ⟨a, b, c, d⟩ := kw_all (pos := pos) (env := env) q.2
    cases nm with
    | none => cases q.1
    | some nm =>
      refine ⟨?_, ?_, ?_, ?_⟩
      · show (true && (backToKw pos (keywordEach kws env)).all (fun x => x.1.isSome)) = true
        rw [a]; rfl
      · show nm :: (backToKw pos (keywordEach kws env)).filterMap (·.1) = nm :: kwNames kws
        rw [b]
      · show (false || (backToKw pos (keywordEach kws env)).any (fun x => x.1.isNone)) = false
        rw [c]; rfl
      · show (nm :: kwNames kws).length = kws.length + 1
        rw [List.length_cons, d]
theorem cE_callK {n : Nat} (F : Facts S) (g : Good S Γ X) (hot : Γ.hot = false) {f : Nat} {x : Str} {ps : List Str} {es : List Expr} {kws : List Keyword} {ms : List ME} {pp : List Nat} {p pos : Pos} (q1 : glQ Γ x = true) (hf : S.T.fns[f]? = some (x, ps)) (hx : x ≠ Str.empty)
    (hp : pp ≠ []) (hk : (f, es.length, kwNames kws, pp) ∈ S.T.kwf) (hsome : kws.all (fun k => k.arg.isSome) = true) (hEs : HypEs S n) (hE : ∀ j, j ≤ n → HypE S j) (q2 : ckEs n S.T Γ es (ms.take es.length) = true) (q3 : ckEs n S.T Γ (kws.map (·.value)) (ms.drop es.length) = true)
    (re : RQ S Γ X xo φ H ρ σ) (hm : RH S.L φ H h) : Sat S.L X σ φ H (RVr S.L) (evalE S.G xo (.call f ms pp) ρ h) (twE X (.Call (.Name x p) es kws pos) σ H) := by
  obtain ⟨gm, kp, nd⟩ := F.glf f x ps hf hx
  rw [← g.mg] at gm
  rw [← g.K] at kp
  obtain ⟨s1, s2, s3⟩ := ckEs_star q2
  obtain ⟨t1, t2, t3⟩ := ckEs_star q3
  obtain ⟨w1, w2, w3, w4⟩ := kw_all (pos := pos) (env := X.env) hsome
  have esplit : evalE S.G xo (.call f ms pp) ρ h = (evalEs S.G xo (ms.take es.length) ρ h).bind fun xs h1 => (evalEs S.G xo (ms.drop es.length) ρ h1).bind fun ys h2 => callP S.G f (xs ++ ys) pp h2 := by
    have : ms = ms.take es.length ++ ms.drop es.length := (List.take_append_drop _ _).symm
    simp only [evalE]
    conv => lhs; rw [this, evalEs_app]
    rw [bind_assoc']
    congr 1
    funext xs h1
    rw [bind_assoc']
    rfl
  rw [esplit]
  cases es with
  | nil =>
    have e0 : ms.take ([] : List Expr).length = [] := rfl
    rw [e0]
    simp only [evalEs, Rs.bind, List.nil_append]
    refine Sat.imp (T := fun Q => twK X kws σ H fun ws H2 => ∀ us us2, Vals [] us → Vals ws us2 → runT X σ H2 (call (.ref (S.fa f)) us ((kwNames kws).zip us2)) Q) ?_ fun Q z => fun pins s I => ?_
    · refine Sat.bind (T2 := fun (ws : List V) (H2 : Hp) (Q : VK) => ∀ us us2, Vals [] us → Vals ws us2 → runT X σ H2 (call (.ref (S.fa f)) us ((kwNames kws).zip us2)) Q) twK.mo
        (fun ws H2 Q Q' k z us us2 r r2 => runT.mo _ _ k (z us us2 r r2)) (kw_sat g hE q3 re hm) fun ys h2 ey ws φ2 H2 rw' hm2 e2 => ?_
      refine run_kw (xs := []) F g hot hf hk hm2 .nil rw' rfl ?_ hp
      rw [evalEs_len ey, t3, List.length_map, w4]
    · refine wpAny_Call_Name_kw (ld_glob I (glQ_ok g q1) gm ?_ (beq_eq_false_iff_ne.mpr nd))
      refine PySem.W.callWith_KW0 (first := []) (h₀ := X.base) I.ok.mod.kin kp w1 (thn (z pos pins s I) fun us2 s2 ⟨ws, H2, I2, r2, q2⟩ => ⟨I2.kIn, ?_⟩) (by rw [w3]; rfl)
      rw [w2]
      exact q2 [] us2 .nil r2 pins s2 I2
  | cons e es =>
    refine Sat.imp (T := fun Q => twA X (e :: es) σ H fun vs H1 => twK X kws σ H1 fun ws H2 => ∀ us us2, Vals vs us → Vals ws us2 → runT X σ H2 (call (.ref (S.fa f)) us ((kwNames kws).zip us2)) Q) ?_ fun Q z => fun pins s I => ?_
    · refine Sat.bind (T2 := fun (vs : List V) (H1 : Hp) (Q : VK) => twK X kws σ H1 fun ws H2 => ∀ us us2, Vals vs us → Vals ws us2 → runT X σ H2 (call (.ref (S.fa f)) us ((kwNames kws).zip us2)) Q) twA.mo
        (fun vs H1 Q Q' k z => twK.mo _ _ (fun ws H2 z us us2 r r2 => runT.mo _ _ k (z us us2 r r2)) z) (hEs Γ X (e :: es) _ g q2 xo ρ σ φ H h re hm) fun xs h1 ex vs φ1 H1 rv hm1 e1 => ?_
      refine Sat.bind (T2 := fun (ws : List V) (H2 : Hp) (Q : VK) => ∀ us us2, Vals vs us → Vals ws us2 → runT X σ H2 (call (.ref (S.fa f)) us ((kwNames kws).zip us2)) Q) twK.mo
        (fun ws H2 Q Q' k z us us2 r r2 => runT.mo _ _ k (z us us2 r r2)) (kw_sat g hE q3 (re.ext hm e1) hm1) fun ys h2 ey ws φ2 H2 rw' hm2 e2 => ?_
      refine run_kw F g hot hf hk hm2 (rv.kept (e2.kept hm1)) rw' ?_ ?_ hp
      · rw [evalEs_len ex, s3]
      · rw [evalEs_len ey, t3, List.length_map, w4]
    · refine wpAny_Call_Name_kw (ld_glob I (glQ_ok g q1) gm ?_ (beq_eq_false_iff_ne.mpr nd))
      refine PySem.W.callWith_KW (first := []) (h₀ := X.base) I.ok.mod.kin kp w1 (thn (z pos pins s I) fun us s1' ⟨vs, H1, I1, r, q⟩ => thn (q pos pins s1' I1) fun us2 s2 ⟨ws, H2, I2, r2, q2⟩ => ⟨I2.kIn, ?_⟩) ?_ (star_cons (s1 e List.mem_cons_self))
      · rw [w2]
        exact q2 us us2 r r2 pins s2 I2
      · rw [w3, star_plain s1]; rfl

/-- a new instance, then __init__ -/
theorem run_new (F : Facts S) (g : Good S Γ X) (hot : Γ.hot = false) {c f : Nat} {x : Str} (hc : S.T.cls[c]? = some x) (hi : S.G.init c = some f) {xs : List D} {vs : List V} (hm : RH S.L φ H h) (r : RVs S.L φ H xs vs) :
    Sat S.L X σ φ H (RVr S.L) ((noExc (S.G.call1 f (.ref h.sz :: xs) (h.new (.ins c [])))).bind (newEnd h.sz)) (fun Q => ∀ us, Vals vs us → runT X σ H (call (.ref (S.L.cA c)) us) Q) := by
  obtain ⟨nd, gm, hmk⟩ := F.cl c x hc
  obtain ⟨M, y, ps, hf⟩ := hmk f hi
  have FO := F.fn1 f y ps hf
  have FO := FnOk.at g.prog g.w g.K g.mg g.base FO
  obtain ⟨_, B⟩ := F.fn f y ps hf
  rw [← g.K] at M B
  obtain ⟨hcalm, hr⟩ := g.calm hot
  cases e : S.G.call1 f (.ref h.sz :: xs) (h.new (.ins c [])) with
  | bad => trivial
  | exc x m' => trivial
  | ok d m' =>
    show Sat S.L X σ φ H (RVr S.L) (newEnd h.sz d m') _
    cases d with
    | non =>
      intro us ru pins s I
      have hn : S.n ≠ 0 := fun z => by
        rw [F.one z] at e; cases e
      have hr' : Room (S.n - 1 + 1) X.A := by
        rw [show S.n - 1 + 1 = S.n by omega]; exact hr
      have hl : (D.ref h.sz :: xs).length = ps.length := F.ar1 f y ps hf _ _ (by rw [e]; exact fun z => nomatch z)
      refine run_make (dvs := []) (E := fun _ _ _ => False) M FO hr' B .nil (fun _ _ _ _ _ _ _ ⟨_, _, _, _, _, _, _, _, _, _, _, _, z⟩ => z.elim) I ru fun p dx hp hdx hne => ?_
      have hm1 : RH S.L φ (upd H dx (.own p)) h := hm.side hdx
      have hp1 : (upd H dx (.own p)) p = none := by rw [upd_ne hne.symm]; exact hp
      have hm2 : RH S.L (φ ++ [p]) (upd (upd H dx (.own p)) p (.ins (S.L.cA c) dx [])) (h.new (.ins c [])) :=
        hm1.new hp1 ⟨dx, [], upd_same, by rw [upd_ne hne, upd_same], .nil⟩
      have ex : Ext φ H (φ ++ [p]) (upd (upd H dx (.own p)) p (.ins (S.L.cA c) dx [])) := (Ext.side hdx).trans (.new hp1)
      refine ⟨by rw [List.append_nil, ← hl, List.length_cons, List.length_cons, r.length], _, _, .ref h.sz :: xs, .cons (.new hm) ?_, hm2, ?_⟩
      · rw [List.append_nil]
        exact r.kept (ex.kept hm)
      · rw [e]
        intro v φ' H' rv hm3 e3
        cases rv
        refine ⟨rfl, φ', .ref ?_, hm3, ex.trans e3⟩
        have : (φ ++ [p])[h.sz]? = some p := by
          rw [← hm.len, List.getElem?_append_right (Nat.le_refl _), Nat.sub_self]; rfl
        exact e3.get this
    | _ => trivial
theorem cE_new (F : Facts S) (g : Good S Γ X) (hot : Γ.hot = false) {c : Nat} {x : Str} {es : List Expr} {ms : List ME} {p pos : Pos} (q1 : glQ Γ x = true) (hc : S.T.cls[c]? = some x)
    (hs : ∀ e ∈ es, notStar e = true) (hl : ms.length = es.length) (hm : RH S.L φ H h) (ha : Sat S.L X σ φ H (RVsr S.L) (evalEs S.G xo ms ρ h) (twA X es σ H)) :
    Sat S.L X σ φ H (RVr S.L) (evalE S.G xo (.new c ms []) ρ h) (twE X (.Call (.Name x p) es [] pos) σ H) := by
  simp only [evalE]
  obtain ⟨nd, gm, hmk⟩ := F.cl c x hc
  cases hi : S.G.init c with
  | none => trivial
  | some f =>
    obtain ⟨M, y, ps, hf⟩ := hmk f hi
    have kp := M.kp
    rw [← g.K] at kp
    rw [← g.mg] at gm
    cases es with
    | nil =>
      obtain rfl : ms = [] := List.eq_nil_of_length_eq_zero hl
      refine Sat.imp (run_new F g hot hc hi hm .nil) fun Q z => fun pins s I => ?_
      refine wpAny_Call_Name_kw (ld_glob I (glQ_ok g q1) gm ?_ (beq_eq_false_iff_ne.mpr nd))
      exact PySem.W.callWith_K0 I.kIn kp (z [] .nil pins s I)
    | cons e es =>
      refine Sat.imp (Sat.bind (T2 := fun (vs : List V) (H1 : Hp) (Q : VK) => ∀ us, Vals vs us → runT X σ H1 (call (.ref (S.L.cA c)) us) Q) twA.mo (fun vs H1 Q Q' k z us ru => runT.mo _ _ k (z us ru)) ha fun ds h1 _ vs φ1 H1 rv hm1 e1 => run_new F g hot hc hi hm1 rv) fun Q z => fun pins s I => ?_
      refine wpAny_Call_Name_kw (ld_glob I (glQ_ok g q1) gm ?_ (beq_eq_false_iff_ne.mpr nd))
      refine PySem.W.callWith_K (h₀ := X.base) I.ok.mod.kin kp (thn (z pos pins s I) fun us s1 ⟨vs, H1, I1, r, q⟩ => ⟨I1.kIn, ?_⟩) (star_cons (hs e List.mem_cons_self)) (star_plain fun e he => hs e (List.mem_cons_of_mem _ he))
      exact q us r pins s1 I1

/-! ### methods -/
theorem ht_ok {o : Expr} {m : Str} {apos pos : Pos} {es : List Expr} {env : PySem.Env} (q : bmQ o es apos pos = true) (hs : ∀ e ∈ es, notStar e = true) :
    eval (.Call (.Attribute o m apos) es [] pos) env = (do
      let ov ← eval o env
      standAt apos.atName
      let (f, first) ← holding [ov] (getMethod ov m (do return (← importBound o env).getD true))
      callWith pos f first (backTo pos (starEach es env)) (backToKw pos (keywordEach [] env))) := by
  unfold bmQ at q
  rw [Bool.and_eq_true, Bool.and_eq_true] at q
  obtain ⟨⟨q1, q2⟩, q3⟩ := q
  have q3 := of_decide_eq_true q3
  rw [arm_eval_Call, base_ok q1]
  have hlen : ∀ es : List Expr, (∀ e ∈ es, notStar e = true) → (backTo pos (starEach es env)).all (fun x => !x.1) = true := fun es hs => by
    have := star_plain (pos := pos) (env := env) hs
    rw [List.any_eq_false] at this
    rw [List.all_eq_true]
    intro x hx
    simpa using this x hx
  have hform : methodCallForm (es.length + ([] : List Keyword).length) (backTo pos (starEach es env)) (backToKw pos (keywordEach [] env)) = true := by
    unfold methodCallForm
    rw [hlen es hs]
    have : (backToKw pos (keywordEach [] env)) = [] := rfl
    rw [this]
    simp
    omega
  have hpos : methodCallPos true o env apos pos = pure pos := by
    unfold methodCallPos
    simp [q2]
  unfold methodCall
  rw [hform]
  unfold calleeOf
  simp only [if_true, hpos]
  rfl
theorem cE_mth (F : Facts S) (g : Good S Γ X) (hot : Γ.hot = false) {f : Nat} {x : Str} {o : Expr} {mo : ME} {es : List Expr} {ms : List ME} {apos pos : Pos} (qx : x = S.T.attr f) (q : bmQ o es apos pos = true)
    (hs : ∀ e ∈ es, notStar e = true) (hl : ms.length = es.length) (hm : RH S.L φ H h) (ho : Sat S.L X σ φ H (RVr S.L) (evalE S.G xo mo ρ h) (twE X o σ H))
    (ha : ∀ φ1 H1 h1, RH S.L φ1 H1 h1 → Ext φ H φ1 H1 → Sat S.L X σ φ1 H1 (RVsr S.L) (evalEs S.G xo ms ρ h1) (twA X es σ H1)) :
    Sat S.L X σ φ H (RVr S.L) (evalE S.G xo (.mth f mo ms []) ρ h) (twE X (.Call (.Attribute o x apos) es [] pos) σ H) := by
  subst qx
  simp only [evalE]
  rw [F.attr]
  -- what is wanted once the receiver is at hand
  let T2 : V → Hp → Tr V := fun y H1 Q => ∀ v, RelV y v → ∀ pins s, Inv X pins σ H1 s → wpAny (model X.prog X.w) X.A (getMethod v (S.L.at_ f) (do return (← importBound o X.env).getD true)) (fun fx s2 => wpAny (model X.prog X.w) X.A (callWith pos fx.1 fx.2 (backTo pos (starEach es X.env)) (backToKw pos (keywordEach [] X.env))) (EP X pins σ Q) X.xe s2) X.xe s
  have mo2 : ∀ y H1, Mo (T2 y H1) := fun y H1 Q Q' k z v rv pins s I => thn (z v rv pins s I) fun fx s2 z2 => thn z2 fun u s3 ⟨w', H', I', r, q⟩ => ⟨w', H', I', r, k _ _ q⟩
  refine Sat.imp (sat1 (T2 := T2) mo2 ho fun u y φ1 H1 h1 _ ry hm1 e1 => ?_) fun Q z => fun pins s I => ?_
  · split
    · rename_i r
      split
      · rename_i c fs gg
        split
        · rename_i f' e
          split at e
          · rename_i hnone
            cases ry with
            | ref hr =>
            rename_i a
            obtain ⟨dx, gs, hia, hd, rr⟩ := insAt hm1 hr gg
            obtain ⟨C1, M1, yy, ps, hf⟩ := F.mth c f f' e
            rw [← g.K] at C1 M1
            have hno : lookF f fs = none := by
              have := (Bool.and_eq_true_iff.mp hnone).1
              simpa using this
            have lk := (lookF_ok F.cls.inj rr (f := f)).1 hno
            have fin : ∀ {us : List Value} {vs : List V} {Q : VK} {H2 : Hp} {s2 : Shared} {pins : List (Addr × Obj)}, True := fun {us vs Q H2 s2 pins} => trivial
            cases es with
            | nil =>
              obtain rfl : ms = [] := List.eq_nil_of_length_eq_zero hl
              refine Sat.imp (run_ok F g hot hf hm1 (.cons (.ref hr) .nil)) fun Q z => ?_
              intro v rv pins s I
              cases rv
              refine getmeth_ok I hia C1 M1 lk ?_
              exact PySem.W.callWith_K0 (first := [.ref a]) I.kIn M1.kp (z [.ref a] (.cons rfl .nil) pins s I)
            | cons e0 es =>
              refine Sat.imp (Sat.bind (T2 := fun (vs : List V) (H2 : Hp) (Q : VK) => ∀ us, Vals (.ref a :: vs) us → runT X σ H2 (call (.ref (S.fa f')) us) Q) twA.mo (fun vs H1 Q Q' k z us ru => runT.mo _ _ k (z us ru)) (ha φ1 H1 h1 hm1 e1) fun ds h2 _ vs φ2 H2 rv hm2 e2 => ?_) fun Q z => ?_
              · exact run_ok F g hot hf hm2 (.cons (.ref (e2.get hr)) rv)
              · intro v rv pins s I
                cases rv
                refine getmeth_ok I hia C1 M1 lk ?_
                refine PySem.W.callWith_K (first := [.ref a]) (h₀ := X.base) I.ok.mod.kin M1.kp (thn (z pos pins s I) fun us s1 ⟨vs, H2, I2, r, q⟩ => ⟨I2.kIn, ?_⟩) (star_cons (hs e0 List.mem_cons_self)) (star_plain fun e he => hs e (List.mem_cons_of_mem _ he))
                exact q (.ref a :: us) (.cons rfl r) pins s1 I2
          · cases e
        · trivial
      · trivial
    · trivial
  · refine PySem.W.methodCall_KW (thn (z pins s I) fun ov s1 ⟨y, H1, I1, ry, q1⟩ => q1 ov ry pins s1 I1) (ht_ok q hs)
end
end Mp
end
section
set_option Elab.async false
set_option linter.all false
set_option maxRecDepth 100000
set_option maxHeartbeats 4000000
/-! PySndA: built-in functions and methods called, isinstance, targets. -/
namespace Mp
open PySem PySem.Spec PyProof.Rows L2

section
variable {S : SC} {Γ : TC} {X : Cx} {σ : L2.St} {φ : List Addr} {H : Hp} {h : MH} {ρ : Env} {n : Nat} {xo : Option Ex}

theorem few_ok {o : Expr} {es : List Expr} {apos pos : Pos} {env : PySem.Env} (q : bmQ o es apos pos = true) (hs : ∀ e ∈ es, notStar e = true) :
    ((backTo pos (starEach es env)).all (fun x => !x.1) && (backToKw pos (keywordEach [] env)).all (fun x => x.1.isSome)
      && decide (es.length + ([] : List Keyword).length + (if ([] : List Keyword).isEmpty then 0 else 1) < 30)) = true := by
  unfold bmQ at q
  rw [Bool.and_eq_true, Bool.and_eq_true] at q
  obtain ⟨⟨q1, q2⟩, q3⟩ := q
  have q3 := of_decide_eq_true q3
  have h1 : (backTo pos (starEach es env)).all (fun x => !x.1) = true := by
    have := star_plain (pos := pos) (env := env) hs
    rw [List.any_eq_false] at this
    rw [List.all_eq_true]
    intro x hx
    simpa using this x hx
  rw [h1]
  have : (backToKw pos (keywordEach [] env)) = [] := rfl
  rw [this]
  simp
  omega
theorem bm_slot {b : BM} {d : D} (hb : bmTy b d h = true) : PlainAttrs (bmT b) ∧ Slot (bmT b) (bmN b) (bmId b) ∧ typeOf (.builtin (bmId b)) = pure (.type "method_descriptor") := by
  cases b with
  | append => exact ⟨PySem.F.plainAttrs_list, PySem.F.slot_list_append, PySem.F.type_list_append⟩
  | extend => exact ⟨PySem.F.plainAttrs_list, PySem.F.slot_list_extend, PySem.F.type_list_extend⟩
  | pop => exact ⟨PySem.F.plainAttrs_list, PySem.F.slot_list_pop, PySem.F.type_list_pop⟩
  | index => exact ⟨PySem.F.plainAttrs_list, PySem.F.slot_list_index, PySem.F.type_list_index⟩
  | get => exact ⟨PySem.F.plainAttrs_dict, PySem.F.slot_dict_get, PySem.F.type_dict_get⟩
  | _ => 
    exfalso
    unfold bmTy at hb
    split at hb
    · split at hb <;> contradiction
    · cases hb
theorem mtR_op (σ : L2.St) (id : String) : MtR X id (fun x xs H Q => mtT X σ id x xs H Q) := fun pins s σ' H' x xs v us Q I rv ru q => q σ' v us rv ru pins s I
theorem cE_bm (F : Facts S) (g : Good S Γ X) {b : BM} {x : Str} {o : Expr} {mo : ME} {es : List Expr} {ms : List ME} {apos pos : Pos} (qx : x = bmN b) (q : bmQ o es apos pos = true)
    (hs : ∀ e ∈ es, notStar e = true) (hl : ms.length = es.length) (hm : RH S.L φ H h) (ho : Sat S.L X σ φ H (RVr S.L) (evalE S.G xo mo ρ h) (twE X o σ H))
    (ha : ∀ φ1 H1 h1, RH S.L φ1 H1 h1 → Ext φ H φ1 H1 → Sat S.L X σ φ1 H1 (RVsr S.L) (evalEs S.G xo ms ρ h1) (twA X es σ H1)) :
    Sat S.L X σ φ H (RVr S.L) (evalE S.G xo (.bm b mo ms) ρ h) (twE X (.Call (.Attribute o x apos) es [] pos) σ H) := by
  subst qx
  simp only [evalE]
  rw [F.kts]
  have hu := g.un
  have q' := q
  unfold bmQ at q'
  rw [Bool.and_eq_true, Bool.and_eq_true] at q'
  cases es with
  | nil =>
    obtain rfl : ms = [] := List.eq_nil_of_length_eq_zero hl
    refine Sat.imp (T := fun Q => twE X o σ H fun y H1 => tyV X.K (bmT b) y H1 ∧ (PlainAttrs (bmT b) ∧ Slot (bmT b) (bmN b) (bmId b) ∧ typeOf (.builtin (bmId b)) = pure (.type "method_descriptor")) ∧ mtT X σ (bmId b) y [] H1 Q) ?_ fun Q z => ?_
    · refine sat1 (T2 := fun (y : V) (H1 : Hp) (Q : VK) => tyV X.K (bmT b) y H1 ∧ (PlainAttrs (bmT b) ∧ Slot (bmT b) (bmN b) (bmId b) ∧ typeOf (.builtin (bmId b)) = pure (.type "method_descriptor")) ∧ mtT X σ (bmId b) y [] H1 Q) (fun y H1 Q Q' k ⟨t, p, z⟩ => ⟨t, p, mtT.mo _ _ k z⟩) ho fun u y φ1 H1 h1 _ ry hm1 e1 => ?_
      split
      · rename_i hb
        simp only [evalEs, Rs.bind]
        refine Sat.imp (bmD_ok (σ := σ) g.K (by omega) hm1 ry .nil) fun Q z => ⟨bmTy_ok hm1 ry hb, bm_slot hb, z⟩
      · trivial
    · intro pins s I
      refine wpAny_Call_method0_late (base_ok q'.1.1 _ _ _) q'.1.2 (thn (z pins s I) fun v s1 ⟨y, H1, I1, r1, ty, ⟨p1, p2, p3⟩, q1⟩ => ?_)
      obtain ⟨h1, h2⟩ := tyV_is I1 r1 ty
      exact ⟨bmT b, bmId b, p1, p2, p3, h1, h2, Calls.callWith_builtin rfl (PySem.evalArgs_none (q1 σ v [] r1 .nil pins s1 I1))⟩
  | cons e0 es =>
    refine Sat.imp (T := fun Q => twE X o σ H fun y H1 => (tyV X.K (bmT b) y H1 ∧ (PlainAttrs (bmT b) ∧ Slot (bmT b) (bmN b) (bmId b) ∧ typeOf (.builtin (bmId b)) = pure (.type "method_descriptor"))) ∧ twA X (e0 :: es) σ H1 fun xs H2 => mtT X σ (bmId b) y xs H2 Q) ?_ fun Q z => ?_
    · refine sat1 (T2 := fun (y : V) (H1 : Hp) (Q : VK) => (tyV X.K (bmT b) y H1 ∧ (PlainAttrs (bmT b) ∧ Slot (bmT b) (bmN b) (bmId b) ∧ typeOf (.builtin (bmId b)) = pure (.type "method_descriptor"))) ∧ twA X (e0 :: es) σ H1 fun xs H2 => mtT X σ (bmId b) y xs H2 Q) (fun y H1 Q Q' k ⟨p, z⟩ => ⟨p, twA.mo _ _ (fun xs H2 z => mtT.mo _ _ k z) z⟩) ho fun u y φ1 H1 h1 _ ry hm1 e1 => ?_
      split
      · rename_i hb
        refine Sat.imp (Sat.bind (T2 := fun (xs : List V) (H2 : Hp) (Q : VK) => mtT X σ (bmId b) y xs H2 Q) twA.mo (fun _ _ => mtT.mo) (ha φ1 H1 h1 hm1 e1) fun ds h2 _ xs φ2 H2 rxs hm2 e2 => ?_) fun Q z => ⟨⟨bmTy_ok hm1 ry hb, bm_slot hb⟩, z⟩
        exact bmD_ok (σ := σ) g.K (by omega) hm2 (ry.kept (e2.kept hm1)) rxs
      · trivial
    · intro pins s I
      refine wpAny_Call_method_late (base_ok q'.1.1 _ _ _) (few_ok q hs) q'.1.2 rfl (thn (z pins s I) fun v s1 ⟨y, H1, I1, r1, ⟨ty, ⟨p1, p2, p3⟩⟩, q1⟩ => ?_)
      obtain ⟨h1, h2⟩ := tyV_is I1 r1 ty
      refine ⟨bmT b, bmId b, p1, p2, p3, h1, h2, ?_⟩
      have hA := q1 pos pins s1 I1
      have hst := star_cons (es := es) (env := X.env) (hs e0 List.mem_cons_self)
      have hpl := star_plain (pos := pos) (env := X.env) (es := es) fun e he => hs e (List.mem_cons_of_mem _ he)
      rw [hst] at hA ⊢
      refine Calls.callWith_builtin (by show (false || (backTo pos (starEach es X.env)).any (·.1)) = false; rw [hpl] <;> rfl) (Calls.evalArgs_plain ?_)
      exact thn hA fun us s2 ⟨vs, H2, I2, r2, q2⟩ => q2 σ v us r1 r2 pins s2 I2

/-! ### built-in functions -/
theorem clR_op (σ : L2.St) (f : Value) : CallR X f (fun xs H Q => clT X σ f xs H Q) := fun pins s σ' H' xs us Q I ru q => q σ' us ru pins s I
theorem pe_bf (F : Facts S) (g : Good S Γ X) {b : BF} {e : Expr} {es : List Expr} {p pos : Pos} (hg : glQ Γ (bfN b) = true) (hgcd : gcdQ S.T b = true) (hs : ∀ x ∈ e :: es, notStar x = true) :
    PE X (.Call (.Name (bfN b) p) (e :: es) [] pos) (tCB (fun xs H Q => clT X σ (bfVal b) xs H Q) (twA X (e :: es))) := by
  have hst := star_cons (es := es) (env := X.env) (hs e List.mem_cons_self)
  have hpl := star_plain (pos := pos) (env := X.env) (es := es) fun e he => hs e (List.mem_cons_of_mem _ he)
  have hG := glQ_ok g hg
  have bl : ∀ x ∈ bltNames, X.mg x = none := by rw [g.mg]; exact F.blt
  cases b with
  | len => exact pe_callB (clR_op σ _) hG (bl _ (by simp [bltNames, bfN])) (by decide +kernel) pa_tw (by decide +kernel) (by decide +kernel) hst hpl
  | abs => exact pe_callB (clR_op σ _) hG (bl _ (by simp [bltNames, bfN])) (by decide +kernel) pa_tw (by decide +kernel) (by decide +kernel) hst hpl
  | int => exact pe_callTy (clR_op σ _) hG (bl _ (by simp [bltNames, bfN])) (by decide +kernel) pa_tw (by decide +kernel) (by decide +kernel) hst hpl
  | tuple => exact pe_callTy (clR_op σ _) hG (bl _ (by simp [bltNames, bfN])) (by decide +kernel) pa_tw (by decide +kernel) (by decide +kernel) hst hpl
  | list => exact pe_callTy (clR_op σ _) hG (bl _ (by simp [bltNames, bfN])) (by decide +kernel) pa_tw (by decide +kernel) (by decide +kernel) hst hpl
  | sum => exact pe_callB (clR_op σ _) hG (bl _ (by simp [bltNames, bfN])) (by decide +kernel) pa_tw (by decide +kernel) (by decide +kernel) hst hpl
  | all => exact pe_callB (clR_op σ _) hG (bl _ (by simp [bltNames, bfN])) (by decide +kernel) pa_tw (by decide +kernel) (by decide +kernel) hst hpl
  | any => exact pe_callB (clR_op σ _) hG (bl _ (by simp [bltNames, bfN])) (by decide +kernel) pa_tw (by decide +kernel) (by decide +kernel) hst hpl
  | max => exact pe_callB (clR_op σ _) hG (bl _ (by simp [bltNames, bfN])) (by decide +kernel) pa_tw (by decide +kernel) (by decide +kernel) hst hpl
  | min => exact pe_callB (clR_op σ _) hG (bl _ (by simp [bltNames, bfN])) (by decide +kernel) pa_tw (by decide +kernel) (by decide +kernel) hst hpl
  | sorted => exact pe_callB (clR_op σ _) hG (bl _ (by simp [bltNames, bfN])) (by decide +kernel) pa_tw (by decide +kernel) (by decide +kernel) hst hpl
  | gcd => exact pe_callBfun (clR_op σ _) hG (by rw [g.mg]; exact F.gcd hgcd) pa_tw (by decide +kernel) hst hpl
  | dict => exact pe_callTy (clR_op σ _) hG (bl _ (by simp [bltNames, bfN])) (by decide +kernel) pa_tw (by decide +kernel) (by decide +kernel) hst hpl
theorem cE_bf (F : Facts S) (g : Good S Γ X) (hot : Γ.hot = false) {b : BF} {x : Str} {e : Expr} {es : List Expr} {ms : List ME} {p pos : Pos} (hg : glQ Γ x = true) (hx : x = bfN b) (hgcd : gcdQ S.T b = true) (hs : ∀ x ∈ e :: es, notStar x = true)
    (ha : Sat S.L X σ φ H (RVsr S.L) (evalEs S.G xo ms ρ h) (twA X (e :: es) σ H)) : Sat S.L X σ φ H (RVr S.L) (evalE S.G xo (.bf b ms) ρ h) (twE X (.Call (.Name x p) (e :: es) [] pos) σ H) := by
  subst hx
  simp only [evalE]
  exact Sat.imp (Sat.bind (T2 := fun (xs : List V) (H1 : Hp) (Q : VK) => clT X σ (bfVal b) xs H1 Q) twA.mo (fun _ _ => clT.mo) ha fun ds h1 _ xs φ1 H1 rx hm1 e1 => bfD_ok g.K (g.calm hot).1 hm1 rx) fun Q z => tw_of (pe_bf F g hg hgcd hs) z

/-! ### isinstance -/
theorem tyN_boot (t : Ty) : bootBuiltins (tyN t) = some (.type (tyS (some t))) := by cases t <;> decide +kernel
theorem tyN_mem (t : Ty) : tyN t ∈ bltNames := by cases t <;> simp [tyN, bltNames]
theorem tyN_ne (t : Ty) : tyN t ≠ "__name__" ∧ (tyN t == ("__debug__" : Str)) = false := by cases t <;> decide +kernel
theorem pe_tyN (F : Facts S) (g : Good S Γ X) {t : Ty} {x : Str} {pos : Pos} (hg : glQ Γ x = true) (hx : x = tyN t) : PE X (.Name x pos) (tC (.ty (tyS (some t)))) := by
  subst hx
  have bl : ∀ x ∈ bltNames, X.mg x = none := by rw [g.mg]; exact F.blt
  exact pe_bltn (glQ_ok g hg) (bl _ (tyN_mem t)) (tyN_boot t) rfl (tyN_ne t).1 (tyN_ne t).2
theorem pa_tyNs (F : Facts S) (g : Good S Γ X) : ∀ {ys : List Expr} {ts : List Ty}, ckL (fun (z : Expr) u => match z with | .Name w _ => glQ Γ w && decide (w = tyN u) | _ => false) ys ts = true →
    PA X ys (fun _ H Q => Q (ts.map fun t => V.ty (tyS (some t))) H) ∧ ys.length = ts.length
  | [], [], _ => ⟨⟨fun pos pins s σ H Q I h => pa_nil.run pos pins s σ H Q I h⟩, rfl⟩
  | [], _ :: _, q => by cases q
  | _ :: _, [], q => by cases q
  | y :: ys, t :: ts, q => by
    unfold ckL at q
    rw [Bool.and_eq_true] at q
    obtain ⟨q1, q2⟩ := q
    obtain ⟨ih, hl⟩ := pa_tyNs F g q2
    split at q1
    · rename_i w p
      rw [Bool.and_eq_true] at q1
      have hp := pe_tyN F g (pos := p) q1.1 (of_decide_eq_true q1.2)
      refine ⟨⟨fun pos pins s σ H Q I h => ?_⟩, by simp [hl]⟩
      exact (pa_cons hp ih (star_cons rfl)).run pos pins s σ H Q I h
    · cases q1
theorem clsV_tys : ∀ ts : List Ty, Paired ClsV (ts.map fun t => V.ty (tyS (some t))) (ts.map fun t => Value.type (tyS (some t)))
  | [] => .nil
  | t :: ts => .cons (.ty _) (clsV_tys ts)
theorem cE_isi (F : Facts S) (g : Good S Γ X) {x : Str} {a t : Expr} {ma : ME} {ts : List Ty} {p pos : Pos} (hg : glQ Γ x = true) (hx : x = "isinstance") (hst : notStar a = true)
    (ht : (match t with
        | .Name y _ => ckL (fun (z : Str) u => glQ Γ z && decide (z = tyN u)) [y] ts
        | .Tuple ys _ _ => ckL (fun (z : Expr) u => match z with | .Name w _ => glQ Γ w && decide (w = tyN u) | _ => false) ys ts
        | _ => false) = true) (hlen : ts.length ≤ 1000000)
    (ha : Sat S.L X σ φ H (RVr S.L) (evalE S.G xo ma ρ h) (twE X a σ H)) : Sat S.L X σ φ H (RVr S.L) (evalE S.G xo (.isi ma ts) ρ h) (twE X (.Call (.Name x p) [a, t] [] pos) σ H) := by
  subst hx
  simp only [evalE]
  have bl : ∀ x ∈ bltNames, X.mg x = none := by rw [g.mg]; exact F.blt
  have hG := glQ_ok g hg
  have hbig := bigLine
  split at ht
  · rename_i y p2
    cases ts with
    | nil => cases ht
    | cons t0 ts =>
      cases ts with
      | cons _ _ => simp [ckL] at ht
      | nil =>
        simp only [ckL, Bool.and_true] at ht
        rw [Bool.and_eq_true] at ht
        have hp := pe_tyN F g (pos := p2) ht.1 (of_decide_eq_true ht.2)
        refine Sat.imp (T := fun Q => twE X a σ H fun x H1 => clT X σ (.builtin "isinstance") [x, .ty (tyS (some t0))] H1 Q) ?_ fun Q z => tw_of (pe_callB (clR_op σ _) hG (bl _ (by simp [bltNames])) (by decide +kernel) (pa_cons pe_tw (pa_cons hp pa_nil (star_cons rfl)) (star_cons hst)) (by decide +kernel) (by decide +kernel) (star_cons hst) (star_plain (es := [.Name y p2]) fun e he => by rw [List.mem_singleton.mp he]; rfl)) z
        refine sat1 (T2 := fun x H1 => clT X σ (.builtin "isinstance") [x, .ty (tyS (some t0))] H1) (fun _ _ => clT.mo) ha fun u x φ1 H1 h1 _ rx hm1 e1 => ?_
        cases e : isiD u [t0] h1 with
        | none => trivial
        | some b =>
          obtain ⟨tt, e2, rfl⟩ := isiD_ty e
          refine Sat.ok (cl_of call_isi ⟨_, _, _, _, _, rfl, .ty _, tyX_of g.K hm1 rx e2, kit_ty (kitB_ty tt t0), ?_⟩)
          have : ([t0].any (tyLeO tt)) = tyLeO tt t0 := by simp
          rw [this]
          exact here hm1 (.bl _)
  · rename_i ys k p2
    obtain ⟨pa, hl⟩ := pa_tyNs F g ht
    have hp : PE X (.Tuple ys k p2) _ := pe_tup pa
    refine Sat.imp (T := fun Q => twE X a σ H fun x H1 => ∀ tp, H1 tp = none → clT X σ (.builtin "isinstance") [x, .ref tp] (upd H1 tp (.tup (ts.map fun t => V.ty (tyS (some t))))) Q) ?_ fun Q z => tw_of (pe_callB (clR_op σ _) hG (bl _ (by simp [bltNames])) (by decide +kernel) (pa_cons pe_tw (pa_cons hp pa_nil (star_cons rfl)) (star_cons hst)) (by decide +kernel) (by decide +kernel) (star_cons hst) (star_plain (es := [.Tuple ys k p2]) fun e he => by rw [List.mem_singleton.mp he]; rfl)) (twE.mo _ _ (fun x H1 q => ⟨by rw [List.length_map]; omega, fun tp htp => q tp htp⟩) z)
    refine sat1 (T2 := fun (x : V) (H1 : Hp) (Q : VK) => ∀ tp, H1 tp = none → clT X σ (.builtin "isinstance") [x, .ref tp] (upd H1 tp (.tup (ts.map fun t => V.ty (tyS (some t))))) Q) (fun x H1 Q Q' k z tp htp => clT.mo _ _ k (z tp htp)) ha fun u x φ1 H1 h1 _ rx hm1 e1 => ?_
    cases e : isiD u ts h1 with
    | none => trivial
    | some b =>
      obtain ⟨tt, e2, rfl⟩ := isiD_ty e
      refine Sat.ok fun tp htp => cl_of call_isiT ⟨_, tp, _, _, _, _, rfl, upd_same, clsV_tys ts, tyX_of g.K (hm1.side htp) (rx.kept (.side hm1 htp)) e2, kitAny_ty _ tt ts, φ1, .bl _, hm1.side htp, .side htp⟩
  · cases ht
end
end Mp
end
section
set_option Elab.async false
set_option linter.all false
set_option maxRecDepth 100000
set_option maxHeartbeats 4000000
/-! PySndB: targets; what is walked. -/
namespace Mp
open PySem PySem.Spec PyProof.Rows L2

section
variable {S : SC} {Γ : TC} {X : Cx} {σ : L2.St} {φ : List Addr} {H : Hp} {h : MH} {ρ : Env} {n : Nat} {xo : Option Ex}

/-- only what is handed back -/
def SatO (L : LC) (φ : List Addr) (H : Hp) {α β : Type} (Rel : Rl α β) (r : Rs α) (T : Tr β) : Prop := match r with
  | .ok a m => T (fun b H' => ∃ φ', Rel a b φ' H' ∧ RH L φ' H' m ∧ Ext φ H φ' H')
  | _ => True
theorem Sat.o {L : LC} {α β : Type} {Rel : Rl α β} {r : Rs α} {T : Tr β} (s : Sat L X σ φ H Rel r T) : SatO L φ H Rel r T := by
  cases r with
  | ok a m => exact s
  | exc x m => trivial
  | bad => trivial
theorem SatO.no {L : LC} {α β : Type} {Rel : Rl α β} {r : Rs α} {T : Tr β} (s : SatO L φ H Rel r T) : Sat L X σ φ H Rel (noExc r) T := by
  cases r with
  | ok a m => exact s
  | exc x m => trivial
  | bad => trivial
theorem SatO.imp {L : LC} {α β : Type} {Rel : Rl α β} {r : Rs α} {T T' : Tr β} (s : SatO L φ H Rel r T) (k : ∀ Q, T Q → T' Q) : SatO L φ H Rel r T' := by
  cases r with
  | ok a m => exact k _ s
  | exc x m => trivial
  | bad => trivial
theorem SatO.bind {L : LC} {α β γ δ : Type} {Rel : Rl α β} {Rel2 : Rl γ δ} {r : Rs α} {f : α → MH → Rs γ} {T : Tr β} {T2 : β → Hp → Tr δ} (mo : Mo T) (mo2 : ∀ b H1, Mo (T2 b H1)) (h : SatO L φ H Rel r T)
    (k : ∀ a m, r = .ok a m → ∀ b φ1 H1, Rel a b φ1 H1 → RH L φ1 H1 m → Ext φ H φ1 H1 → SatO L φ1 H1 Rel2 (f a m) (T2 b H1)) :
    SatO L φ H Rel2 (r.bind f) (fun Q => T fun b H1 => T2 b H1 Q) := by
  cases r with
  | bad => trivial
  | exc x m => trivial
  | ok a m =>
    have k' := k a m rfl
    show SatO L φ H Rel2 (f a m) _
    revert k'
    cases e : f a m with
    | bad => exact fun _ => trivial
    | exc x m2 => exact fun _ => trivial
    | ok c m2 =>
      intro k'
      refine mo _ _ (fun b H1 ⟨φ1, q1, q2, q3⟩ => ?_) h
      exact mo2 _ _ _ _ (fun d H2 ⟨φ2, p1, p2, p3⟩ => ⟨φ2, p1, p2, q3.trans p3⟩) (k' b φ1 H1 q1 q2 q3)

theorem SatO.rel {L : LC} {α β : Type} {Rel Rel' : Rl α β} {r : Rs α} {T : Tr β} (mo : Mo T) (h : SatO L φ H Rel r T) (k : ∀ a b φ' H' m, Rel a b φ' H' → RH L φ' H' m → Ext φ H φ' H' → Rel' a b φ' H') : SatO L φ H Rel' r T := by
  cases r with
  | ok a m => exact mo _ _ (fun b H' ⟨φ', x, y, z⟩ => ⟨φ', k _ _ _ _ _ x y z, y, z⟩) h
  | exc x m => trivial
  | bad => trivial
/-! ### targets -/
theorem wipe_set_own : ∀ {own : List Nat} {σ : L2.St} {i : Nat} {v : Option V}, i ∈ own → L2.wipe (σ.set i v) own = L2.wipe σ own
  | [], _, _, _, hi => nomatch hi
  | j :: r, σ, i, v, hi => by
    unfold L2.wipe
    by_cases h : i ∈ r
    · rw [wipe_set_own h]
    · have : i = j := by
        rcases List.mem_cons.mp hi with e | e
        · exact e
        · exact absurd e h
      subst this
      have key : ∀ (r : List Nat), i ∉ r → L2.wipe (σ.set i v) r = (L2.wipe σ r).set i v := by
        intro r
        induction r with
        | nil => intro _; rfl
        | cons k r ih =>
          intro hk
          unfold L2.wipe
          rw [ih (fun z => hk (List.mem_cons_of_mem _ z))]
          exact List.set_comm _ _ (fun z => hk (z ▸ List.mem_cons_self))
      rw [key r h, List.set_set]
abbrev REo (S : SC) (Γ : TC) (X : Cx) (xo : Option Ex) (σ0 : L2.St) (P : List Nat → Bool) : Rl Env L2.St := fun ρ σ φ H => RQ S Γ X xo φ H ρ σ ∧ ∀ own, P own = true → L2.wipe σ own = L2.wipe σ0 own
def twG (X : Cx) (tg : Expr) : TG := fun v σ H Q => ∀ pins s u, RelV v u → Inv X pins σ H s → wpAny (model X.prog X.w) X.A (assign tg X.env u) (fun _ s' => ∃ σ' H', Inv X pins σ' H' s' ∧ Q σ' H') X.xe s
theorem twG.mo {tg : Expr} {v : V} {σ : L2.St} {H : Hp} : Mo (twG X tg v σ H) := fun Q Q' k h pins s u r I => thn (h pins s u r I) fun _ s' ⟨σ', H', I', q⟩ => ⟨σ', H', I', k _ _ q⟩
theorem pg_tw {tg : Expr} : PG X tg (twG X tg) := ⟨fun pins s σ H v u Q I r h => h pins s u r I⟩
theorem twG_of {tg : Expr} {t : TG} {v : V} {σ : L2.St} {H : Hp} {Q : L2.St → Hp → Prop} (p : PG X tg t) (h : t v σ H Q) : twG X tg v σ H Q := fun pins s u r I => p.run pins s σ H v u Q I r h
def twGs (X : Cx) (es : List Expr) : TGs := fun vs σ H Q => ∀ pins s us, Vals vs us → Inv X pins σ H s → wpAny (model X.prog X.w) X.A (assignInOrder ((assignEach es X.env).map (·.2)) us) (fun _ s' => ∃ σ' H', Inv X pins σ' H' s' ∧ Q σ' H') X.xe s
theorem twGs.mo {es : List Expr} {vs : List V} {σ : L2.St} {H : Hp} : Mo (twGs X es vs σ H) := fun Q Q' k h pins s u r I => thn (h pins s u r I) fun _ s' ⟨σ', H', I', q⟩ => ⟨σ', H', I', k _ _ q⟩
theorem pgs_tw {es : List Expr} : PGs X es (twGs X es) := ⟨fun pins s σ H vs us Q I r h => h pins s us r I⟩
theorem twGs_of {es : List Expr} {t : TGs} {vs : List V} {σ : L2.St} {H : Hp} {Q : L2.St → Hp → Prop} (p : PGs X es t) (h : t vs σ H Q) : twGs X es vs σ H Q := fun pins s us r I => p.run pins s σ H vs us Q I r h
abbrev HypG (S : SC) (n : Nat) : Prop := ∀ Γ X e t, Good S Γ X → ckG n S.T Γ e t = true → ∀ xo ρ σ φ H h d v, RQ S Γ X xo φ H ρ σ → RH S.L φ H h → RV S.L φ H d v → Sat S.L X σ φ H (REo S Γ X xo σ fun own => ownQ own t) (asgT S.G xo t d ρ h) (twG X e v σ H)
abbrev HypGs (S : SC) (n : Nat) : Prop := ∀ Γ X es ts, Good S Γ X → ckGs n S.T Γ es ts = true → ∀ xo ρ σ φ H h ds vs, RQ S Γ X xo φ H ρ σ → RH S.L φ H h → RVs S.L φ H ds vs → SatO S.L φ H (REo S Γ X xo σ fun own => ownQs own ts) (asgTs S.G xo ts ds ρ h) (twGs X es vs σ H)
theorem asg_star {e : Expr} {es : List Expr} {env : PySem.Env} (q : notStar e = true) : assignEach (e :: es) env = (false, assign e env) :: assignEach es env := by cases e <;> first | rfl | cases q
theorem ckGs_star : ∀ {n : Nat} {T : GT} {es : List Expr} {ts : List MT}, ckGs n T Γ es ts = true → (∀ e ∈ es, notStar e = true) ∧ ts.length = es.length
  | 0, _, _, _, q => by cases q
  | n + 1, T, [], [], _ => ⟨(fun e he => nomatch he), rfl⟩
  | n + 1, T, [], _ :: _, q => by cases q
  | n + 1, T, _ :: _, [], q => by cases q
  | n + 1, T, e :: es, m :: ms, q => by
    unfold ckGs at q
    rw [Bool.and_eq_true, Bool.and_eq_true] at q
    obtain ⟨a, c⟩ := ckGs_star q.2
    refine ⟨fun x hx => ?_, by simp [c]⟩
    rcases List.mem_cons.mp hx with rfl | hx
    · exact q.1.1
    · exact a x hx
theorem asg_each : ∀ {es : List Expr} {env : PySem.Env}, (∀ e ∈ es, notStar e = true) → (assignEach es env).length = es.length ∧ (assignEach es env).findIdx? (·.1) = none
  | [], _, _ => ⟨rfl, rfl⟩
  | e :: es, env, q => by
    rw [asg_star (q e List.mem_cons_self)]
    obtain ⟨a, b⟩ := asg_each (env := env) fun x hx => q x (List.mem_cons_of_mem _ hx)
    refine ⟨by simp [a], ?_⟩
    rw [List.findIdx?_cons]
    simp [b]
theorem stepGs (hG : HypG S n) (hGs : HypGs S n) : HypGs S (n + 1) := by
  intro Γ X es ts g q xo ρ σ φ H h ds vs re hm rv
  unfold ckGs at q
  split at q
  · cases rv with
    | nil =>
      simp only [asgTs]
      exact twGs_of pgs_nil ⟨rfl, φ, ⟨re, fun _ _ => rfl⟩, hm, .refl⟩
    | cons a b => simp only [asgTs]; trivial
  · rename_i e es t ts
    rw [Bool.and_eq_true, Bool.and_eq_true] at q
    obtain ⟨⟨q1, q2⟩, q3⟩ := q
    cases rv with
    | nil => simp only [asgTs]; trivial
    | @cons d v ds vs r rr =>
      simp only [asgTs]
      refine SatO.imp (T := fun Q => twG X e v σ H fun σ1 H1 => twGs X es vs σ1 H1 Q) ?_ fun Q z => twGs_of (pgs_cons pg_tw pgs_tw (by rw [asg_star q1]; rfl)) ⟨v, vs, rfl, z⟩
      refine SatO.bind (T2 := fun σ1 H1 => twGs X es vs σ1 H1) twG.mo (fun _ _ => twGs.mo) (hG Γ X e t g q2 xo ρ σ φ H h d v re hm r).o fun ρ1 h1 _ σ1 φ1 H1 re1 hm1 e1 => ?_
      refine SatO.rel twGs.mo (hGs Γ X es ts g q3 xo ρ1 σ1 φ1 H1 h1 ds vs re1.1 hm1 (rr.kept (e1.kept hm))) fun a b φ' H' m z _ _ => ⟨z.1, fun own ho => ?_⟩
      have ho : (ownQ own t && ownQs own ts) = true := by unfold ownQs at ho; exact ho
      rw [Bool.and_eq_true] at ho
      exact (z.2 own ho.2).trans (re1.2 own ho.1)
  · cases q
theorem sub_asg {o i : Expr} {pos : Pos} {env : PySem.Env} (q : notSlice i = true) : ∀ v, assign (.Subscript o i pos) env v = (do
      let ov ← holding [v] (eval o env)
      let iv ← holding [v, ov] (eval i env)
      standAt pos
      holding [v, ov, iv] (setItem ov iv v)
      release [v, ov, iv] []) := by
  intro v
  cases i <;> first | rfl | cases q
/-- o[i] = .., o.f = .., by what is wanted of the store -/
theorem pg_fldW {o : Expr} {f : Str} {pos : Pos} : PG X (.Attribute o f pos) (fun v σ H Q => twE X o σ H fun y H1 => ∀ w u, RelV y w → RelV v u → stT X σ H1 (setAttr w f u) fun H2 => Q σ H2) := by
  refine ⟨fun pins s σ H v u Q I r h => ?_⟩
  show wpAny _ _ (do
    let ov ← holding [u] (eval o X.env)
    standAt pos.atName
    holding [u, ov] (setAttr ov f u)
    release [u, ov] []) _ _ s
  refine wpAny_bind (wpAny_holding (thn (h pins s I) fun ov s1 ⟨x, H1, I1, r1, q1⟩ => ?_))
  refine wpAny_bind (wpAny_standAt (wpAny_bind (wpAny_holding (thn (q1 ov u r1 r pins s1 I1) fun _ s3 ⟨H3, I3, q3⟩ => ?_))))
  exact wpAny_release ⟨σ, H3, I3, q3⟩
theorem pg_subW {o i : Expr} {pos : Pos} (q : notSlice i = true) : PG X (.Subscript o i pos) (fun v σ H Q => twE X o σ H fun y H1 => twE X i σ H1 fun z H2 => ∀ w wi u, RelV y w → RelV z wi → RelV v u → stT X σ H2 (setItem w wi u) fun H3 => Q σ H3) := by
  refine ⟨fun pins s σ H v u Q I r h => ?_⟩
  rw [sub_asg q]
  refine wpAny_bind (wpAny_holding (thn (h pins s I) fun ov s1 ⟨x, H1, I1, r1, q1⟩ => ?_))
  refine wpAny_bind (wpAny_holding (thn (q1 pins s1 I1) fun iv s2 ⟨y, H2, I2, r2, q2⟩ => ?_))
  refine wpAny_bind (wpAny_standAt (wpAny_bind (wpAny_holding (thn (q2 ov iv u r1 r2 r pins s2 I2) fun _ s3 ⟨H3, I3, q3⟩ => ?_))))
  exact wpAny_release ⟨σ, H3, I3, q3⟩
theorem stT.mo {c : Sem Unit} {Q Q' : Hp → Prop} (h : stT X σ H c Q) (k : ∀ H, Q H → Q' H) : stT X σ H c Q' := fun pins s I => thn (h pins s I) fun _ s' ⟨H', I', q⟩ => ⟨H', I', k _ q⟩
theorem xo_set (g : Good S Γ X) {i : Nat} {x : Str} (q : locQ Γ i x = true) {v : Option V} (r : XO S Γ X xo σ φ H) : XO S Γ X xo (σ.set i v) φ H := by
  unfold locQ at q
  rw [Bool.and_eq_true, Bool.and_eq_true] at q
  have q2 := q.1.2
  unfold XO at r ⊢
  split
  · trivial
  · rename_i j hc
    rw [hc] at r q2
    obtain ⟨x, a, d, oe, pn, X0, h1, h2, h3, h4, h5, h6⟩ := r
    have hne : i ≠ j := by simpa using q2
    exact ⟨x, a, d, oe, pn, X0, h1, by rw [List.getElem?_set_ne hne]; exact h2, h3, h4, h5, h6⟩
theorem stepG (F : Facts S) (hE : HypE S n) (hGs : HypGs S n) : HypG S (n + 1) := by
  intro Γ X e t g q xo ρ σ φ H h d v re hm rv
  have hu := g.un
  unfold ckG at q
  split at q
  · rename_i i
    split at q
    · obtain ⟨a, b, c⟩ := locQ_ok g q
      simp only [asgT]
      split
      · exact Sat.ok (twG_of (pg_name (by rw [g.N]; exact g.nd) a b c) ⟨φ, ⟨⟨re.re.set rv, xo_set g q re.xo⟩, fun own ho => wipe_set_own (by unfold ownQ at ho; simpa using ho)⟩, hm, .refl⟩)
      · trivial
    · cases q
  · rename_i ts
    split at q
    · rename_i es k pos
      rw [Bool.and_eq_true] at q
      obtain ⟨hot, q⟩ := q
      have hot : Γ.hot = false := by simpa using hot
      obtain ⟨hst, hlen⟩ := ckGs_star q
      obtain ⟨hn, hf⟩ := asg_each (env := X.env) hst
      obtain ⟨hc, _⟩ := g.calm hot
      simp only [asgT]
      unfold unp itemsOf
      cases rv with
      | tup a r =>
        dsimp only
        split
        · rename_i xs e
          split at e
          · rename_i hl
            cases e
            refine SatO.no (SatO.imp (hGs Γ X es ts g q xo ρ σ φ H h _ _ re hm r) fun Q z => twG_of (pg_tup (n := es.length) hc pgs_tw hn hf) ⟨_, _, rfl, .of a, by rw [← r.length]; omega, z⟩)
          · cases e
        · trivial
      | ktup a kk r =>
        dsimp only
        split
        · rename_i xs e
          split at e
          · rename_i hl
            cases e
            rw [← g.K] at a
            refine SatO.no (SatO.imp (hGs Γ X es ts g q xo ρ σ φ H h _ _ re hm r) fun Q z => twG_of (pg_tup (n := es.length) hc pgs_tw hn hf) ⟨_, _, rfl, a.sq, by rw [← r.length]; omega, z⟩)
          · cases e
        · trivial
      | fz a r =>
        dsimp only
        split
        · rename_i xs e
          split at e
          · rename_i hl
            cases e
            rw [← g.K] at a
            refine SatO.no (SatO.imp (hGs Γ X es ts g q xo ρ σ φ H h _ _ re hm r) fun Q z => twG_of (pg_lst (n := es.length) hc pgs_tw hn hf) ⟨_, _, rfl, a.sq, by rw [← r.length]; omega, z⟩)
          · cases e
        · trivial
      | ref hr =>
        dsimp only
        split
        · rename_i xs e
          split at e
          · rename_i ys e2
            split at e
            · rename_i hl
              cases e
              obtain ⟨vs, ha, ra⟩ := lstAt hm hr (seqAt e2)
              refine SatO.no (SatO.imp (hGs Γ X es ts g q xo ρ σ φ H h _ _ re hm ra) fun Q z => twG_of (pg_lst (n := es.length) hc pgs_tw hn hf) ⟨_, _, rfl, .of ha, by rw [← ra.length]; omega, z⟩)
            · cases e
          · cases e
        · trivial
      | non => trivial
      | bl => trivial
      | int => trivial
      | str => trivial
    · cases q
  · rename_i o i
    split at q
    · rename_i o' i' pos
      rw [Bool.and_eq_true, Bool.and_eq_true] at q
      obtain ⟨⟨q1, q2⟩, q3⟩ := q
      simp only [asgT]
      rw [F.kts]
      refine Sat.imp (T := fun Q => twE X o' σ H fun y H1 => twE X i' σ H1 fun z H2 => ∀ w wi u, RelV y w → RelV z wi → RelV v u → stT X σ H2 (setItem w wi u) fun H3 => Q σ H3) ?_ fun Q z => twG_of (pg_subW q1) z
      refine Sat.bind (T2 := fun (y : V) (H1 : Hp) (Q : L2.St → Hp → Prop) => twE X i' σ H1 fun z H2 => ∀ w wi u, RelV y w → RelV z wi → RelV v u → stT X σ H2 (setItem w wi u) fun H3 => Q σ H3) twE.mo
        (fun y H1 Q Q' k z => twE.mo _ _ (fun z H2 q w wi u a b c => (q w wi u a b c).mo fun H3 q => k _ _ q) z) (hE Γ X o' o g q2 xo ρ σ φ H h re hm) fun uo h1 _ y φ1 H1 ry hm1 e1 => ?_
      refine Sat.bind (T2 := fun (z : V) (H2 : Hp) (Q : L2.St → Hp → Prop) => ∀ w wi u, RelV y w → RelV z wi → RelV v u → stT X σ H2 (setItem w wi u) fun H3 => Q σ H3) twE.mo
        (fun z H2 Q Q' k q w wi u a b c => (q w wi u a b c).mo fun H3 q => k _ _ q) (hE Γ X i' i g q3 xo ρ σ φ1 H1 h1 (re.ext hm e1) hm1) fun ui h2 _ z φ2 H2 rz hm2 e2 => ?_
      split
      · rename_i h3 e
        refine Sat.ok fun w wi u a b c => ?_
        refine (setIx_ok (σ := σ) g.K (by omega) hm2 (ry.kept (e2.kept hm1)) rz (rv.kept ((e1.trans e2).kept hm)) e a b c).mo fun H3 ⟨φ3, hm3, e3⟩ => ⟨φ3, ⟨?_, fun own ho => by unfold ownQ at ho; cases ho⟩, hm3, e3⟩
        exact re.ext hm ((e1.trans e2).trans e3)
      · trivial
    · cases q
  · rename_i o f
    split at q
    · rename_i o' x pos
      rw [Bool.and_eq_true] at q
      obtain ⟨q1, q2⟩ := q
      have := of_decide_eq_true q1
      subst this
      simp only [asgT]
      rw [F.attr]
      refine Sat.imp (T := fun Q => twE X o' σ H fun y H1 => ∀ w u, RelV y w → RelV v u → stT X σ H1 (setAttr w (S.L.at_ f) u) fun H2 => Q σ H2) ?_ fun Q z => twG_of pg_fldW z
      refine Sat.bind (T2 := fun (y : V) (H1 : Hp) (Q : L2.St → Hp → Prop) => ∀ w u, RelV y w → RelV v u → stT X σ H1 (setAttr w (S.L.at_ f) u) fun H2 => Q σ H2) twE.mo
        (fun y H1 Q Q' k q w u a b => (q w u a b).mo fun H3 q => k _ _ q) (hE Γ X o' o g q2 xo ρ σ φ H h re hm) fun uo h1 _ y φ1 H1 ry hm1 e1 => ?_
      split
      · rename_i h2 e
        refine Sat.ok fun w u a b => ?_
        refine (setF_ok (σ := σ) g.K F.cls hm1 ry (rv.kept (e1.kept hm)) e a b).mo fun H3 ⟨φ3, hm3, e3⟩ => ⟨φ3, ⟨?_, fun own ho => by unfold ownQ at ho; cases ho⟩, hm3, e3⟩
        exact re.ext hm (e1.trans e3)
      · trivial
    · cases q

/-! ### what is walked -/
/-- the iterator J walks what s says -/
def SR (L : LC) (s : Src) (J : It) (φ : List Addr) (H : Hp) : Prop := ∀ φ' H' m', Stays L φ H φ' H' → RH L φ' H' m' → ∀ i,
  (s.nth m' i = some none → J.stop i H') ∧ (∀ d, s.nth m' i = some (some d) → J.go i H' ∧ ∀ x H2, J.yld i H' x H2 → ∃ φ2, RV L φ2 H2 d x ∧ RH L φ2 H2 m' ∧ Ext φ' H' φ2 H2)
def twI (X : Cx) (tg iter : Expr) : TI := fun σ H R => ∀ pins s, Inv X pins σ H s → wpAny (model X.prog X.w) X.A (eval iter X.env) (fun v s1 => wpAny (model X.prog X.w) X.A (pyIter v) (PIE X pins σ tg R) X.xe s1) X.xe s
theorem twI.mo {tg iter : Expr} : Mo (twI X tg iter σ H) := fun Q Q' k h pins s I => thn (h pins s I) fun v s1 z => thn z fun u s2 ⟨it, fp, tn, J, H', a, b, c, d, e, q⟩ => ⟨it, fp, tn, J, H', a, b, c, d, e, k _ _ q⟩
theorem pi_tw {tg iter : Expr} : PI X tg iter (twI X tg iter) := ⟨fun pins s σ H R I h => h pins s I⟩
theorem twI_of {tg iter : Expr} {w : TI} {R : It → Hp → Prop} (p : PI X tg iter w) (h : w σ H R) : twI X tg iter σ H R := fun pins s I => p.run pins s σ H R I h
abbrev HypI (S : SC) (n : Nat) : Prop := ∀ Γ X tg e m, Good S Γ X → ckI n S.T Γ tg e m = true → ∀ xo ρ σ φ H h, RQ S Γ X xo φ H ρ σ → RH S.L φ H h → Sat S.L X σ φ H (fun s J φ H => SR S.L s J φ H) (evalI S.G xo m ρ h) (twI X tg e σ H)
theorem Stays.refl {L : LC} : Stays L φ H φ H := ⟨fun _ _ q => q, fun _ _ q => q, fun _ _ _ q => q⟩
theorem tupS {L : LC} {φ' : List Addr} {H' : Hp} (st : Stays L φ H φ' H') {a : Addr} {vs : List V} (hq : H a = some (.tup vs) ∨ KTup L.K a vs) : SqT L.K H' a vs := by
  rcases hq with hq | hq
  · exact .of (st.tup _ _ hq)
  · exact hq.sq
theorem RV.tupOr {L : LC} {xs : List D} {v : V} (r : RV L φ H (.tup xs) v) : ∃ a vs, v = .ref a ∧ (H a = some (.tup vs) ∨ KTup L.K a vs) ∧ RVs L φ H xs vs := by
  cases r with
  | tup h r => exact ⟨_, _, rfl, .inl h, r⟩
  | ktup h k r => exact ⟨_, _, rfl, .inr h, r⟩
theorem sqT_one {a : Addr} {xs ys : List V} (pins : List (Addr × Obj)) (s : Shared) (I : Inv X pins σ H s) (h1 : SqT X.K H a xs) (h2 : SqT X.K H a ys) : xs = ys := I.tuple_inj h1 h2
theorem sr_tup {L : LC} {xs : List D} {a : Addr} {vs : List V} (hq : H a = some (.tup vs) ∨ KTup L.K a vs) (r : RVs L φ H xs vs) : SR L (.its xs) (Itt L.K a) φ H := by
  intro φ' H' m' st hm i
  have hs := tupS st hq
  refine ⟨fun e => ⟨vs, hs, ?_⟩, fun d e => ?_⟩
  · simp only [Src.nth, Option.some.injEq] at e
    have := r.none_of e
    exact List.getElem?_eq_none_iff.mp this
  · simp only [Src.nth, Option.some.injEq] at e
    obtain ⟨v, e1, rv⟩ := r.get e
    refine ⟨⟨vs, v, hs, e1⟩, fun x H2 ⟨eH, y⟩ => ?_⟩
    subst eH
    have := y vs hs
    rw [e1] at this; cases this
    exact ⟨φ', rv.kept st, hm, .refl⟩
theorem sr_fz {L : LC} {xs : List D} {a : Addr} {vs : List V} (hq : FzL L.K H a vs) (r : RVs L φ H xs vs) : SR L (.its xs) (Itl L.K a) φ H := by
  intro φ' H' m' st hm i
  have hs := (hq.kept st).sq
  refine ⟨fun e => ⟨vs, hs, ?_⟩, fun d e => ?_⟩
  · simp only [Src.nth, Option.some.injEq] at e
    have := r.none_of e
    exact List.getElem?_eq_none_iff.mp this
  · simp only [Src.nth, Option.some.injEq] at e
    obtain ⟨v, e1, rv⟩ := r.get e
    refine ⟨⟨vs, v, hs, e1⟩, fun x H2 ⟨eH, y⟩ => ?_⟩
    subst eH
    have := y vs hs
    rw [e1] at this; cases this
    exact ⟨φ', rv.kept st, hm, .refl⟩
theorem sr_lv {L : LC} {r : Nat} {a : Addr} (hr : φ[r]? = some a) : SR L (.lv r) (Itl L.K a) φ H := by
  intro φ' H' m' st hm i
  have hr' := st.get _ _ hr
  refine ⟨fun e => ?_, fun d e => ?_⟩
  · simp only [Src.nth, Option.map_eq_some_iff] at e
    obtain ⟨xs, e1, e2⟩ := e
    obtain ⟨vs, ha, ra⟩ := lstAt hm hr' (seqAt e1)
    exact ⟨vs, .of ha, List.getElem?_eq_none_iff.mp (ra.none_of e2)⟩
  · simp only [Src.nth, Option.map_eq_some_iff] at e
    obtain ⟨xs, e1, e2⟩ := e
    obtain ⟨vs, ha, ra⟩ := lstAt hm hr' (seqAt e1)
    obtain ⟨v, e3, rv⟩ := ra.get e2
    refine ⟨⟨vs, v, .of ha, e3⟩, fun x H2 ⟨eH, y⟩ => ?_⟩
    subst eH
    have := y vs (.of ha)
    rw [e3] at this; cases this
    exact ⟨φ', rv, hm, .refl⟩
theorem rangeD_get : ∀ (n : Nat) (lo : Int) (i : Nat), (rangeD lo n)[i]? = if i < n then some (.int (lo + i)) else none
  | 0, lo, i => by simp [rangeD]
  | n + 1, lo, 0 => by simp [rangeD]
  | n + 1, lo, i + 1 => by
    unfold rangeD
    rw [List.getElem?_cons_succ, rangeD_get n (lo + 1) i]
    by_cases c : i < n
    · rw [if_pos c, if_pos (Nat.succ_lt_succ c)]
      congr 2
      omega
    · rw [if_neg c, if_neg (fun z => c (Nat.lt_of_succ_lt_succ z))]
theorem sr_rng {L : LC} {lo : Int} {k : Nat} : SR L (.its (rangeD lo k)) (Itr lo k) φ H := by
  intro φ' H' m' st hm i
  refine ⟨fun e => ?_, fun d e => ?_⟩
  · simp only [Src.nth, Option.some.injEq] at e
    rw [rangeD_get] at e
    show k ≤ i
    split at e
    · cases e
    · omega
  · simp only [Src.nth, Option.some.injEq] at e
    rw [rangeD_get] at e
    split at e
    · rename_i c
      cases e
      refine ⟨c, fun x H2 ⟨eH, ex⟩ => ?_⟩
      subst eH ex
      exact ⟨φ', .int _, hm, .refl⟩
    · cases e
theorem pair_tup {L : LC} {m : MH} {dx dy : D} {x y : V} (hm : RH L φ H m) (rx : RV L φ H dx x) (ry : RV L φ H dy y) {t : Addr} (ht : H t = none) :
    ∃ φ2, RV L φ2 (upd H t (.tup [x, y])) (.tup [dx, dy]) (.ref t) ∧ RH L φ2 (upd H t (.tup [x, y])) m ∧ Ext φ H φ2 (upd H t (.tup [x, y])) := newT hm (.cons rx (.cons ry .nil)) ht
theorem sr_zip {L : LC} {r q : Nat} {a b : Addr} (hr : φ[r]? = some a) (hq : φ[q]? = some b) : SR L (.zip (.lv r) (.lv q)) (Itz L.K a b) φ H := by
  intro φ' H' m' st hm i
  have hr' := st.get _ _ hr
  have hq' := st.get _ _ hq
  simp only [Src.nth]
  cases e1 : m'.seq r with
  | none => exact ⟨(fun e => by cases e), (fun d e => by cases e)⟩
  | some xs =>
    cases e3 : m'.seq q with
    | none => simp
    | some ys =>
      obtain ⟨vs, ha, ra⟩ := lstAt hm hr' (seqAt e1)
      obtain ⟨ws, hb, rb⟩ := lstAt hm hq' (seqAt e3)
      dsimp only [Option.map_some]
      cases e2 : xs[i]? with
      | none => exact ⟨(fun e => ⟨vs, ws, .of ha, .of hb, .inl (List.getElem?_eq_none_iff.mp (ra.none_of e2))⟩), (fun d e => by cases e)⟩
      | some dx =>
        cases e4 : ys[i]? with
        | none => exact ⟨(fun e => ⟨vs, ws, .of ha, .of hb, .inr (List.getElem?_eq_none_iff.mp (rb.none_of e4))⟩), (fun d e => by cases e)⟩
        | some dy =>
          dsimp only
          refine ⟨(fun e => by cases e), fun d e => ?_⟩
          cases e
          obtain ⟨v, e5, rv⟩ := ra.get e2
          obtain ⟨w, e6, rw'⟩ := rb.get e4
          refine ⟨⟨vs, ws, v, w, .of ha, .of hb, e5, e6⟩, fun x H2 ⟨t, x1, y1, ex, ht, eH, z1, z2⟩ => ?_⟩
          subst ex eH
          have h1 := z1 vs (.of ha)
          rw [e5] at h1; cases h1
          have h2 := z2 ws (.of hb)
          rw [e6] at h2; cases h2
          exact pair_tup hm rv rw' ht
theorem sr_zipT {L : LC} {xs ys : List D} {a b : Addr} {vs ws : List V} (ha : H a = some (.tup vs) ∨ KTup L.K a vs) (hb : H b = some (.tup ws) ∨ KTup L.K b ws) (ra : RVs L φ H xs vs) (rb : RVs L φ H ys ws) :
    SR L (.its ((xs.zip ys).map fun p => .tup [p.1, p.2])) (RZ.ItzT L.K a b) φ H := by
  intro φ' H' m' st hm i
  have sa := tupS st ha
  have sb := tupS st hb
  simp only [Src.nth, List.getElem?_map]
  have key : (xs.zip ys)[i]? = match xs[i]?, ys[i]? with
      | some x, some y => some (x, y)
      | _, _ => none := by
    cases e1 : xs[i]? with
    | none =>
      have := List.getElem?_eq_none_iff.mp e1
      exact List.getElem?_eq_none_iff.mpr (by rw [List.length_zip]; omega)
    | some x =>
      cases e2 : ys[i]? with
      | none =>
        have := List.getElem?_eq_none_iff.mp e2
        exact List.getElem?_eq_none_iff.mpr (by rw [List.length_zip]; omega)
      | some y => exact List.getElem?_zip_eq_some.mpr ⟨e1, e2⟩
  rw [key]
  cases e1 : xs[i]? with
  | none => exact ⟨fun e => ⟨vs, ws, sa, sb, .inl (List.getElem?_eq_none_iff.mp (ra.none_of e1))⟩, fun d e => by cases e⟩
  | some x =>
    cases e2 : ys[i]? with
    | none => exact ⟨fun e => ⟨vs, ws, sa, sb, .inr (List.getElem?_eq_none_iff.mp (rb.none_of e2))⟩, fun d e => by cases e⟩
    | some y =>
      dsimp only
      refine ⟨(fun e => by cases e), fun d e => ?_⟩
      cases e
      obtain ⟨v, e5, rv⟩ := ra.get e1
      obtain ⟨w, e6, rw'⟩ := rb.get e2
      refine ⟨⟨vs, ws, v, w, sa, sb, e5, e6⟩, fun x H2 ⟨t, x1, y1, ex, ht, eH, z1, z2⟩ => ?_⟩
      subst ex eH
      have h1 := z1 vs sa
      rw [e5] at h1; cases h1
      have h2 := z2 ws sb
      rw [e6] at h2; cases h2
      exact pair_tup hm (rv.kept st) (rw'.kept st) ht
theorem sr_enum {L : LC} {r : Nat} {a : Addr} (hr : φ[r]? = some a) : SR L (.enum (.lv r)) (Ite L.K a) φ H := by
  intro φ' H' m' st hm i
  have hr' := st.get _ _ hr
  simp only [Src.nth]
  cases e1 : m'.seq r with
  | none => exact ⟨(fun e => by cases e), (fun d e => by cases e)⟩
  | some xs =>
    obtain ⟨vs, ha, ra⟩ := lstAt hm hr' (seqAt e1)
    dsimp only [Option.map_some]
    cases e2 : xs[i]? with
    | none => exact ⟨(fun e => ⟨vs, .of ha, List.getElem?_eq_none_iff.mp (ra.none_of e2)⟩), (fun d e => by cases e)⟩
    | some dx =>
      dsimp only
      refine ⟨(fun e => by cases e), fun d e => ?_⟩
      cases e
      obtain ⟨v, e5, rv⟩ := ra.get e2
      refine ⟨⟨vs, v, .of ha, e5⟩, fun x H2 ⟨t, x1, ex, ht, eH, z1⟩ => ?_⟩
      subst ex eH
      have h1 := z1 vs (.of ha)
      rw [e5] at h1; cases h1
      exact pair_tup hm (.int _) rv ht

/-! ### the walk's start -/
theorem rngIf {i : Int} (c : (decide (-(2 ^ 62) ≤ i) && decide (i < 2 ^ 62)) = true) : -(2 ^ 62) ≤ i ∧ i < 2 ^ 62 := by
  rw [Bool.and_eq_true] at c
  exact ⟨of_decide_eq_true c.1, of_decide_eq_true c.2⟩
theorem stepI (F : Facts S) (hE : HypE S n) : HypI S (n + 1) := by
  intro Γ X tg e m g q xo ρ σ φ H h re hm
  have bl : ∀ x ∈ bltNames, X.mg x = none := by rw [g.mg]; exact F.blt
  unfold ckI at q
  split at q
  · rename_i a
    rw [Bool.and_eq_true] at q
    simp only [evalI]
    have hh := hE Γ X e a g q.2 xo ρ σ φ H h re hm
    cases eq : evalE S.G xo a ρ h with
    | bad => trivial
    | exc x m' =>
      rw [eq] at hh
      exact fun W tk hw => twI_of (pi_tup pe_tw) (twE.mo _ _ (fun _ _ z => z.elim) (hh W tk hw))
    | ok u h1 =>
      rw [eq] at hh
      dsimp only [Rs.bind]
      split
      · refine Sat.ok (twI_of (pi_tup pe_tw) (twE.mo _ _ (fun x H1 ⟨φ1, rx, hm1, e1⟩ => ?_) hh))
        obtain ⟨b, vs, rfl, hb, rb⟩ := rx.tupOr
        have hs := tupS (.refl (φ := φ1)) hb
        rw [← g.K] at hs
        refine ⟨b, rfl, ⟨vs, hs⟩, φ1, ?_, hm1, e1⟩
        rw [g.K]
        exact sr_tup hb rb
      · refine Sat.ok (twI_of (pi_list pe_tw) (twE.mo _ _ (fun x H1 ⟨φ1, rx, hm1, e1⟩ => ?_) hh))
        cases rx with
        | fz ha r =>
          refine ⟨_, rfl, ⟨_, by rw [g.K]; exact ha.sq⟩, φ1, ?_, hm1, e1⟩
          rw [g.K]
          exact sr_fz ha r
      · split
        · rename_i e2
          refine Sat.ok (twI_of (pi_list pe_tw) (twE.mo _ _ (fun x H1 ⟨φ1, rx, hm1, e1⟩ => ?_) hh))
          cases rx with
          | ref hr =>
            obtain ⟨vs, ha, ra⟩ := lstAt hm1 hr (seqAt e2)
            refine ⟨_, rfl, ⟨vs, .of ha⟩, φ1, ?_, hm1, e1⟩
            rw [g.K]
            exact sr_lv hr
        · trivial
      · trivial
  · rename_i a
    split at q
    · rename_i x p a' pos
      rw [Bool.and_eq_true, Bool.and_eq_true, Bool.and_eq_true] at q
      obtain ⟨⟨⟨q1, q2⟩, q3⟩, q4⟩ := q
      have := of_decide_eq_true q2
      subst this
      simp only [evalI]
      refine Sat.imp (sat1 (T2 := fun (x : V) (H1 : Hp) (R : It → Hp → Prop) => ∃ j : Int, [x] = [V.int j] ∧ -(2 ^ 62) ≤ j ∧ j < 2 ^ 62 ∧ R (Itr 0 j.toNat) H1) (fun x H1 Q Q' k ⟨j, a, b, c, d⟩ => ⟨j, a, b, c, k _ _ d⟩) (hE Γ X a' a g q4 xo ρ σ φ H h re hm) fun u x φ1 H1 h1 _ rx hm1 e1 => ?_) fun R z => twI_of (pi_range1 (glQ_ok g q1) (bl _ (by simp [bltNames])) (pa_cons pe_tw pa_nil (star_cons q3)) (star_cons q3)) z
      split
      · split
        · rename_i c
          obtain ⟨c1, c2⟩ := rngIf c
          cases rx
          exact Sat.ok ⟨_, rfl, c1, c2, φ1, sr_rng, hm1, .refl⟩
        · trivial
      · trivial
    · cases q
  · rename_i a b
    split at q
    · rename_i x p a' b' pos
      rw [Bool.and_eq_true, Bool.and_eq_true, Bool.and_eq_true, Bool.and_eq_true, Bool.and_eq_true] at q
      obtain ⟨⟨⟨⟨⟨q1, q2⟩, q3⟩, q4⟩, q5⟩, q6⟩ := q
      have := of_decide_eq_true q2
      subst this
      simp only [evalI]
      refine Sat.imp (sat2 (T2 := fun (x y : V) (H1 : Hp) (R : It → Hp → Prop) => ∃ i j : Int, [x, y] = [V.int i, V.int j] ∧ (-(2 ^ 62) ≤ i ∧ i < 2 ^ 62 ∧ -(2 ^ 62) ≤ j ∧ j < 2 ^ 62) ∧ R (Itr i (j - i).toNat) H1) hm (fun x y H1 Q Q' k ⟨i, j, a, b, c⟩ => ⟨i, j, a, b, k _ _ c⟩) (hE Γ X a' a g q5 xo ρ σ φ H h re hm) (fun φ1 H1 h1 hm1 e1 => hE Γ X b' b g q6 xo ρ σ φ1 H1 h1 (re.ext hm e1) hm1) fun u v x y φ2 H2 h2 rx ry hm2 => ?_) fun R z => twI_of (pi_range2 (glQ_ok g q1) (bl _ (by simp [bltNames])) (pa_cons pe_tw (pa_cons pe_tw pa_nil (star_cons q4)) (star_cons q3)) (by rw [star_cons q3, star_cons q4]; rfl) (star_cons q4)) z
      split
      · split
        · rename_i c
          rw [Bool.and_eq_true, Bool.and_eq_true] at c
          obtain ⟨⟨c1, c2⟩, c3⟩ := c
          obtain ⟨c0, c1⟩ := rngIf c1
          cases rx
          cases ry
          exact Sat.ok ⟨_, _, rfl, ⟨c0, c1, of_decide_eq_true c2, of_decide_eq_true c3⟩, φ2, sr_rng, hm2, .refl⟩
        · trivial
      · trivial
    · cases q
  · rename_i a b
    split at q
    · rename_i x p a' b' pos
      rw [Bool.and_eq_true, Bool.and_eq_true, Bool.and_eq_true, Bool.and_eq_true, Bool.and_eq_true, Bool.and_eq_true] at q
      obtain ⟨⟨⟨⟨⟨⟨q1, q2⟩, q3⟩, q4⟩, q5⟩, q6⟩, q7⟩ := q
      have := of_decide_eq_true q2
      subst this
      split at q7
      · rename_i elts kk tpos
        simp only [evalI]
        refine Sat.imp (sat2 (T2 := fun (x y : V) (H1 : Hp) (R : It → Hp → Prop) => ∃ a b xs ys, [x, y] = [V.ref a, V.ref b] ∧ ((SqL X.K H1 a xs ∧ SqL X.K H1 b ys ∧ R (Itz X.K a b) H1) ∨ (SqT X.K H1 a xs ∧ SqT X.K H1 b ys ∧ R (RZ.ItzT X.K a b) H1))) hm
          (fun x y H1 Q Q' k ⟨a, b, xs, ys, e, z⟩ => ⟨a, b, xs, ys, e, z.imp (fun ⟨u, v, w⟩ => ⟨u, v, k _ _ w⟩) (fun ⟨u, v, w⟩ => ⟨u, v, k _ _ w⟩)⟩) (hE Γ X a' a g q5 xo ρ σ φ H h re hm) (fun φ1 H1 h1 hm1 e1 => hE Γ X b' b g q6 xo ρ σ φ1 H1 h1 (re.ext hm e1) hm1) fun u v x y φ2 H2 h2 rx ry hm2 => ?_) fun R z => twI_of (RZ.pi_zipA (glQ_ok g q1) (bl _ (by simp [bltNames])) (pa_cons pe_tw (pa_cons pe_tw pa_nil (star_cons q4)) (star_cons q3)) (star_cons q3) (star_plain fun e he => by rw [List.mem_singleton.mp he]; exact q4)) z
        split
        · obtain ⟨b, vs, rfl, hb, rb⟩ := rx.tupOr
          obtain ⟨c, ws, rfl, hc, rc⟩ := ry.tupOr
          have hs := tupS (.refl (φ := φ2)) hb
          have ht := tupS (.refl (φ := φ2)) hc
          rw [← g.K] at hs ht
          refine Sat.ok ⟨b, c, vs, ws, rfl, .inr ⟨hs, ht, φ2, ?_, hm2, .refl⟩⟩
          rw [g.K]
          exact sr_zipT hb hc rb rc
        · split
          · rename_i e1 e2
            cases rx with
            | ref hr =>
            cases ry with
            | ref hq =>
            obtain ⟨vs, ha, ra⟩ := lstAt hm2 hr (seqAt e1)
            obtain ⟨ws, hb, rb⟩ := lstAt hm2 hq (seqAt e2)
            refine Sat.ok ⟨_, _, vs, ws, rfl, .inl ⟨.of ha, .of hb, φ2, ?_, hm2, .refl⟩⟩
            rw [g.K]
            exact sr_zip hr hq
          · trivial
        · trivial
      · cases q7
    · cases q
  · rename_i a
    split at q
    · rename_i x p a' pos
      rw [Bool.and_eq_true, Bool.and_eq_true, Bool.and_eq_true, Bool.and_eq_true] at q
      obtain ⟨⟨⟨⟨q1, q2⟩, q3⟩, q4⟩, q5⟩ := q
      have := of_decide_eq_true q2
      subst this
      split at q5
      · rename_i elts kk tpos
        simp only [evalI]
        refine Sat.imp (sat1 (T2 := fun (x : V) (H1 : Hp) (R : It → Hp → Prop) => ∃ a xs, [x] = [V.ref a] ∧ SqL X.K H1 a xs ∧ R (Ite X.K a) H1) (fun x H1 Q Q' k ⟨j, a, b, c, d⟩ => ⟨j, a, b, c, k _ _ d⟩) (hE Γ X a' a g q4 xo ρ σ φ H h re hm) fun u x φ1 H1 h1 _ rx hm1 e1 => ?_) fun R z => twI_of (pi_enum (glQ_ok g q1) (bl _ (by simp [bltNames])) (pa_cons pe_tw pa_nil (star_cons q3)) (star_cons q3)) z
        split
        · split
          · rename_i e2
            cases rx with
            | ref hr =>
            obtain ⟨vs, ha, ra⟩ := lstAt hm1 hr (seqAt e2)
            refine Sat.ok ⟨_, vs, rfl, .of ha, φ1, ?_, hm1, .refl⟩
            rw [g.K]
            exact sr_enum hr
          · trivial
        · trivial
      · cases q5
    · cases q
  · cases q
end
end Mp
end
section
set_option Elab.async false
set_option linter.all false
set_option maxRecDepth 100000
set_option maxHeartbeats 4000000
/-! PySndC: comprehensions. -/
namespace Mp
open PySem PySem.Spec PyProof.Rows L2

section
variable {S : SC} {Γ : TC} {X : Cx} {σ : L2.St} {φ : List Addr} {H : Hp} {h : MH} {ρ : Env} {n : Nat} {xo : Option Ex}

/-! ### the walk over items, over a list's places: one form -/
theorem compL_N {α : Type} (f : D → MH → Rs (Option α)) (ds : List D) : ∀ (k i : Nat) (h : MH), ds.length - i = k → compL f (ds.drop i) h = compN f (.its ds) (k + 1) i h
  | 0, i, h, e => by
    have hle : ds.length ≤ i := by omega
    rw [List.drop_eq_nil_of_le hle]
    simp [compL, compN, Src.nth, List.getElem?_eq_none hle]
  | k + 1, i, h, e => by
    have hlt : i < ds.length := by omega
    rw [List.drop_eq_getElem_cons hlt]
    have ih := fun h1 => compL_N f ds k (i + 1) h1 (by omega)
    rw [compN]
    simp only [compL, ih, Src.nth, List.getElem?_eq_getElem hlt]
theorem compS_N {α : Type} (f : D → MH → Rs (Option α)) (s : Src) (h : MH) : compS f s h = compN f s (s.len h + 1) 0 h := by
  cases s with
  | its ds => exact compL_N f ds ds.length 0 h rfl
  | _ => rfl
theorem forL_N (f : D → Env → MH → Ro) (ds : List D) : ∀ (k i : Nat) (ρ : Env) (h : MH), ds.length - i = k → forL f (ds.drop i) ρ h = forN f (.its ds) (k + 1) i ρ h
  | 0, i, ρ, h, e => by
    have hle : ds.length ≤ i := by omega
    rw [List.drop_eq_nil_of_le hle]
    simp [forL, forN, Src.nth, List.getElem?_eq_none hle]
  | k + 1, i, ρ, h, e => by
    have hlt : i < ds.length := by omega
    rw [List.drop_eq_getElem_cons hlt]
    have ih : forL f (ds.drop (i + 1)) = forN f (.its ds) (k + 1) (i + 1) := by
      funext ρ1 h1
      exact forL_N f ds k (i + 1) ρ1 h1 (by omega)
    rw [forN]
    simp only [forL, ih, Src.nth, List.getElem?_eq_getElem hlt]
theorem forS_N (f : D → Env → MH → Ro) (s : Src) (ρ : Env) (h : MH) : forS f s ρ h = forN f s (s.len h + 1) 0 ρ h := by
  cases s with
  | its ds => exact forL_N f ds ds.length 0 ρ h rfl
  | _ => rfl

/-! ### the block -/
/-- the names of a comprehension -/
theorem wipe_len (ρ : Env) : ∀ own : List Nat, (wipe ρ own).length = ρ.length
  | [] => rfl
  | i :: r => by unfold wipe; rw [List.length_set, wipe_len ρ r]
theorem RE.wipe {L : LC} (re : RE L φ H ρ σ) : ∀ own : List Nat, RE L φ H (Mp.wipe ρ own) (L2.wipe σ own)
  | [] => re
  | i :: r => by
    have ih := RE.wipe re r
    unfold Mp.wipe L2.wipe
    refine ⟨by simp [ih.len], fun j d e => ?_⟩
    by_cases hj : i = j
    · subst hj
      by_cases hl : i < (Mp.wipe ρ r).length
      · rw [List.getElem?_set_self hl] at e; cases e
      · rw [List.getElem?_eq_none (by simpa using hl)] at e; cases e
    · rw [List.getElem?_set_ne hj] at e ⊢
      exact ih.get j d e
theorem poke {L : LC} {m : MH} (hm : RH L φ H m) {p : Addr} (hp : p ∉ φ) {xs ys : List V} (e : H p = some (.lst xs)) : RH L φ (upd H p (.lst ys)) m ∧ Stays L φ H φ (upd H p (.lst ys)) := by
  have st : Stays L φ H φ (upd H p (.lst ys)) := by
    refine ⟨fun _ _ q => q, fun a vs q => ?_, fun a o vs q => ?_⟩
    · rw [upd_ne (fun z => by rw [z, e] at q; cases q)]; exact q
    · rw [upd_ne (fun z => by rw [z, e] at q; cases q)]; exact q
  refine ⟨⟨hm.len, hm.nd, fun r a q => ?_⟩, st⟩
  obtain ⟨o, g, ro⟩ := hm.ob r a q
  have hne : a ≠ p := fun z => hp (z ▸ List.mem_of_getElem? q)
  refine ⟨o, g, ro.kept st (upd_ne hne) fun dx z => ?_⟩
  rw [upd_ne]; exact z
  intro w; rw [w, e] at z; cases z
/-- the place of the new list, named -/
theorem MH.new_sz (m : MH) (o : MO) : (m.new o).sz = m.sz + 1 := rfl


/-- what lies at p, now tracked -/
theorem RH.adopt {L : LC} {m : MH} (h : RH L φ H m) {p : Addr} (hp : p ∉ φ) {xs : List D} {vs : List V} (e : H p = some (.lst vs)) (r : RVs L φ H xs vs) :
    RV L (φ ++ [p]) H (.ref m.sz) (.ref p) ∧ RH L (φ ++ [p]) H (m.new (.lst xs)) := by
  have st : Stays L φ H (φ ++ [p]) H := ⟨fun r a q => by rw [List.getElem?_append_left (List.getElem?_eq_some_iff.mp q).1]; exact q, fun _ _ q => q, fun _ _ _ q => q⟩
  refine ⟨.new h, by rw [List.length_append, h.len]; rfl, ?_, fun r a q => ?_⟩
  · rw [List.nodup_append]
    refine ⟨h.nd, by simp, fun a ha b hb => ?_⟩
    rw [List.mem_singleton.mp hb]
    exact fun e => hp (e ▸ ha)
  · by_cases hr : r < φ.length
    · rw [List.getElem?_append_left hr] at q
      obtain ⟨o', g, ro⟩ := h.ob r a q
      exact ⟨o', MH.get_new_some g, ro.kept st rfl fun dx z => z⟩
    · have e : r = φ.length := by
        have := (List.getElem?_eq_some_iff.mp q).1
        rw [List.length_append, List.length_singleton] at this
        omega
      subst e
      rw [List.getElem?_append_right (Nat.le_refl _), Nat.sub_self] at q
      cases q
      rw [h.len]
      refine ⟨.lst xs, MH.get_new_self m _, vs, ‹_›, ?_⟩
      exact RVs.kept st ‹_›
theorem wipe_idem (σ : L2.St) : ∀ own : List Nat, L2.wipe (L2.wipe σ own) own = L2.wipe σ own := by
  have key : ∀ (r : List Nat) (σ : L2.St) (j : Nat), (∀ i ∈ r, σ[i]? = some none ∨ σ[i]? = none) → L2.wipe σ r = σ := by
    intro r
    induction r with
    | nil => intro _ _ _; rfl
    | cons k r ih =>
      intro σ j h
      unfold L2.wipe
      rw [ih σ j (fun i hi => h i (List.mem_cons_of_mem _ hi))]
      rcases h k List.mem_cons_self with e | e
      · apply List.ext_getElem?
        intro z
        by_cases hz : k = z
        · subst hz
          rw [e, List.getElem?_set_self (List.getElem?_eq_some_iff.mp e).1]
        · rw [List.getElem?_set_ne hz]
      · exact List.set_eq_of_length_le (List.getElem?_eq_none_iff.mp e)
  intro own
  refine key own _ 0 ?_
  induction own with
  | nil => intro i hi; cases hi
  | cons k r ih =>
    intro i hi
    unfold L2.wipe
    by_cases hk : k = i
    · subst hk
      by_cases hl : k < (L2.wipe σ r).length
      · left; rw [List.getElem?_set_self hl]
      · right; exact List.getElem?_eq_none_iff.mpr (by simpa using hl)
    · rw [List.getElem?_set_ne hk]
      rcases List.mem_cons.mp hi with e | e
      · exact absurd e.symm hk
      · exact ih i e

theorem SatO.all {L : LC} {ι α β : Type} {Rel : Rl α β} {r : Rs α} {T : ι → Tr β} (h : ∀ i, SatO L φ H Rel r (T i)) : SatO L φ H Rel r (fun Q => ∀ i, T i Q) := by
  cases r with
  | ok a m => exact h
  | exc x m => trivial
  | bad => trivial
theorem Mo.all {ι β : Type} {T : ι → Tr β} (h : ∀ i, Mo (T i)) : Mo (fun Q => ∀ i, T i Q) := fun Q Q' k z i => h i Q Q' k (z i)
abbrev BI := Shared × Hp × Addr × List (Str × Addr) × List Addr
abbrev XB (X : Cx) (scope : Scope) (i : BI) : Cx := X.blk i.1 i.2.1 scope (compEnvC scope i.2.2.2.1 i.2.2.1 X.env) i.2.2.2.2
theorem good_blk (g : Good S Γ X) {scope : Scope} (hk : scope.kind = .function) (i : BI) : Good S (blkTC Γ scope) (XB X scope i) where
  prog := g.prog
  w := g.w
  K := g.K
  mg := g.mg
  base := g.base
  N := g.N
  nd := g.nd
  clean := g.clean
  names := by
    show (relS scope X.env.scope).names = _
    unfold relS blkTC
    dsimp only
    rw [g.kind, g.names]
    congr 1
    funext ⟨n, k⟩
    cases k == NameKind.free <;> rfl
  kind := hk
  fn := fun x q => q
  calm := g.calm
  un := g.un
  po := fun _ => PassesOwn.never
  top := fun z => by cases z
theorem blk_ok (g : Good S Γ X) {scope : Scope} {own : List Nat} (q : blkQ Γ scope own = true) : scope.kind = .function ∧ ∃ own' : List (Str × Nat), own'.map (·.2) = own ∧ BlkOk X.N X.env.scope scope own' := by
  unfold blkQ at q
  rw [Bool.and_eq_true, Bool.and_eq_true, Bool.and_eq_true] at q
  obtain ⟨⟨⟨q1, q2⟩, q3⟩, q4⟩ := q
  have hk : scope.kind = .function := by
    split at q1
    · assumption
    · cases q1
  rw [List.all_eq_true] at q2 q3 q4
  refine ⟨hk, own.map (fun p => ((Γ.N[p]?).getD Str.empty, p)), by rw [List.map_map]; exact List.map_id _, hk, fun y hy => of_decide_eq_true (q2 y hy), fun p hp => ?_, fun y hy e => ?_, fun y hy e => ?_⟩
  · obtain ⟨i, hi, rfl⟩ := List.mem_map.mp hp
    have := q3 i hi
    rw [g.N]
    dsimp only
    cases e : Γ.N[i]? with
    | none => rw [e] at this; cases this
    | some x => rfl
  · have := q4 y hy
    rw [e] at this
    rw [g.names]
    dsimp only at this
    split at this
    · left; assumption
    · right; assumption
    · cases this
  · have h := q4 y hy
    have h : ((own.any fun p => decide (Γ.N[p]? = some y.1)) || decide (y.1 ∉ Γ.N)) = true := by
      rcases e with e | e <;> (rw [e] at h; exact h)
    rw [Bool.or_eq_true] at h
    rcases h with h | h
    · left
      obtain ⟨p, hp, e2⟩ := List.any_eq_true.mp h
      have e2 := of_decide_eq_true e2
      refine List.mem_map.mpr ⟨((Γ.N[p]?).getD Str.empty, p), List.mem_map.mpr ⟨p, hp, rfl⟩, ?_⟩
      rw [e2]; rfl
    · right; rw [g.N]; exact of_decide_eq_true h
theorem set_ok {e : Expr} (q : notSet e = true) (env : PySem.Env) : ∀ x, foldedSetIterable e env x = pure x := by cases e <;> first | (intro _; rfl) | cases q
theorem ckI_set {n : Nat} {T : GT} {tg e : Expr} {m : MI} (q : ckI n T Γ tg e m = true) : notSet e = true := by
  cases n with
  | zero => cases q
  | succ n =>
    unfold ckI at q
    split at q
    · exact (Bool.and_eq_true_iff.mp q).1
    all_goals first
      | (split at q
         · rfl
         · cases q)
      | cases q
/-- the tests of a clause -/
def tts (X : Cx) : List Expr → TT
  | [] => tYes
  | [c] => twT X c
  | _ => fun _ _ _ => False
theorem tts.mo {ifs : List Expr} : Mo (tts X ifs σ H) := by
  unfold tts
  split
  · exact fun Q Q' k z => k _ _ z
  · exact twT.mo
  · exact fun Q Q' k z => z
theorem pts_tts {ifs : List Expr} (hl : ifs.length ≤ 1) : PTs X ifs (tts X ifs) := by
  match ifs, hl with
  | [], _ => exact pts_nil
  | [c], _ => exact pts_one pt_tw
  | _ :: _ :: _, h => simp at h
theorem tts_ok (hT : ∀ j, j ≤ n → HypT S j) (g : Good S Γ X) : ∀ {k : Nat} {ifs : List Expr} {ms : List ME}, ckEs k S.T Γ ifs ms = true → k ≤ n + 1 → ifs.length ≤ 1 → ∀ {ρ : Env} {σ φ H h}, RQ S Γ X xo φ H ρ σ → RH S.L φ H h → 
    SatO S.L φ H (fun (b : Bool) c _ _ => c = b) (evalTs S.G xo ms ρ h) (tts X ifs σ H) := by
  intro k ifs ms q hk hl ρ σ φ H h re hm
  cases k with
  | zero => cases q
  | succ k =>
    unfold ckEs at q
    split at q
    · simp only [evalTs]
      exact ⟨φ, rfl, hm, .refl⟩
    · rename_i e es m ms
      match es, hl with
      | [], _ =>
        rw [Bool.and_eq_true, Bool.and_eq_true] at q
        obtain ⟨⟨q1, q2⟩, q3⟩ := q
        cases ms with
        | cons _ _ => cases k <;> (unfold ckEs at q3; cases q3)
        | nil =>
          have := (hT k (by omega) Γ X e m g q2 xo ρ σ φ H h re hm).o
          have e2 : evalTs S.G xo [m] ρ h = evalT S.G xo m ρ h := by
            simp only [evalTs, evalT]
            congr 1
            funext u h1
            cases tstB h1 u with
            | bad => rfl
            | exc x m => rfl
            | ok b h2 => cases b <;> rfl
          rw [e2]
          exact this
      | _ :: _, h => simp at h
    · cases q

abbrev RelO (L : LC) : Rl (Option D) (Option V) := fun o ov φ H => match o, ov with
  | some d, some v => RV L φ H d v
  | none, none => True
  | _, _ => False
/-- one turn's transformer -/
def twB (X : Cx) (scope : Scope) (tg : Expr) (ifs : List Expr) (el : Expr) (vs : List Nat) (σ : L2.St) (x : V) (H : Hp) : Tr (Option V) := fun Qo => ∀ i : BI, twG (XB X scope i) tg x (L2.wipe σ vs) H fun σ2 H2 => L2.wipe σ2 vs = L2.wipe σ vs ∧
  ∀ j : BI, tts (XB X scope j) ifs σ2 H2 fun b H3 => if b = true then ∀ k : BI, twE (XB X scope k) el σ2 H3 fun y H4 => Qo (some y) H4 else Qo none H3
theorem noExc_ok {α : Type} {r : Rs α} {a : α} {h : MH} (e : noExc r = .ok a h) : r = .ok a h := by cases r <;> simp_all [noExc]
theorem turn_ok {n : Nat} (g : Good S Γ X) {scope : Scope} {tg el : Expr} {ifs : List Expr} {mt : MT} {mel : ME} {mifs : List ME} {own : List Nat} (hk : scope.kind = .function)
    (hG : HypG S n) (hT : ∀ j, j ≤ n → HypT S j) (hE : HypE S n) (q1 : ckG n S.T (blkTC Γ scope) tg mt = true) (q2 : ckEs n S.T (blkTC Γ scope) ifs mifs = true) (q3 : ifs.length ≤ 1) (q4 : ckE n S.T (blkTC Γ scope) el mel = true) (q5 : ownQ own mt = true)
    {d : D} {x : V} (re : RE S.L φ H ρ σ) (hm : RH S.L φ H h) (rv : RV S.L φ H d x) :
    SatO S.L φ H (RelO S.L) ((asgT S.G xo mt d (wipe ρ own) h).bind fun ρ1 h2 => (evalTs S.G xo mifs ρ1 h2).bind fun k h3 =>
      if k then (evalE S.G xo mel ρ1 h3).bind fun y h4 => .ok (some y) h4 else .ok none h3) (twB X scope tg ifs el own σ x H) := by
  unfold twB
  refine SatO.all fun i => ?_
  refine SatO.bind (T2 := fun σ2 H2 Qo => L2.wipe σ2 own = L2.wipe σ own ∧ ∀ j : BI, tts (XB X scope j) ifs σ2 H2 fun b H3 => if b = true then ∀ k : BI, twE (XB X scope k) el σ2 H3 fun y H4 => Qo (some y) H4 else Qo none H3) twG.mo (fun σ2 H2 Q Q' kk z => ⟨z.1, fun j => tts.mo _ _ (fun b H3 z => ?_) (z.2 j)⟩)
    (hG (blkTC Γ scope) (XB X scope i) tg mt (good_blk g hk i) q1 xo (wipe ρ own) (L2.wipe σ own) φ H h d x ⟨re.wipe own, trivial⟩ hm rv).o fun ρ1 h1 _ σ1 φ1 H1 re1 hm1 e1 => ?_
  · cases b with
    | true => rw [if_pos rfl] at z ⊢; exact fun k => twE.mo _ _ (fun y H4 z => kk _ _ z) (z k)
    | false => rw [if_neg Bool.false_ne_true] at z ⊢; exact kk _ _ z
  · have hw := re1.2 own q5
    rw [wipe_idem] at hw
    refine SatO.imp (T := fun Qo => ∀ j : BI, tts (XB X scope j) ifs σ1 H1 fun b H3 => if b = true then ∀ k : BI, twE (XB X scope k) el σ1 H3 fun y H4 => Qo (some y) H4 else Qo none H3) ?_ fun Q z => ⟨hw, z⟩
    refine SatO.all fun j => ?_
    refine SatO.bind (T2 := fun b H3 Qo => if b = true then ∀ k : BI, twE (XB X scope k) el σ1 H3 fun y H4 => Qo (some y) H4 else Qo none H3) tts.mo (fun b H3 Q Q' kk z => ?_) (tts_ok hT (good_blk g hk j) q2 (Nat.le_succ n) q3 (xo := xo) ⟨re1.1.re, trivial⟩ hm1) fun b h2 _ c φ2 H2 rc hm2 e2 => ?_
    · cases b with
      | true => rw [if_pos rfl] at z ⊢; exact fun k => twE.mo _ _ (fun y H4 z => kk _ _ z) (z k)
      | false => rw [if_neg Bool.false_ne_true] at z ⊢; exact kk _ _ z
    · subst rc
      cases c with
      | false =>
        exact ⟨φ2, trivial, hm2, .refl⟩
      | true =>
        refine SatO.all fun k => ?_
        refine SatO.bind (T2 := fun y H4 Qo => Qo (some y) H4) twE.mo (fun _ _ _ _ kk z => kk _ _ z) (hE (blkTC Γ scope) (XB X scope k) el mel (good_blk g hk k) q4 xo ρ1 σ1 φ2 H2 h2 ⟨re1.1.re.ext hm1 e2, trivial⟩ hm2).o fun y h4 _ v φ4 H4 rv hm4 e4 => ?_
        exact ⟨φ4, rv, hm4, .refl⟩
abbrev lcG (X : Cx) (scope : Scope) (tg : Expr) : TG := fun x σ' H Q => ∀ i : BI, twG (XB X scope i) tg x σ' H Q
abbrev lcT (X : Cx) (scope : Scope) (ifs : List Expr) : TT := fun σ' H Q => ∀ i : BI, tts (XB X scope i) ifs σ' H Q
abbrev lcE (X : Cx) (scope : Scope) (el : Expr) : TE := fun σ' H Q => ∀ i : BI, twE (XB X scope i) el σ' H Q
theorem lc_sat {n : Nat} (F : Facts S) (g : Good S Γ X) (hot : Γ.hot = false) {el tg it : Expr} {ifs : List Expr} {scope : Scope} {pos : Pos} {mel : ME} {mt : MT} {mi : MI} {mifs : List ME} {own : List Nat}
    (hG : HypG S n) (hT : ∀ j, j ≤ n → HypT S j) (hE : HypE S n) (hI : HypI S n) (q0 : blkQ Γ scope own = true) (qi : ckI n S.T Γ tg it mi = true) (q1 : ckG n S.T (blkTC Γ scope) tg mt = true) (q2 : ckEs n S.T (blkTC Γ scope) ifs mifs = true) (q3 : ifs.length ≤ 1) (q4 : ckE n S.T (blkTC Γ scope) el mel = true) (q5 : ownQ own mt = true)
    (re : RQ S Γ X xo φ H ρ σ) (hm : RH S.L φ H h) : Sat S.L X σ φ H (RVr S.L) (evalE S.G xo (.lc mel mt mi mifs own) ρ h) (tLc (twI X tg it) (lcG X scope tg) (lcT X scope ifs) (lcE X scope el) own σ H) := by
  obtain ⟨hk, own', ho, ok⟩ := blk_ok g q0
  have hN : X.N.Nodup := by rw [g.N]; exact g.nd
  simp only [evalE]
  unfold tLc
  generalize hf : (fun (d : D) (h : MH) => noExc ((asgT S.G xo mt d (wipe ρ own) h).bind fun ρ1 h2 => (evalTs S.G xo mifs ρ1 h2).bind fun k h3 =>
      if k then (evalE S.G xo mel ρ1 h3).bind fun y h4 => .ok (some y) h4 else .ok none h3)) = f
  let T2 : It → Hp → Tr V := fun J H1 Q => ∀ D, H1 D = none → ∃ W : Nat → Nat → Hp → Prop, (∃ m, W 0 m (upd H1 D (.lst []))) ∧ ∀ i m H, W i m H →
    (J.stop i H ∧ Q (.ref D) H) ∨ (J.go i H ∧ ∃ Nx : Hp → Prop, (∀ H', Nx H' → ∃ m', m' < m ∧ W (i + 1) m' H') ∧ ∀ x H', J.yld i H x H' → lcG X scope tg x (L2.wipe σ own) H' fun σ2 H2 => L2.wipe σ2 own = L2.wipe σ own ∧ lcT X scope ifs σ2 H2 fun b H3 =>
      if b = true then lcE X scope el σ2 H3 fun y H4 => ∃ acc, H4 D = some (.lst acc) ∧ acc.length < sizeLine ∧ Nx (upd H4 D (.lst (acc ++ [y]))) else Nx H3)
  refine Sat.bind (T2 := T2) twI.mo (fun J H1 Q Q' kk z D hD => ?_) (hI Γ X tg it mi g qi xo ρ σ φ H h re hm) fun s h1 _ J φ1 H1 rs hm1 e1 => ?_
  · obtain ⟨W, w0, w⟩ := z D hD
    exact ⟨W, w0, fun i m H hw => (w i m H hw).imp (fun z => ⟨z.1, kk _ _ z.2⟩) id⟩
  rw [compS_N]
  cases e : compN f s (s.len h1 + 1) 0 h1 with
  | bad => trivial
  | exc x m' =>
    exfalso
    have : ∀ (k i : Nat) (h : MH), compN f s k i h ≠ .exc x m' := by
      intro k
      induction k with
      | zero => intro i h e; cases e
      | succ k ih =>
        intro i h e
        rw [compN] at e
        split at e
        · cases e
        · cases e
        · rename_i d _
          have hne : ∀ h2 x2, f d h ≠ .exc x2 h2 := by
            rw [← hf]
            intro h2 x2 e
            dsimp only at e
            unfold noExc at e
            split at e
            · cases e
            · rename_i hh
              exact hh _ _ e
          cases ef : f d h with
          | bad => rw [ef] at e; cases e
          | exc x2 h2 => exact hne _ _ ef
          | ok o h2 =>
            rw [ef] at e
            simp only [Rs.bind] at e
            cases er : compN f s k (i + 1) h2 with
            | bad => rw [er] at e; cases e
            | ok ys h3 => rw [er] at e; cases e
            | exc x3 h3 => rw [er] at e; simp only [Rs.bind] at e; cases e; exact ih _ _ er
    exact this _ _ _ e
  | ok all h2 =>
    dsimp only [Rs.bind]
    split
    · rename_i hlen
      refine Sat.ok fun D hD => ?_
      refine ⟨fun i m H' => ∃ φ' h' ys vs zs, H' D = some (.lst vs) ∧ RVs S.L φ' H' ys vs ∧ RH S.L φ' H' h' ∧ D ∉ φ' ∧ Ext φ1 H1 φ' H' ∧ compN f s m i h' = .ok zs h2 ∧ ys ++ zs = all,
        ⟨s.len h1 + 1, φ1, h1, [], [], all, upd_same, .nil, hm1.side hD, hm1.notNone hD, .side hD, e, rfl⟩, fun i m H' hw => ?_⟩
      obtain ⟨φ', h', ys, vs, zs, hH, rys, hm', hDn, ex, ec, ea⟩ := hw
      have rs' := rs φ' H' h' (ex.kept hm1) hm' i
      cases m with
      | zero => cases ec
      | succ m =>
        rw [compN] at ec
        split at ec
        · cases ec
        · rename_i en
          cases ec
          rw [List.append_nil] at ea
          subst ea
          left
          obtain ⟨a1, a2⟩ := hm'.adopt hDn hH rys
          refine ⟨rs'.1 en, φ' ++ [D], a1, a2, ?_⟩
          obtain ⟨ψ, hψ, hp⟩ := ex.pre
          refine ⟨⟨ψ ++ [D], by rw [hψ, List.append_assoc], fun a ha => ?_⟩, ex.frame, ex.there⟩
          rcases List.mem_append.mp ha with z | z
          · exact hp a z
          · rw [List.mem_singleton.mp z]; exact hD
        · rename_i d en
          right
          obtain ⟨go, yl⟩ := rs'.2 d en
          cases ef : f d h' with
          | bad => rw [ef] at ec; cases ec
          | exc x2 h2 => rw [ef] at ec; cases ec
          | ok o h3 =>
            rw [ef] at ec
            simp only [Rs.bind] at ec
            cases er : compN f s m (i + 1) h3 with
            | bad => rw [er] at ec; cases ec
            | exc x2 h2 => rw [er] at ec; cases ec
            | ok zs' h4 =>
              rw [er] at ec
              simp only [Rs.bind] at ec
              injection ec with ec1 ec2
              subst ec2
              refine ⟨go, fun H'' => ∃ φ' h' ys vs zs, H'' D = some (.lst vs) ∧ RVs S.L φ' H'' ys vs ∧ RH S.L φ' H'' h' ∧ D ∉ φ' ∧ Ext φ1 H1 φ' H'' ∧ compN f s m (i + 1) h' = .ok zs h4 ∧ ys ++ zs = all,
                fun H'' z => ⟨m, Nat.lt_succ_self m, z⟩, fun x H'' hy => ?_⟩
              obtain ⟨φ2, rx, hm2, e2⟩ := yl x H'' hy
              have re2 : RE S.L φ2 H'' ρ σ := (re.re.ext hm (e1.trans (ex.trans e2)))
              have tb := turn_ok (xo := xo) g hk hG hT hE q1 q2 q3 q4 q5 re2 hm2 rx
              have ef' := ef
              rw [← hf] at ef'
              rw [noExc_ok ef'] at tb
              have dn : ∀ {φa Ha}, Ext φ' H' φa Ha → Ha D = some (.lst vs) ∧ D ∉ φa := fun {φa Ha} ee => by
                refine ⟨ee.frame D _ hH hDn, ?_⟩
                obtain ⟨ψ, rfl, hp⟩ := ee.pre
                intro hin
                rcases List.mem_append.mp hin with z | z
                · exact hDn z
                · have := hp D z
                  rw [hH] at this; cases this
              have tb : twB X scope tg ifs el own σ x H'' (fun b H' => ∃ φ', RelO S.L o b φ' H' ∧ RH S.L φ' H' h3 ∧ Ext φ2 H'' φ' H') := tb
              unfold twB at tb
              refine fun i => twG.mo _ _ (fun σ2 H2 z => ⟨z.1, fun j => tts.mo _ _ (fun b H3 z => ?_) (z.2 j)⟩) (tb i)
              cases b with
              | false =>
                rw [if_neg Bool.false_ne_true] at z ⊢
                obtain ⟨φ3, r3, hm3, e3⟩ := z
                cases o with
                | some _ => cases r3
                | none =>
                  obtain ⟨d1, d2⟩ := dn (e2.trans e3)
                  refine ⟨φ3, h3, ys, vs, zs', d1, rys.kept ((e2.trans e3).kept hm'), hm3, d2, ex.trans (e2.trans e3), er, ?_⟩
                  rw [← ea, ← ec1]
              | true =>
                rw [if_pos rfl] at z ⊢
                refine fun k => twE.mo _ _ (fun y H4 z => ?_) (z k)
                obtain ⟨φ3, r3, hm3, e3⟩ := z
                cases o with
                | none => cases r3
                | some dy =>
                  obtain ⟨d1, d2⟩ := dn (e2.trans e3)
                  obtain ⟨p1, p2⟩ := poke hm3 d2 d1 (ys := vs ++ [y])
                  refine ⟨vs, d1, ?_, φ3, h3, ys ++ [dy], vs ++ [y], zs', upd_same, ?_, p1, d2, ?_, er, ?_⟩
                  · have := rys.length
                    have h5 : ys.length + (zs'.length + 1) = all.length := by rw [← ea, ← ec1]; simp
                    rw [← lineC_eq]
                    omega
                  · exact ((rys.kept ((e2.trans e3).kept hm')).append (.cons r3 .nil)).kept p2
                  · have ee := ex.trans (e2.trans e3)
                    refine ⟨ee.pre, fun a o q hn => ?_, fun a q => ?_⟩
                    · rw [upd_ne (ne_of_none q hD)]; exact ee.frame a o q hn
                    · by_cases ha : a = D
                      · rw [ha]; exact hD
                      · rw [upd_ne ha] at q; exact ee.there a q
                  · rw [← ea, ← ec1]; simp
    · trivial
theorem cE_lc {n : Nat} (F : Facts S) (g : Good S Γ X) (hot : Γ.hot = false) {el tg it : Expr} {ifs : List Expr} {scope : Scope} {pos : Pos} {mel : ME} {mt : MT} {mi : MI} {mifs : List ME} {own : List Nat}
    (hG : HypG S n) (hT : ∀ j, j ≤ n → HypT S j) (hE : HypE S n) (hI : HypI S n) (q0 : blkQ Γ scope own = true) (qi : ckI n S.T Γ tg it mi = true) (q1 : ckG n S.T (blkTC Γ scope) tg mt = true) (q2 : ckEs n S.T (blkTC Γ scope) ifs mifs = true) (q3 : ifs.length ≤ 1) (q4 : ckE n S.T (blkTC Γ scope) el mel = true) (q5 : ownQ own mt = true)
    (re : RQ S Γ X xo φ H ρ σ) (hm : RH S.L φ H h) : Sat S.L X σ φ H (RVr S.L) (evalE S.G xo (.lc mel mt mi mifs own) ρ h) (twE X (.ListComp el [⟨tg, it, ifs, 0⟩] scope pos) σ H) := by
  obtain ⟨hk, own', ho, ok⟩ := blk_ok g q0
  have hN : X.N.Nodup := by rw [g.N]; exact g.nd
  have pe : PE X (.ListComp el [⟨tg, it, ifs, 0⟩] scope pos) (tLc (twI X tg it) (lcG X scope tg) (lcT X scope ifs) (lcE X scope el) own) := by
    rw [← ho]
    exact pe_lc (g.calm hot).1 hN pi_tw ok (fun s H C cl fp => ⟨fun pins s' σ' H' v u Q I r h => (h (s, H, C, cl, fp)) pins s' u r I⟩)
      (fun s H C cl fp => ⟨fun pins s' σ' H' Q I h => (pts_tts q3).run pins s' σ' H' Q I (h (s, H, C, cl, fp))⟩) (fun s H C cl fp => ⟨fun pins s' σ' H' Q I h => (h (s, H, C, cl, fp)) pins s' I⟩) (set_ok (ckI_set qi) _)
  exact Sat.imp (lc_sat (pos := pos) F g hot hG hT hE hI q0 qi q1 q2 q3 q4 q5 re hm) fun Q z => tw_of pe z
end
end Mp
end
section
set_option Elab.async false
set_option linter.all false
set_option maxRecDepth 100000
set_option maxHeartbeats 4000000
/-! PySndD: every expression, every test. -/
namespace Mp
open PySem PySem.Spec PyProof.Rows L2

section
variable {S : SC} {Γ : TC} {X : Cx} {σ : L2.St} {φ : List Addr} {H : Hp} {h : MH} {ρ : Env} {n : Nat} {xo : Option Ex}

/-! ### the exception in hand -/
theorem cE_cis (F : Facts S) (g : Good S Γ X) {x y z : Str} {k : Nat} {p p2 p3 pos : Pos} (q1 : glQ Γ x = true) (hx : x = "isinstance") (q2 : cauQ Γ y = true) (q3 : glQ Γ z = true) (q4 : S.T.isas[k]? = some z) (re : RQ S Γ X xo φ H ρ σ) (hm : RH S.L φ H h) :
    Sat S.L X σ φ H (RVr S.L) (evalE S.G xo (.cis [k]) ρ h) (twE X (.Call (.Name x p) [.Name y p2, .Name z p3] [] pos) σ H) := by
  subst hx
  simp only [evalE]
  unfold cauQ at q2
  split at q2
  · rename_i i hc
    have hxo := re.xo
    unfold XO at hxo
    rw [hc] at hxo
    obtain ⟨x, a, d, oe, pn, X0, h1, h2, h3, h4, h5, h6⟩ := hxo
    subst h1
    obtain ⟨c, v⟩ := x
    cases v with
    | some v => trivial
    | none =>
      cases h6
      dsimp only
      cases e : S.G.isa c k with
      | none => trivial
      | some b =>
        obtain ⟨C, nd, cv, kit, hcv⟩ := F.xi c k b z e q4
        have bl : ∀ x ∈ bltNames, X.mg x = none := by rw [g.mg]; exact F.blt
        have bi := bl "isinstance" (by simp [bltNames])
        obtain ⟨a1, a2⟩ := visQ_ok g q2
        obtain ⟨c1, c2⟩ := clean_dbg g a1
        have G1 := glQ_ok g q1
        have G3 := glQ_ok g q3
        have gK := g.K
        have gmg := g.mg
        subst h3
        have C' : ExcC (X0.suite a ((a, oe) :: pn)).K (S.L.xA c) := by rw [gK]; exact C
        have kit' : PySem.W.kitOne (X0.suite a ((a, oe) :: pn)).K (.ref (S.L.xA c)) cv = some b := by rw [gK]; exact kit
        rcases hcv with ⟨C2, rfl, hmg⟩ | ⟨T, rfl, hmg, hb, hnn⟩
        · have pz : PE (X0.suite a ((a, oe) :: pn)) (.Name z p3) (tC (.ref C2)) := pe_glob G3 (by rw [gmg]; exact hmg) rfl (beq_eq_false_iff_ne.mpr nd)
          refine Sat.ok (tw_of (pe_callB (call_isE C' h4 h5) G1 bi (by decide +kernel) (pa_cons (pe_var a1 a2 c1 c2) (pa_cons pz pa_nil)) (by decide +kernel) (by decide +kernel)) ⟨_, h2, _, _, b, rfl, fun u r => r, kit', here hm (.bl _)⟩)
        · have pz : PE (X0.suite a ((a, oe) :: pn)) (.Name z p3) (tC (.ty T)) := pe_bltn G3 (by rw [gmg]; exact hmg) hb rfl hnn (beq_eq_false_iff_ne.mpr nd)
          refine Sat.ok (tw_of (pe_callB (call_isE C' h4 h5) G1 bi (by decide +kernel) (pa_cons (pe_var a1 a2 c1 c2) (pa_cons pz pa_nil)) (by decide +kernel) (by decide +kernel)) ⟨_, h2, _, _, b, rfl, fun u r => r, kit', here hm (.bl _)⟩)
  · cases q2
theorem cE_dct0 {pos : Pos} (hm : RH S.L φ H h) : Sat S.L X σ φ H (RVr S.L) (evalE S.G xo (.dct []) ρ h) (twE X (.Dict [] [] pos) σ H) := by
  simp only [evalE, evalEs]
  refine Sat.ok (tw_of pe_dnewK fun p hp => ⟨φ ++ [p], .new hm, hm.new hp (.inl ⟨[], upd_same, .nil⟩), .new hp⟩)

/-! ### all of them -/
structure Hyps (S : SC) (n : Nat) : Prop where
  E : HypE S n
  T : HypT S n
  Es : HypEs S n
  O : HypO S n
  G : HypG S n
  Gs : HypGs S n
  I : HypI S n
theorem and3 {a b c : Bool} (q : (a && b && c) = true) : a = true ∧ b = true ∧ c = true := by
  rw [Bool.and_eq_true, Bool.and_eq_true] at q
  exact ⟨q.1.1, q.1.2, q.2⟩
theorem notT {b : Bool} (q : (!b) = true) : b = false := by simpa using q
theorem stepE (F : Facts S) (hn : n ≤ 1000000) (ih : ∀ j, j ≤ n → Hyps S j) : HypE S (n + 1) := by
  have hE := (ih n (Nat.le_refl n)).E
  have hT := (ih n (Nat.le_refl n)).T
  have hEs := (ih n (Nat.le_refl n)).Es
  have hO := (ih n (Nat.le_refl n)).O
  have hG := (ih n (Nat.le_refl n)).G
  have hI := (ih n (Nat.le_refl n)).I
  intro Γ X e m g q xo ρ σ φ H h re hm
  have subE : ∀ {e m}, ckE n S.T Γ e m = true → ∀ φ1 H1 h1, RH S.L φ1 H1 h1 → Ext φ H φ1 H1 → Sat S.L X σ φ1 H1 (RVr S.L) (evalE S.G xo m ρ h1) (twE X e σ H1) := fun q φ1 H1 h1 hm1 e1 => hE Γ X _ _ g q xo ρ σ φ1 H1 h1 (re.ext hm e1) hm1
  have hereE : ∀ {e m}, ckE n S.T Γ e m = true → Sat S.L X σ φ H (RVr S.L) (evalE S.G xo m ρ h) (twE X e σ H) := fun q => hE Γ X _ _ g q xo ρ σ φ H h re hm
  unfold ckE at q
  split at q
  · exact cE_lit q hm
  · split at q
    · exact cE_var g q hm re.re
    · cases q
  · split at q
    · rw [Bool.and_eq_true] at q
      exact cE_glob F g q.1 (of_decide_eq_true q.2) hm
    · cases q
  · split at q
    · obtain ⟨a, b, c⟩ := ckEs_star q
      exact cE_tup (by omega) c hm (hEs Γ X _ _ g q xo ρ σ φ H h re hm)
    · cases q
  · split at q
    · obtain ⟨a, b, c⟩ := ckEs_star q
      exact cE_lst (by omega) c hm (hEs Γ X _ _ g q xo ρ σ φ H h re hm)
    · cases q
  · rename_i es
    split at q
    · cases es with
      | nil => exact cE_dct0 hm
      | cons _ _ => cases q
    · cases q
  · split at q
    · obtain ⟨a, b, c⟩ := and3 q
      exact cE_bin g a hm re.re (hereE b) (subE c)
    · cases q
  · split at q
    · exact cE_neg (hereE q)
    · cases q
  · split at q
    · rw [Bool.and_eq_true] at q
      obtain ⟨q, q4⟩ := q
      obtain ⟨a, b, c⟩ := and3 q
      exact cE_cmp F g a (notT b) hm (hereE c) (subE q4)
    · cases q
  · split at q
    · exact cE_isN (hereE q)
    · cases q
  · split at q
    · exact cE_notN (hereE q)
    · cases q
  · split at q
    · rw [Bool.and_eq_true, Bool.and_eq_true, Bool.and_eq_true] at q
      obtain ⟨⟨⟨q, q4⟩, q5⟩, q6⟩ := q
      obtain ⟨a, b, c⟩ := and3 q
      exact cE_chain F g a b (notT c) hm (hereE q4) (subE q5) (subE q6)
    · cases q
  · split at q
    · rename_i a' b' r pos
      rw [Bool.and_eq_true] at q
      refine cE_and g hm (hereE q.1) fun φ1 H1 h1 hm1 e1 => ?_
      have q2 := q.2
      cases r with
      | nil => exact subE q2 φ1 H1 h1 hm1 e1
      | cons c r => exact subE q2 φ1 H1 h1 hm1 e1
    · cases q
  · split at q
    · rename_i a' b' r pos
      rw [Bool.and_eq_true] at q
      refine cE_or g hm (hereE q.1) fun φ1 H1 h1 hm1 e1 => ?_
      have q2 := q.2
      cases r with
      | nil => exact subE q2 φ1 H1 h1 hm1 e1
      | cons c r => exact subE q2 φ1 H1 h1 hm1 e1
    · cases q
  · split at q
    · exact cE_not g (hereE q)
    · cases q
  · split at q
    · obtain ⟨a, b, c⟩ := and3 q
      exact cE_ite hm (hT Γ X _ _ g a xo ρ σ φ H h re hm) (subE b) (subE c)
    · cases q
  · split at q
    · obtain ⟨a, b, c⟩ := and3 q
      exact cE_ix F g a hm (hereE b) (subE c)
    · cases q
  · split at q
    · obtain ⟨a, b, c⟩ := and3 q
      exact cE_sl g hm (hereE a) (fun φ1 H1 h1 hm1 e1 => hO Γ X _ _ g b xo ρ σ φ1 H1 h1 (re.ext hm e1) hm1) (fun φ1 H1 h1 hm1 e1 => hO Γ X _ _ g c xo ρ σ φ1 H1 h1 (re.ext hm e1) hm1)
    · cases q
  · split at q
    · obtain ⟨a, b, c⟩ := and3 q
      exact cE_fld F g (of_decide_eq_true a) b (hereE c)
    · cases q
  · split at q
    · obtain ⟨a, b, c⟩ := and3 q
      split at c
      · rename_i y ps hf
        obtain ⟨c1, c2, c3⟩ := and3 c
        have hy := of_decide_eq_true c1
        subst hy
        split at c3
        · rw [Bool.and_eq_true] at c3
          have hp := of_decide_eq_true c3.1
          subst hp
          obtain ⟨s1, s2, s3⟩ := ckEs_star c3.2
          exact cE_call F g (notT a) b hf (of_decide_eq_false (notT c2)) s1 s3 hm (hEs Γ X _ _ g c3.2 xo ρ σ φ H h re hm)
        · rw [Bool.and_eq_true, Bool.and_eq_true, Bool.and_eq_true, Bool.and_eq_true] at c3
          obtain ⟨⟨⟨⟨p1, p2⟩, p3⟩, p4⟩, p5⟩ := c3
          exact cE_callK F g (notT a) b hf (of_decide_eq_false (notT c2)) (fun z => by rw [z] at p1; cases p1) (by simpa using p2) p3 hEs (fun j hj => (ih j hj).E) p4 p5 re hm
      · cases c
    · cases q
  · split at q
    · rw [Bool.and_eq_true, Bool.and_eq_true] at q
      obtain ⟨⟨q, q4⟩, q5⟩ := q
      obtain ⟨a, b, c⟩ := and3 q
      have hp := of_decide_eq_true q4
      subst hp
      obtain ⟨s1, s2, s3⟩ := ckEs_star q5
      exact cE_new F g (notT a) b (of_decide_eq_true c) s1 s3 hm (hEs Γ X _ _ g q5 xo ρ σ φ H h re hm)
    · cases q
  · split at q
    · rw [Bool.and_eq_true, Bool.and_eq_true, Bool.and_eq_true] at q
      obtain ⟨⟨⟨q, q4⟩, q5⟩, q6⟩ := q
      obtain ⟨a, b, c⟩ := and3 q
      have hp := of_decide_eq_true q4
      subst hp
      obtain ⟨s1, s2, s3⟩ := ckEs_star q6
      exact cE_mth F g (notT a) (of_decide_eq_true b) c s1 s3 hm (hereE q5) fun φ1 H1 h1 hm1 e1 => hEs Γ X _ _ g q6 xo ρ σ φ1 H1 h1 (re.ext hm e1) hm1
    · cases q
  · split at q
    · rw [Bool.and_eq_true, Bool.and_eq_true, Bool.and_eq_true] at q
      obtain ⟨⟨⟨q1, q2⟩, q3⟩, q4⟩ := q
      obtain ⟨s1, s2, s3⟩ := ckEs_star q4
      exact cE_bm F g (of_decide_eq_true q1) q2 s1 s3 hm (hereE q3) (fun φ1 H1 h1 hm1 e1 => hEs Γ X _ _ g q4 xo ρ σ φ1 H1 h1 (re.ext hm e1) hm1)
    · cases q
  · split at q
    · rw [Bool.and_eq_true, Bool.and_eq_true, Bool.and_eq_true, Bool.and_eq_true] at q
      obtain ⟨⟨⟨⟨q1, q2⟩, q3⟩, q4⟩, q5⟩ := q
      obtain ⟨s1, s2, s3⟩ := ckEs_star q5
      exact cE_bf F g (notT q1) q2 (of_decide_eq_true q3) q4 s1 (hEs Γ X _ _ g q5 xo ρ σ φ H h re hm)
    · cases q
  · rename_i a ts
    split at q
    · rename_i x p a' t pos
      rw [Bool.and_eq_true, Bool.and_eq_true, Bool.and_eq_true, Bool.and_eq_true, Bool.and_eq_true] at q
      obtain ⟨⟨⟨⟨⟨q1, q2⟩, q3⟩, q4⟩, q5⟩, q6⟩ := q
      exact cE_isi F g q1 (of_decide_eq_true q2) q3 q6 (of_decide_eq_true q4) (hereE q5)
    · cases q
  · split at q
    · rw [Bool.and_eq_true, Bool.and_eq_true, Bool.and_eq_true, Bool.and_eq_true, Bool.and_eq_true, Bool.and_eq_true, Bool.and_eq_true] at q
      obtain ⟨⟨⟨⟨⟨⟨⟨q1, q2⟩, q3⟩, q4⟩, q5⟩, q6⟩, q7⟩, q8⟩ := q
      exact cE_lc F g (notT q1) hG (fun j hj => (ih j hj).T) hE hI q2 q3 q4 q5 (of_decide_eq_true q6) q7 q8 re hm
    · cases q
  · cases q
  · split at q
    · rw [Bool.and_eq_true, Bool.and_eq_true, Bool.and_eq_true, Bool.and_eq_true] at q
      obtain ⟨⟨⟨⟨q1, q2⟩, q3⟩, q4⟩, q5⟩ := q
      split at q5
      · exact cE_cis F g q1 (of_decide_eq_true q2) q3 q4 (of_decide_eq_true q5) re hm
      · cases q5
    · cases q
  · cases q

/-! ### tests -/
theorem cmp_bl {G : GC} {o : COp} {a b : ME} {d : D} {h' : MH} (e : evalE G xo (.cmp o a b) ρ h = .ok d h') : ∃ k, d = .bl k := by
  simp only [evalE] at e
  cases e1 : evalE G xo a ρ h with
  | bad => rw [e1] at e; cases e
  | exc x m => rw [e1] at e; cases e
  | ok u h1 =>
    rw [e1] at e
    simp only [Rs.bind] at e
    cases e2 : evalE G xo b ρ h1 with
    | bad => rw [e2] at e; cases e
    | exc x m => rw [e2] at e; cases e
    | ok v h2 =>
      rw [e2] at e
      simp only [Rs.bind] at e
      cases e3 : cmpD G.kts h2 o u v with
      | none => rw [e3] at e; cases e
      | some k => rw [e3] at e; cases e; exact ⟨k, rfl⟩
theorem isN_bl {G : GC} {a : ME} {d : D} {h' : MH} (e : evalE G xo (.isN a) ρ h = .ok d h' ∨ evalE G xo (.notN a) ρ h = .ok d h') : ∃ k, d = .bl k := by
  simp only [evalE] at e
  cases e1 : evalE G xo a ρ h with
  | bad => rw [e1] at e; rcases e with e | e <;> cases e
  | exc x m => rw [e1] at e; rcases e with e | e <;> cases e
  | ok u h1 =>
    rw [e1] at e
    simp only [Rs.bind] at e
    rcases e with e | e <;> cases e <;> exact ⟨_, rfl⟩
theorem chain_bl {G : GC} {o p : COp} {a b c : ME} {d : D} {h' : MH} (e : evalE G xo (.chain o p a b c) ρ h = .ok d h') : ∃ k, d = .bl k := by
  simp only [evalE] at e
  cases e1 : evalE G xo a ρ h with
  | bad => rw [e1] at e; cases e
  | exc x m => rw [e1] at e; cases e
  | ok u h1 =>
    rw [e1] at e
    simp only [Rs.bind] at e
    cases e2 : evalE G xo b ρ h1 with
    | bad => rw [e2] at e; cases e
    | exc x m => rw [e2] at e; cases e
    | ok v h2 =>
      rw [e2] at e
      simp only [Rs.bind] at e
      cases e3 : cmpD G.kts h2 o u v with
      | none => rw [e3] at e; cases e
      | some k =>
        rw [e3] at e
        simp only [Rs.opt, Rs.bind] at e
        cases k with
        | false => cases e; exact ⟨_, rfl⟩
        | true =>
          rw [if_pos rfl] at e
          cases e4 : evalE G xo c ρ h2 with
          | bad => rw [e4] at e; cases e
          | exc x m => rw [e4] at e; cases e
          | ok w h4 =>
            rw [e4] at e
            simp only [Rs.bind] at e
            cases e5 : cmpD G.kts h4 p v w with
            | none => rw [e5] at e; cases e
            | some k => rw [e5] at e; cases e; exact ⟨k, rfl⟩
def pwT (X : Cx) (e : Expr) : TT := fun σ H Q => ∀ whole pins s, Inv X pins σ H s → wpAny (model X.prog X.w) X.A (isTrue e X.env whole) (TP X pins σ Q) X.xe s
theorem pwT.mo {e : Expr} : Mo (pwT X e σ H) := fun Q Q' k h wh pins s I => thn (h wh pins s I) fun u s' ⟨H', I', q⟩ => ⟨H', I', k _ _ q⟩
theorem pw_pwT {e : Expr} : PW X e (pwT X e) := ⟨fun wh pins s σ H Q I h => h wh pins s I⟩
/-- the rest of a chain of tests -/
theorem pw_rest {op : BoolOp} {b : Expr} {r : List Expr} {pos : Pos} : PW X (.BoolOp op (b :: r) pos) (match r with | [] => twT X b | _ => pwT X (.BoolOp op (b :: r) pos)) := by
  cases r with
  | nil => cases op with
    | And => exact pw_and1 pt_tw
    | Or => exact pw_or1 pt_tw
  | cons c r => exact pw_pwT
abbrev HypW (S : SC) (n : Nat) : Prop := ∀ Γ X op es pos m, Good S Γ X → ckE n S.T Γ (.BoolOp op es pos) m = true → ∀ xo ρ σ φ H h, RQ S Γ X xo φ H ρ σ → RH S.L φ H h → Sat S.L X σ φ H (fun (b : Bool) c _ _ => c = b) (evalT S.G xo m ρ h) (pwT X (.BoolOp op es pos) σ H)
theorem evalT_and {G : GC} {a b : ME} : evalT G xo (.and a b) ρ h = (evalT G xo a ρ h).bind fun k h2 => if k then evalT G xo b ρ h2 else .ok false h2 := by
  unfold evalT
  simp only [evalE]
  cases evalE G xo a ρ h with
  | bad => rfl
  | exc x m => rfl
  | ok u h1 =>
    simp only [Rs.bind]
    unfold tstB
    cases e : Mp.truthy h1 u with
    | none => rfl
    | some k =>
      cases k with
      | true => rfl
      | false => simp [Rs.opt, Rs.bind, e]
theorem evalT_or {G : GC} {a b : ME} : evalT G xo (.or a b) ρ h = (evalT G xo a ρ h).bind fun k h2 => if k then .ok true h2 else evalT G xo b ρ h2 := by
  unfold evalT
  simp only [evalE]
  cases evalE G xo a ρ h with
  | bad => rfl
  | exc x m => rfl
  | ok u h1 =>
    simp only [Rs.bind]
    unfold tstB
    cases e : Mp.truthy h1 u with
    | none => rfl
    | some k =>
      cases k with
      | false => rfl
      | true => simp [Rs.opt, Rs.bind, e]
theorem evalT_not {G : GC} {a : ME} : evalT G xo (.not a) ρ h = (evalT G xo a ρ h).bind fun k h2 => .ok (!k) h2 := by
  unfold evalT
  simp only [evalE]
  cases evalE G xo a ρ h with
  | bad => rfl
  | exc x m => rfl
  | ok u h1 =>
    simp only [Rs.bind]
    unfold tstB
    cases e : Mp.truthy h1 u with
    | none => rfl
    | some k => rfl
theorem evalT_ite {G : GC} {a b c : ME} : evalT G xo (.ite c a b) ρ h = (evalT G xo c ρ h).bind fun k h2 => if k then evalT G xo a ρ h2 else evalT G xo b ρ h2 := by
  unfold evalT
  simp only [evalE]
  cases evalE G xo c ρ h with
  | bad => rfl
  | exc x m => rfl
  | ok u h1 =>
    simp only [Rs.bind]
    unfold tstB
    cases e : Mp.truthy h1 u with
    | none => rfl
    | some k => cases k <;> rfl
theorem stepW (hT : HypT S n) (hW : HypW S n) : HypW S (n + 1) := by
  intro Γ X op es pos m g q xo ρ σ φ H h re hm
  unfold ckE at q
  have rest : ∀ {op : BoolOp} {b' : Expr} {r : List Expr} {b : ME}, (match r with | [] => ckE n S.T Γ b' b | _ => ckE n S.T Γ (.BoolOp op (b' :: r) pos) b) = true →
      ∃ tb : TT, PW X (.BoolOp op (b' :: r) pos) tb ∧ (∀ H1, Mo (tb σ H1)) ∧ ∀ φ1 H1 h1, RH S.L φ1 H1 h1 → Ext φ H φ1 H1 → Sat S.L X σ φ1 H1 (fun (b : Bool) c _ _ => c = b) (evalT S.G xo b ρ h1) (tb σ H1) := by
    intro op b' r b q2
    cases r with
    | nil =>
      refine ⟨twT X b', ?_, fun H1 => twT.mo, fun φ1 H1 h1 hm1 e1 => hT Γ X b' b g q2 xo ρ σ φ1 H1 h1 (re.ext hm e1) hm1⟩
      cases op with
      | And => exact pw_and1 pt_tw
      | Or => exact pw_or1 pt_tw
    | cons c r => exact ⟨pwT X _, pw_pwT, fun H1 => pwT.mo, fun φ1 H1 h1 hm1 e1 => hW Γ X _ _ pos b g q2 xo ρ σ φ1 H1 h1 (re.ext hm e1) hm1⟩
  cases m with
  | lit d => cases d <;> cases q
  | and a b =>
    dsimp only at q
    split at q
    · rename_i a' b' r pos' heq
      cases heq
      rw [Bool.and_eq_true] at q
      rw [evalT_and]
      obtain ⟨tb, pb, mob, sb⟩ := rest q.2
      refine Sat.imp (Sat.bind (T2 := fun (k : Bool) (H1 : Hp) (Q : Bool → Hp → Prop) => if k = true then tb σ H1 Q else Q false H1) twT.mo (fun k H1 Q Q' kk z => ?_) (hT Γ X a' a g q.1 xo ρ σ φ H h re hm) fun k h1 _ c φ1 H1 rc hm1 e1 => ?_) fun Q z => fun whole pins s I => (pw_and (pt_tw (e := a')) pb).run whole pins s σ H Q I z
      · cases k with
        | true => first | (rw [if_pos rfl] at z ⊢; exact mob _ _ _ kk z) | (rw [if_neg Bool.false_ne_true] at z ⊢; exact mob _ _ _ kk z)
        | false => first | (rw [if_neg Bool.false_ne_true] at z ⊢; exact kk _ _ z) | (rw [if_pos rfl] at z ⊢; exact kk _ _ z)
      · subst rc
        cases c with
        | true => exact sb φ1 H1 h1 hm1 e1
        | false => exact ⟨φ1, rfl, hm1, .refl⟩
    · cases q
  | or a b =>
    dsimp only at q
    split at q
    · rename_i a' b' r pos' heq
      cases heq
      rw [Bool.and_eq_true] at q
      rw [evalT_or]
      obtain ⟨tb, pb, mob, sb⟩ := rest q.2
      refine Sat.imp (Sat.bind (T2 := fun (k : Bool) (H1 : Hp) (Q : Bool → Hp → Prop) => if k = true then Q true H1 else tb σ H1 Q) twT.mo (fun k H1 Q Q' kk z => ?_) (hT Γ X a' a g q.1 xo ρ σ φ H h re hm) fun k h1 _ c φ1 H1 rc hm1 e1 => ?_) fun Q z => fun whole pins s I => (pw_or (pt_tw (e := a')) pb).run whole pins s σ H Q I z
      · cases k with
        | false => first | (rw [if_pos rfl] at z ⊢; exact mob _ _ _ kk z) | (rw [if_neg Bool.false_ne_true] at z ⊢; exact mob _ _ _ kk z)
        | true => first | (rw [if_neg Bool.false_ne_true] at z ⊢; exact kk _ _ z) | (rw [if_pos rfl] at z ⊢; exact kk _ _ z)
      · subst rc
        cases c with
        | false => exact sb φ1 H1 h1 hm1 e1
        | true => exact ⟨φ1, rfl, hm1, .refl⟩
    · cases q
  | _ => cases q
/-- a test by cases -/
theorem pt_ite {c a b : Expr} {pos : Pos} {tc ta tb : TT} (hc : PT X c tc) (ha : PT X a ta) (hb : PT X b tb) : PT X (.IfExp c a b pos) (fun σ H Q => tc σ H fun k H1 => if k = true then ta σ H1 Q else tb σ H1 Q) := by
  refine ⟨fun pins s σ H Q I h => ?_⟩
  show wpAny _ _ (do if ← isTrue c X.env (eval c X.env) then isTrue a X.env (eval a X.env) else isTrue b X.env (eval b X.env)) _ _ _
  refine wpAny_bind (thn (hc.run pins s σ H _ I h) fun k s1 ⟨H1, I1, q1⟩ => ?_)
  cases k with
  | true => exact ha.run pins s1 σ H1 Q I1 q1
  | false => exact hb.run pins s1 σ H1 Q I1 q1
theorem stepT (F : Facts S) (hn : n ≤ 1000000) (ih : ∀ j, j ≤ n → Hyps S j) (hW : HypW S (n + 1)) : HypT S (n + 1) := by
  have hE := (ih n (Nat.le_refl n)).E
  have hT := (ih n (Nat.le_refl n)).T
  intro Γ X e m g q xo ρ σ φ H h re hm
  have subE : ∀ {e m}, ckE n S.T Γ e m = true → ∀ φ1 H1 h1, RH S.L φ1 H1 h1 → Ext φ H φ1 H1 → Sat S.L X σ φ1 H1 (RVr S.L) (evalE S.G xo m ρ h1) (twE X e σ H1) := fun q φ1 H1 h1 hm1 e1 => hE Γ X _ _ g q xo ρ σ φ1 H1 h1 (re.ext hm e1) hm1
  have hereE : ∀ {e m}, ckE n S.T Γ e m = true → Sat S.L X σ φ H (RVr S.L) (evalE S.G xo m ρ h) (twE X e σ H) := fun q => hE Γ X _ _ g q xo ρ σ φ H h re hm
  have plain : plainT e = true → Sat S.L X σ φ H (fun (b : Bool) c _ _ => c = b) (evalT S.G xo m ρ h) (twT X e σ H) := fun p => tst_of p g.K (stepE F hn ih Γ X e m g q xo ρ σ φ H h re hm)
  cases e with
  | UnaryOp o a' pos =>
    cases o with
    | Not =>
      unfold ckE at q
      cases m with
      | lit d => cases d <;> cases q
      | not a =>
        rw [evalT_not]
        refine Sat.imp (Sat.bind (T2 := fun (k : Bool) (H1 : Hp) (Q : Bool → Hp → Prop) => Q (!k) H1) twT.mo (fun k H1 Q Q' kk z => kk _ _ z) (hT Γ X a' a g q xo ρ σ φ H h re hm) fun k h1 _ c φ1 H1 rc hm1 e1 => ?_) fun Q z => twT_of (pt_not (pt_tw (e := a'))) z
        subst rc
        exact Sat.ok ⟨φ1, rfl, hm1, .refl⟩
      | _ => cases q
    | _ => exact plain rfl
  | BoolOp op es pos => exact Sat.imp (hW Γ X op es pos m g q xo ρ σ φ H h re hm) fun Q z => fun pins s I => z _ pins s I
  | IfExp c' a' b' pos =>
    unfold ckE at q
    cases m with
    | lit d => cases d <;> cases q
    | ite c a b =>
      obtain ⟨q1, q2, q3⟩ := and3 q
      rw [evalT_ite]
      refine Sat.imp (Sat.bind (T2 := fun (k : Bool) (H1 : Hp) (Q : Bool → Hp → Prop) => if k = true then twT X a' σ H1 Q else twT X b' σ H1 Q) twT.mo (fun k H1 Q Q' kk z => ?_) (hT Γ X c' c g q1 xo ρ σ φ H h re hm) fun k h1 _ c φ1 H1 rc hm1 e1 => ?_) fun Q z => twT_of (pt_ite (pt_tw (e := c')) (pt_tw (e := a')) (pt_tw (e := b'))) z
      · cases k with
        | true => rw [if_pos rfl] at z ⊢; exact twT.mo _ _ kk z
        | false => rw [if_neg Bool.false_ne_true] at z ⊢; exact twT.mo _ _ kk z
      · subst rc
        cases c with
        | true => exact hT Γ X a' a g q2 xo ρ σ φ1 H1 h1 (re.ext hm e1) hm1
        | false => exact hT Γ X b' b g q3 xo ρ σ φ1 H1 h1 (re.ext hm e1) hm1
    | _ => cases q
  | Compare a' ops cs pos =>
    unfold ckE at q
    cases m with
    | lit d => cases d <;> cases q
    | cmp o a b =>
      dsimp only at q
      split at q
      · rename_i heq
        cases heq
        rw [Bool.and_eq_true] at q
        obtain ⟨q, q4⟩ := q
        obtain ⟨q1, q2, q3⟩ := and3 q
        have := copQ_ok q1
        subst this
        refine tst_bool ?_ (co_cmp F g hm (hereE q3) (subE q4)) (fun d h' e => cmp_bl e) fun Q z => twT_of (pt_cmpR (opR_op σ _) pe_tw pe_tw (notT q2)) z
        exact fun Q Q' k z => twE.mo _ _ (fun x H1 z => twE.mo _ _ (fun y H2 z => opT.mo _ _ k z) z) z
      · cases q
    | isN a =>
      dsimp only at q
      split at q
      · rename_i heq
        cases heq
        refine tst_bool ?_ (co_isN (hereE q)) (fun d h' e => isN_bl (.inl e)) fun Q z => twT_of (pt_cmp (pc_isN pe_tw) (by rfl)) z
        exact fun Q Q' k z => twE.mo _ _ (fun x H1 z => k _ _ z) z
      · cases q
    | notN a =>
      dsimp only at q
      split at q
      · rename_i heq
        cases heq
        refine tst_bool ?_ (co_notN (hereE q)) (fun d h' e => isN_bl (.inr e)) fun Q z => twT_of (pt_cmp (pc_notN pe_tw) (by rfl)) z
        exact fun Q Q' k z => twE.mo _ _ (fun x H1 z => k _ _ z) z
      · cases q
    | chain o p a b c =>
      dsimp only at q
      split at q
      · rename_i heq
        cases heq
        rw [Bool.and_eq_true, Bool.and_eq_true, Bool.and_eq_true] at q
        obtain ⟨⟨⟨q, q4⟩, q5⟩, q6⟩ := q
        obtain ⟨q1, q2, q3⟩ := and3 q
        have := copQ_ok q1
        subst this
        have := copQ_ok q2
        subst this
        refine tst_bool ?_ (co_chain F g hm (hereE q4) (subE q5) (subE q6)) (fun d h' e => chain_bl e) fun Q z => twT_of (pt_chain (opR_op σ _) (opR_op σ _) pe_tw pe_tw pe_tw (notT q3)) z
        intro Q Q' k z
        refine twE.mo _ _ (fun x H1 z => twE.mo _ _ (fun y H2 z => opT.mo _ _ (fun w H3 ⟨b, e, z⟩ => ⟨b, e, ?_⟩) z) z) z
        cases b with
        | true => rw [if_pos rfl] at z ⊢; exact twE.mo _ _ (fun w' H4 z => opT.mo _ _ k z) z
        | false => rw [if_neg Bool.false_ne_true] at z ⊢; exact k _ _ z
      · cases q
    | _ => cases q
  | _ => exact plain rfl
theorem hyps_all (F : Facts S) : ∀ n, n ≤ 1000000 → Hyps S n ∧ HypW S n := by
  intro n
  induction n using Nat.strongRecOn with
  | _ n ih =>
    intro hn
    cases n with
    | zero =>
      refine ⟨⟨?_, ?_, ?_, ?_, ?_, ?_, ?_⟩, ?_⟩
      · intro Γ X e m g q; cases q
      · intro Γ X e m g q; cases q
      · intro Γ X e m g q; cases q
      · intro Γ X e m g q; cases q
      · intro Γ X e m g q; cases q
      · intro Γ X e m g q; cases q
      · intro Γ X tg e m g q; cases q
      · intro Γ X op es pos m g q; cases q
    | succ n =>
      have ih' : ∀ j, j ≤ n → Hyps S j := fun j hj => (ih j (by omega) (by omega)).1
      have hW := (ih n (by omega) (by omega)).2
      have h0 := ih' n (Nat.le_refl n)
      have W1 := stepW h0.T hW
      exact ⟨⟨stepE F (by omega) ih', stepT F (by omega) ih' W1, stepEs h0.E h0.Es, stepO h0.E, stepG F h0.E h0.Gs, stepGs h0.G h0.Gs, stepI F h0.E⟩, W1⟩
end
end Mp
end
section
set_option Elab.async false
set_option linter.all false
set_option maxRecDepth 100000
set_option maxHeartbeats 4000000
/-! PySndE: statements. -/
namespace Mp
open PySem PySem.Spec PyProof.Rows L2

/-- what must hold behind an outcome -/
def EndP (S : SC) (Γ : TC) (X : Cx) (xo : Option Ex) (φ : List Addr) (H : Hp) (r : Ro) (D : Ends) : Prop := match r with
  | none => True
  | some (.nx ρ, m) => ∀ σ' φ' H', RQ S Γ X xo φ' H' ρ σ' → RH S.L φ' H' m → Ext φ H φ' H' → D.nx σ' H'
  | some (.rt d, m) => ∀ v φ' H', RV S.L φ' H' d v → RH S.L φ' H' m → Ext φ H φ' H' → D.rt v H'
  | some (.bk ρ, m) => ∀ σ' φ' H', RQ S Γ X xo φ' H' ρ σ' → RH S.L φ' H' m → Ext φ H φ' H' → D.bk σ' H'
  | some (.ct ρ, m) => ∀ σ' φ' H', RQ S Γ X xo φ' H' ρ σ' → RH S.L φ' H' m → Ext φ H φ' H' → D.ct σ' H'
  | some (.xc x ρ, m) => ∃ W : WX, Takes X W ∧ ∀ cls d σ' φ' H', RX S.L φ' H' x cls d → RE S.L φ' H' ρ σ' → RH S.L φ' H' m → Ext φ H φ' H' → W cls d σ' H'
def SatS (S : SC) (Γ : TC) (X : Cx) (xo : Option Ex) (φ : List Addr) (H : Hp) (r : Ro) (T : Ends → Prop) : Prop := r ≠ none → ∀ D, EndP S Γ X xo φ H r D → T D

section
variable {S : SC} {Γ : TC} {X : Cx} {σ : L2.St} {φ φ1 : List Addr} {H H1 : Hp} {h : MH} {ρ : Env} {n : Nat} {xo : Option Ex} {r : Ro} {D : Ends}

theorem EndP.ext (p : EndP S Γ X xo φ H r D) (e : Ext φ H φ1 H1) : EndP S Γ X xo φ1 H1 r D := by
  unfold EndP at p ⊢
  split
  · trivial
  · exact fun σ' φ' H' a b c => p σ' φ' H' a b (e.trans c)
  · exact fun σ' φ' H' a b c => p σ' φ' H' a b (e.trans c)
  · exact fun σ' φ' H' a b c => p σ' φ' H' a b (e.trans c)
  · exact fun σ' φ' H' a b c => p σ' φ' H' a b (e.trans c)
  · obtain ⟨W, tk, w⟩ := p
    exact ⟨W, tk, fun cls d σ' φ' H' a b c f => w cls d σ' φ' H' a b c (e.trans f)⟩
theorem SatS.imp {T T' : Ends → Prop} (s : SatS S Γ X xo φ H r T) (k : ∀ D, T D → T' D) : SatS S Γ X xo φ H r T' := fun hr D p => k D (s hr D p)

/-- from an expression to a statement -/
theorem sOf_ok {α β : Type} {Rel : Rl α β} {q : Rs α} {f : α → MH → Ro} {T0 : Tr β} {T2 : β → Hp → Ends → Prop} (mo : Mo T0) (hm : RH S.L φ H h) (re : RE S.L φ H ρ σ) (hq : Sat S.L X σ φ H Rel q T0)
    (k : ∀ a m, q = .ok a m → ∀ b φ1 H1, Rel a b φ1 H1 → RH S.L φ1 H1 m → Ext φ H φ1 H1 → SatS S Γ X xo φ1 H1 (f a m) (T2 b H1)) :
    SatS S Γ X xo φ H (sOf ρ q f) (fun D => T0 fun b H1 => T2 b H1 D) := by
  cases q with
  | bad => exact fun hr => absurd rfl hr
  | exc x m =>
    intro _ D p
    obtain ⟨W, tk, w⟩ := p
    exact mo _ _ (fun _ _ z => z.elim) (hq W tk fun cls d φ' H' a b c => w cls d σ φ' H' a (re.ext hm c) b c)
  | ok a m =>
    intro hr D p
    have p : EndP S Γ X xo φ H (f a m) D := p
    have hr : f a m ≠ none := hr
    exact mo _ _ (fun b H1 ⟨φ1, r1, hm1, e1⟩ => k a m rfl b φ1 H1 r1 hm1 e1 hr D (p.ext e1)) hq

/-- one behind the other -/
theorem sThen_ok {k : Env → MH → Ro} {T1 : Ends → Prop} {T2 : L2.St → Hp → Ends → Prop} (h1 : SatS S Γ X xo φ H r T1)
    (h2 : ∀ ρ m, r = some (.nx ρ, m) → ∀ σ' φ' H', RQ S Γ X xo φ' H' ρ σ' → RH S.L φ' H' m → Ext φ H φ' H' → SatS S Γ X xo φ' H' (k ρ m) (T2 σ' H')) :
    SatS S Γ X xo φ H (sThen r k) (fun D => T1 { D with nx := fun σ' H' => T2 σ' H' D }) := by
  intro hr D p
  cases r with
  | none => exact absurd rfl hr
  | some u =>
    obtain ⟨so, m⟩ := u
    refine h1 (fun z => by cases z) _ ?_
    cases so with
    | nx ρ => exact fun σ' φ' H' a b c => h2 ρ m rfl σ' φ' H' a b c hr D (EndP.ext p c)
    | rt d => exact p
    | bk ρ => exact p
    | ct ρ => exact p
    | xc x ρ => exact p

/-! ### the readings -/
def twS (X : Cx) (b : List Stmt) : TS := fun D σ H => ∀ pins s, Inv X pins σ H s → wpAny (model X.prog X.w) X.A (execs b X.env) (SP X pins D) X.xe s
theorem pss_tw {b : List Stmt} : PSs X b (twS X b) := ⟨fun pins s σ H D I h => h pins s I⟩
theorem twS_of {b : List Stmt} {t : TS} (p : PSs X b t) (h : t D σ H) : twS X b D σ H := fun pins s I => p.run pins s σ H D I h
def twS1 (X : Cx) (b : Stmt) : TS := fun D σ H => ∀ pins s, Inv X pins σ H s → wpAny (model X.prog X.w) X.A (exec b X.env) (SP X pins D) X.xe s
theorem ps_tw {b : Stmt} : PS X b (twS1 X b) := ⟨fun pins s σ H D I h => h pins s I⟩
theorem twS1_of {b : Stmt} {t : TS} (p : PS X b t) (h : t D σ H) : twS1 X b D σ H := fun pins s I => p.run pins s σ H D I h
abbrev HypS (S : SC) (n : Nat) : Prop := ∀ Γ X st m, Good S Γ X → ckS n S.T Γ st m = true → ∀ xo ρ σ φ H h, RQ S Γ X xo φ H ρ σ → RH S.L φ H h → SatS S Γ X xo φ H (evalS S.G xo m ρ h) (fun D => twS1 X st D σ H)
abbrev HypSs (S : SC) (n : Nat) : Prop := ∀ Γ X ss ms, Good S Γ X → ckSs n S.T Γ ss ms = true → ∀ xo ρ σ φ H h, RQ S Γ X xo φ H ρ σ → RH S.L φ H h → SatS S Γ X xo φ H (evalSs S.G xo ms ρ h) (fun D => twS X ss D σ H)

theorem stepSs (hS : HypS S n) (hSs : HypSs S n) : HypSs S (n + 1) := by
  intro Γ X ss ms g q xo ρ σ φ H h re hm
  unfold ckSs at q
  split at q
  · simp only [evalSs]
    exact fun _ D p => twS_of pss_nil (p σ φ H re hm .refl)
  · rename_i s ss m ms
    rw [Bool.and_eq_true] at q
    simp only [evalSs]
    refine SatS.imp (sThen_ok (T2 := fun σ' H' D => twS X ss D σ' H') (hS Γ X s m g q.1 xo ρ σ φ H h re hm) fun ρ1 m1 _ σ' φ' H' a b c => hSs Γ X ss ms g q.2 xo ρ1 σ' φ' H' m1 a b) fun D z => twS_of (pss_cons ps_tw pss_tw) z
  · cases q

/-! ### assignments -/
theorem sw_comp {v : Expr} (q : notComp v = true) (t : Option Expr) (line : Nat) (env : PySem.Env) : swapsWith v t line env = pure false := by
  cases v <;> first | rfl | cases q
theorem sw_name {v tg : Expr} (q : (notComp v || !isNameE tg) = true) (line : Nat) (env : PySem.Env) : swapsWithSole [tg] v line env = pure false := by
  show swapsWith v (some tg) line env = pure false
  rw [Bool.or_eq_true] at q
  rcases q with q | q
  · exact sw_comp q _ _ _
  · cases v <;> first | rfl | (cases tg <;> first | rfl | cases q)
theorem fm_eq {α β : Type} {f k : α → Option β} {l : List α} (h : ∀ e, f e = k e) : List.filterMap f l = List.filterMap k l := by
  rw [show f = k from funext h]
theorem any_eq' {α : Type} {f k : α → Bool} {l : List α} (h : ∀ e, f e = k e) : l.any f = l.any k := by
  rw [show f = k from funext h]
theorem swQ_ok (g : Good S Γ X) {ts vs : List Expr} {k k2 : Nat} {p p2 : Pos} {o : Option (List Str)} (q : swQ Γ ts vs = some o) : swappedStores [.Tuple ts k p] (.Tuple vs k2 p2) X.env = pure o := by
  have hbk : X.env.blockKind = .function := by unfold PySem.Env.blockKind; rw [g.kind]; rfl
  unfold swQ at q
  unfold swappedStores
  dsimp only
  rw [hbk]
  rw [fm_eq (k := nameOn Γ ((ts.head?.map (·.pos.line)).getD 0)) (h := ?h1), any_eq' (k := starred) (h := ?h2)]
  case h1 =>
    intro e
    cases e with
    | Name id pos =>
      unfold nameOn PySem.Env.kindOf
      rw [g.names]
    | _ => rfl
  case h2 => intro e; cases e <;> rfl
  split at q
  · rename_i c
    cases q
    rw [if_pos]
    · rw [Bool.or_eq_true]; left; exact c
  · rename_i c
    rw [if_neg (by
      rw [Bool.or_eq_true]
      intro z
      rcases z with z | z
      · exact c z
      · cases z)]
    split at q
    · rename_i c2
      cases q
      rw [if_pos c2]
    · rename_i c2
      rw [if_neg c2]
      split at q
      · rename_i c3
        cases q
        rw [if_pos c3]
      · rename_i c3
        rw [if_neg c3]
        split at q
        · rename_i c4
          cases q
          rw [if_pos c4]
        · rename_i c4
          rw [if_neg c4]
          split at q
          · cases q
          · rename_i c5
            cases q
            rw [if_neg c5]
theorem plain_ok (g : Good S Γ X) {tg v : Expr} (q : plainSt Γ tg v = true) : swappedStores [tg] v X.env = pure none := by
  cases tg with
  | Tuple ts k p => cases v with
    | Tuple vs k2 p2 => exact swQ_ok g (of_decide_eq_true q)
    | _ => rfl
  | List ts p => cases v with
    | Tuple vs k2 p2 => cases q
    | _ => rfl
  | _ => rfl

theorem xo_at {i : Nat} {v : Option V} (hi : ∀ j, Γ.cau = some j → i ≠ j) (r : XO S Γ X xo σ φ H) : XO S Γ X xo (σ.set i v) φ H := by
  unfold XO at r ⊢
  split
  · trivial
  · rename_i j hc
    rw [hc] at r
    obtain ⟨x, a, d, oe, pn, X0, h1, h2, h3, h4, h5, h6⟩ := r
    exact ⟨x, a, d, oe, pn, X0, h1, by rw [List.getElem?_set_ne (hi j hc)]; exact h2, h3, h4, h5, h6⟩
theorem RQ.set (r : RQ S Γ X xo φ H ρ σ) {i : Nat} {d : Mp.D} {v : V} (rv : RV S.L φ H d v) (hi : ∀ j, Γ.cau = some j → i ≠ j) : RQ S Γ X xo φ H (ρ.set i (some d)) (σ.set i (some v)) := ⟨r.re.set rv, xo_at hi r.xo⟩
theorem lclQ_ok (g : Good S Γ X) {i : Nat} {x : Str} (q : lclQ Γ i x = true) : X.N[i]? = some x ∧ X.env.scope.names.lookup x = some .local ∧ ∀ j, Γ.cau = some j → i ≠ j := by
  unfold lclQ at q
  obtain ⟨a, b, c⟩ := and3 q
  refine ⟨by rw [g.N]; exact of_decide_eq_true a, by rw [g.names]; exact of_decide_eq_true b, fun j hj => ?_⟩
  rw [hj] at c
  simpa using c
theorem tupS_eq {G : GC} {ts : MT} {ms : List ME} : evalS G xo (.asg ts (.tup ms)) ρ h = sOf ρ (evalEs G xo ms ρ h) fun xs h1 => sOf ρ (asgT G xo ts (.tup xs) ρ h1) fun ρ1 h2 => some (.nx ρ1, h2) := by
  simp only [evalS, evalE]
  cases evalEs G xo ms ρ h <;> rfl
theorem s_asg (g : Good S Γ X) (hh : Hyps S n) {tg v : Expr} {t : MT} {e : ME} {pos : Pos} (q1 : notStar tg = true) (q2 : plainSt Γ tg v = true) (q3 : (notComp v || !isNameE tg) = true) (q4 : ckE n S.T Γ v e = true) (q5 : ckG n S.T Γ tg t = true)
    (re : RQ S Γ X xo φ H ρ σ) (hm : RH S.L φ H h) : SatS S Γ X xo φ H (evalS S.G xo (.asg t e) ρ h) (fun D => twS1 X (.Assign [tg] v pos) D σ H) := by
  simp only [evalS]
  refine SatS.imp (sOf_ok (T2 := fun x H1 D => twG X tg x σ H1 D.nx) twE.mo hm re.re (hh.E Γ X v e g q4 xo ρ σ φ H h re hm) fun d h1 _ x φ1 H1 rx hm1 e1 => ?_) fun D z => twS1_of (ps_asg pe_tw pg_tw (sw_name q3 _ _) (plain_ok g q2) (by rw [asg_star q1]; rfl)) z
  refine sOf_ok (T2 := fun σ2 H2 D => D.nx σ2 H2) twG.mo hm1 (re.ext hm e1).re (hh.G Γ X tg t g q5 xo ρ σ φ1 H1 h1 d x (re.ext hm e1) hm1 rx) fun ρ1 h2 _ σ2 φ2 H2 re2 hm2 e2 => ?_
  exact fun _ D p => p σ2 φ2 H2 re2.1 hm2 .refl
theorem s_par2 (g : Good S Γ X) (hh : Hyps S n) (hot : Γ.hot = false) {i j : Nat} {x y : Str} {a b : Expr} {ma mb : ME} {px py pt pt2 pos : Pos} {k k2 : Nat} (hi : lclQ Γ i x = true) (hj : lclQ Γ j y = true) (hij : i ≠ j)
    (sw : swQ Γ [.Name x px, .Name y py] [a, b] = some (some [x, y])) (q : ckEs n S.T Γ [a, b] [ma, mb] = true) (re : RQ S Γ X xo φ H ρ σ) (hm : RH S.L φ H h) :
    SatS S Γ X xo φ H (evalS S.G xo (.asg (.tup [.nm i, .nm j]) (.tup [ma, mb])) ρ h) (fun D => twS1 X (.Assign [.Tuple [.Name x px, .Name y py] k pt] (.Tuple [a, b] k2 pt2) pos) D σ H) := by
  obtain ⟨i1, i2, i3⟩ := lclQ_ok g hi
  obtain ⟨j1, j2, j3⟩ := lclQ_ok g hj
  rw [tupS_eq]
  refine SatS.imp (sOf_ok (T2 := fun (vs : List V) H1 D => ∃ v w, vs = [v, w] ∧ D.nx ((σ.set i (some v)).set j (some w)) H1) twA.mo hm re.re (hh.Es Γ X _ _ g q xo ρ σ φ H h re hm) fun xs h1 e vs φ1 H1 rv hm1 e1 => ?_) fun D z => twS1_of (ps_par (g.calm hot).1 (by rw [g.N]; exact g.nd) i1 j1 hij i2 j2 pa_tw (swQ_ok g sw)) z
  have hl := evalEs_len e
  intro hr D p
  match xs, hl, rv with
  | [d1, d2], _, .cons r1 (.cons r2 .nil) =>
    refine ⟨_, _, rfl, ?_⟩
    simp only [asgT, unp, itemsOf, asgTs, noExc, List.length_cons, List.length_nil, if_true] at hr p
    by_cases c1 : i < ρ.length
    · rw [if_pos c1] at hr p
      simp only [Rs.bind, List.length_set] at hr p
      by_cases c2 : j < ρ.length
      · rw [if_pos c2] at hr p
        exact p _ φ1 H1 (((re.ext hm e1).set r1 i3).set r2 j3) hm1 .refl
      · rw [if_neg c2] at hr; exact absurd rfl hr
    · rw [if_neg c1] at hr; exact absurd rfl hr
theorem s_par3 (g : Good S Γ X) (hh : Hyps S n) (hot : Γ.hot = false) {i j l : Nat} {x y z : Str} {a b c : Expr} {ma mb mc : ME} {px py pz pt pt2 pos : Pos} {k k2 : Nat} (hi : lclQ Γ i x = true) (hj : lclQ Γ j y = true) (hk : lclQ Γ l z = true) (hij : i ≠ j) (hil : i ≠ l) (hjl : j ≠ l)
    (sw : swQ Γ [.Name x px, .Name y py, .Name z pz] [a, b, c] = some (some [x, y, z])) (q : ckEs n S.T Γ [a, b, c] [ma, mb, mc] = true) (re : RQ S Γ X xo φ H ρ σ) (hm : RH S.L φ H h) :
    SatS S Γ X xo φ H (evalS S.G xo (.asg (.tup [.nm i, .nm j, .nm l]) (.tup [ma, mb, mc])) ρ h) (fun D => twS1 X (.Assign [.Tuple [.Name x px, .Name y py, .Name z pz] k pt] (.Tuple [a, b, c] k2 pt2) pos) D σ H) := by
  obtain ⟨i1, i2, i3⟩ := lclQ_ok g hi
  obtain ⟨j1, j2, j3⟩ := lclQ_ok g hj
  obtain ⟨k1, k2', k3⟩ := lclQ_ok g hk
  rw [tupS_eq]
  refine SatS.imp (sOf_ok (T2 := fun (vs : List V) H1 D => ∃ u v w, vs = [u, v, w] ∧ D.nx (((σ.set i (some u)).set j (some v)).set l (some w)) H1) twA.mo hm re.re (hh.Es Γ X _ _ g q xo ρ σ φ H h re hm) fun xs h1 e vs φ1 H1 rv hm1 e1 => ?_) fun D z => twS1_of (ps_par3 (g.calm hot).1 (by rw [g.N]; exact g.nd) i1 j1 k1 hij hil hjl i2 j2 k2' pa_tw (swQ_ok g sw)) z
  have hl := evalEs_len e
  intro hr D p
  match xs, hl, rv with
  | [d1, d2, d3], _, .cons r1 (.cons r2 (.cons r3 .nil)) =>
    refine ⟨_, _, _, rfl, ?_⟩
    simp only [asgT, unp, itemsOf, asgTs, noExc, List.length_cons, List.length_nil, if_true] at hr p
    by_cases c1 : i < ρ.length
    · rw [if_pos c1] at hr p
      simp only [Rs.bind, List.length_set] at hr p
      by_cases c2 : j < ρ.length
      · rw [if_pos c2] at hr p
        simp only [Rs.bind, List.length_set] at hr p
        by_cases c3 : l < ρ.length
        · rw [if_pos c3] at hr p
          exact p _ φ1 H1 ((((re.ext hm e1).set r1 i3).set r2 j3).set r3 k3) hm1 .refl
        · rw [if_neg c3] at hr; exact absurd rfl hr
      · rw [if_neg c2] at hr; exact absurd rfl hr
    · rw [if_neg c1] at hr; exact absurd rfl hr
end
end Mp
end
section
set_option Elab.async false
set_option linter.all false
set_option maxRecDepth 100000
set_option maxHeartbeats 4000000
/-! PySndF: loops, raise, try; every statement. -/
namespace Mp
open PySem PySem.Spec PyProof.Rows L2

section
variable {S : SC} {Γ : TC} {X : Cx} {σ : L2.St} {φ φ1 : List Addr} {H H1 : Hp} {h : MH} {ρ : Env} {n : Nat} {xo : Option Ex}

theorem RQ.refl_ext (re : RQ S Γ X xo φ H ρ σ) : RQ S Γ X xo φ H ρ σ := re
theorem s_setLc (F : Facts S) (g : Good S Γ X) (hot : Γ.hot = false) {m : Nat} (hE : HypE S m) (hT : ∀ j, j ≤ m → HypT S j) (hG : HypG S m) (hI : HypI S m) {i : Nat} {x : Str} {v : Expr} {e : ME} {px pos : Pos} (hi : lclQ Γ i x = true) (q : setLcQ Γ x px v = true) (qe : ckE (m + 1) S.T Γ v e = true)
    (re : RQ S Γ X xo φ H ρ σ) (hm : RH S.L φ H h) : SatS S Γ X xo φ H (evalS S.G xo (.asg (.nm i) e) ρ h) (fun D => twS1 X (.Assign [.Name x px] v pos) D σ H) := by
  obtain ⟨i1, i2, i3⟩ := lclQ_ok g hi
  unfold setLcQ at q
  split at q
  · rename_i el gens scope p2
    rw [Bool.and_eq_true] at q
    have hsw : swapsWith (.ListComp el gens scope p2) (some (.Name x px)) pos.line X.env = pure true := by
      have hbk : X.env.blockKind = .function := by unfold PySem.Env.blockKind; rw [g.kind]; rfl
      unfold swapsWith
      dsimp only
      rw [hbk]
      have hk : X.env.kindOf x = some .local := i2
      rw [hk]
      have : (px.line == (Expr.ListComp el gens scope p2).pos.line) = true := q.1
      rw [this]
      have q2 := q.2
      simp only [beq_self_eq_true, Bool.true_and]
      simp only [Bool.not_eq_true'] at q2
      first
        | (rw [q2]; rfl)
        | (simp only [q2]; rfl)
    unfold ckE at qe
    cases e with
    | lit d => cases d <;> cases qe
    | lc mel mt mi mifs own =>
      dsimp only at qe
      split at qe
      · rename_i el' tg' it' ifs' scope' p3 heq
        cases heq
        rw [Bool.and_eq_true, Bool.and_eq_true, Bool.and_eq_true, Bool.and_eq_true, Bool.and_eq_true, Bool.and_eq_true, Bool.and_eq_true] at qe
        obtain ⟨⟨⟨⟨⟨⟨⟨q1, q2⟩, q3⟩, q4⟩, q5⟩, q6⟩, q7⟩, q8⟩ := qe
        obtain ⟨hk, own', ho, ok⟩ := blk_ok g q2
        have hN : X.N.Nodup := by rw [g.N]; exact g.nd
        have ps : PS X (.Assign [.Name x px] (.ListComp el [⟨tg', it', ifs', 0⟩] scope p2) pos) (tAsg (tLc (twI X tg' it') (lcG X scope tg') (lcT X scope ifs') (lcE X scope el) own) (gName i)) := by
          rw [← ho]
          exact ps_setLc (g.calm hot).1 hN i1 i2 hsw pi_tw ok (fun s H C cl fp => ⟨fun pins s' σ' H' v u Q I r h => (h (s, H, C, cl, fp)) pins s' u r I⟩)
            (fun s H C cl fp => ⟨fun pins s' σ' H' Q I h => (pts_tts (of_decide_eq_true q6)).run pins s' σ' H' Q I (h (s, H, C, cl, fp))⟩) (fun s H C cl fp => ⟨fun pins s' σ' H' Q I h => (h (s, H, C, cl, fp)) pins s' I⟩) (set_ok (ckI_set q3) _)
        simp only [evalS]
        refine SatS.imp (sOf_ok (T2 := fun x H1 D => gName i x σ H1 D.nx) (T0 := tLc (twI X tg' it') (lcG X scope tg') (lcT X scope ifs') (lcE X scope el) own σ H) ?_ hm re.re (lc_sat (pos := p2) F g hot hG hT hE hI q2 q3 q4 q5 (of_decide_eq_true q6) q7 q8 re hm) fun d h1 _ y φ1 H1 rx hm1 e1 => ?_) fun D z => twS1_of ps z
        · intro Q Q' kk z
          unfold tLc at z ⊢
          refine twI.mo _ _ (fun J H1 z D hD => ?_) z
          obtain ⟨W, w0, w⟩ := z D hD
          exact ⟨W, w0, fun i m H hw => (w i m H hw).imp (fun z => ⟨z.1, kk _ _ z.2⟩) id⟩
        · intro hr D p
          simp only [asgT] at hr p
          by_cases c1 : i < ρ.length
          · rw [if_pos c1] at hr p
            exact p _ φ1 H1 ((re.ext hm e1).set rx i3) hm1 .refl
          · rw [if_neg c1] at hr; exact absurd rfl hr
      · cases qe
    | _ => cases qe
  · cases q

/-! ### loops -/
theorem turn_none {k : Env → MH → Ro} : turn k none = none := rfl
theorem s_for (F : Facts S) (g : Good S Γ X) (hh : Hyps S n) (hS : HypSs S n) (hot : Γ.hot = false) {tg it : Expr} {b : List Stmt} {t : MT} {i : MI} {ms : List MS} {pos : Pos} (q1 : ckI n S.T Γ tg it i = true) (q2 : ckG n S.T Γ tg t = true) (q3 : ckSs n S.T Γ b ms = true)
    (re : RQ S Γ X xo φ H ρ σ) (hm : RH S.L φ H h) : SatS S Γ X xo φ H (evalS S.G xo (.forr t i ms) ρ h) (fun D => twS1 X (.For tg it b [] pos) D σ H) := by
  simp only [evalS]
  refine SatS.imp (sOf_ok (T0 := twI X tg it σ H) (T2 := fun J H1 D => ∃ W : Nat → Nat → L2.St → Hp → Prop, (∃ m, W 0 m σ H1) ∧ ∀ i m σ H, W i m σ H →
      (J.stop i H ∧ D.nx σ H) ∨ (J.go i H ∧ ∃ N : L2.St → Hp → Prop, (∀ σ' H', N σ' H' → ∃ m', m' < m ∧ W (i + 1) m' σ' H') ∧ ∀ x H', J.yld i H x H' → twG X tg x σ H' fun σ2 H2 => twS X b { D with nx := N, ct := N, bk := D.nx } σ2 H2)) twI.mo hm re.re (hh.I Γ X tg it i g q1 xo ρ σ φ H h re hm) fun s h1 _ J φ1 H1 rs hm1 e1 => ?_) fun D z => twS1_of (ps_for (g.po hot) (g.calm hot).1 pi_tw pg_tw pss_tw (set_ok (ckI_set q1) _)) z
  rw [forS_N]
  generalize hf : (fun (d : D) (ρ : Env) (h : MH) => sOf ρ (asgT S.G xo t d ρ h) fun ρ1 h1 => evalSs S.G xo ms ρ1 h1) = f
  generalize hR : forN f s (s.len h1 + 1) 0 ρ h1 = R
  intro hr D p
  refine ⟨fun i m σ' H' => ∃ φ' ρ' h', RQ S Γ X xo φ' H' ρ' σ' ∧ RH S.L φ' H' h' ∧ Ext φ1 H1 φ' H' ∧ forN f s m i ρ' h' = R, ⟨s.len h1 + 1, φ1, ρ, h1, re.ext hm e1, hm1, .refl, hR⟩, fun i m σ' H' hw => ?_⟩
  obtain ⟨φ', ρ', h', re', hm', ex, eR⟩ := hw
  have rs' := rs φ' H' h' (ex.kept hm1) hm' i
  cases m with
  | zero => exact absurd eR.symm hr
  | succ m =>
    rw [forN] at eR
    split at eR
    · exact absurd eR.symm hr
    · rename_i en
      subst eR
      exact .inl ⟨rs'.1 en, p σ' φ' H' re' hm' ex⟩
    · rename_i d en
      obtain ⟨go, yl⟩ := rs'.2 d en
      refine .inr ⟨go, fun σ'' H'' => ∃ φ' ρ' h', RQ S Γ X xo φ' H'' ρ' σ'' ∧ RH S.L φ' H'' h' ∧ Ext φ1 H1 φ' H'' ∧ forN f s m (i + 1) ρ' h' = R, fun σ'' H'' z => ⟨m, Nat.lt_succ_self m, z⟩, fun x H'' hy => ?_⟩
      obtain ⟨φ2, rx, hm2, e2⟩ := yl x H'' hy
      have re2 := re'.ext hm' e2
      have sb : SatS S Γ X xo φ2 H'' (f d ρ' h') (fun D => twG X tg x σ' H'' fun σ2 H2 => twS X b D σ2 H2) := by
        rw [← hf]
        refine sOf_ok (T2 := fun σ2 H2 D => twS X b D σ2 H2) twG.mo hm2 re2.re (hh.G Γ X tg t g q2 xo ρ' σ' φ2 H'' h' d x re2 hm2 rx) fun ρ1 h3 _ σ3 φ3 H3 re3 hm3 e3 => ?_
        exact hS Γ X b ms g q3 xo ρ1 σ3 φ3 H3 h3 re3.1 hm3
      have ex2 := ex.trans e2
      refine sb (fun z => by rw [z] at eR; exact hr eR.symm) _ ?_
      cases e : f d ρ' h' with
      | none => trivial
      | some u =>
        obtain ⟨so, m2⟩ := u
        rw [e] at eR
        cases so with
        | nx ρ1 => exact fun σ4 φ4 H4 a b c => ⟨φ4, ρ1, m2, a, b, ex2.trans c, eR⟩
        | ct ρ1 => exact fun σ4 φ4 H4 a b c => ⟨φ4, ρ1, m2, a, b, ex2.trans c, eR⟩
        | bk ρ1 =>
          subst eR
          exact fun σ4 φ4 H4 a b c => p σ4 φ4 H4 a b (ex2.trans c)
        | rt d =>
          subst eR
          exact fun v φ4 H4 a b c => p v φ4 H4 a b (ex2.trans c)
        | xc x ρ1 =>
          subst eR
          exact EndP.ext (r := some (.xc x ρ1, m2)) p ex2
theorem s_whl (g : Good S Γ X) (hh : Hyps S n) (hS : HypSs S n) (hot : Γ.hot = false) {c : Expr} {b : List Stmt} {mc : ME} {ms : List MS} {pos : Pos} (q1 : ckE n S.T Γ c mc = true) (q3 : ckSs n S.T Γ b ms = true)
    (re : RQ S Γ X xo φ H ρ σ) (hm : RH S.L φ H h) : SatS S Γ X xo φ H (evalS S.G xo (.whl mc ms) ρ h) (fun D => twS1 X (.While c b [] pos) D σ H) := by
  simp only [evalS]
  generalize hR : whlN (evalT S.G xo mc) (evalSs S.G xo ms) S.G.lim ρ h = R
  refine SatS.imp (T := fun D => tWhile (twT X c) (twS X b) D σ H) ?_ fun D z => twS1_of (ps_while (g.po hot) pt_tw pss_tw) z
  intro hr D p
  refine ⟨fun m σ' H' => ∃ φ' ρ' h', RQ S Γ X xo φ' H' ρ' σ' ∧ RH S.L φ' H' h' ∧ Ext φ H φ' H' ∧ whlN (evalT S.G xo mc) (evalSs S.G xo ms) m ρ' h' = R, ⟨S.G.lim, φ, ρ, h, re, hm, .refl, hR⟩, fun m σ' H' hw => ?_⟩
  obtain ⟨φ', ρ', h', re', hm', ex, eR⟩ := hw
  cases m with
  | zero => exact absurd eR.symm hr
  | succ m =>
    rw [whlN] at eR
    have sc := hh.T Γ X c mc g q1 xo ρ' σ' φ' H' h' re' hm'
    cases e : evalT S.G xo mc ρ' h' with
    | bad => rw [e] at eR; exact absurd eR.symm hr
    | exc x m2 =>
      rw [e] at eR sc
      subst eR
      obtain ⟨W, tk, w⟩ := p
      exact twT.mo _ _ (fun _ _ z => z.elim) (sc W tk fun cls d φ2 H2 a b c => w cls d σ' φ2 H2 a (re'.re.ext hm' c) b (ex.trans c))
    | ok k h2 =>
      rw [e] at eR sc
      refine twT.mo _ _ (fun c H2 ⟨φ2, rc, hm2, e2⟩ => ?_) sc
      subst rc
      have re2 := re'.ext hm' e2
      have ex2 := ex.trans e2
      cases c with
      | false =>
        rw [if_neg Bool.false_ne_true]
        dsimp only at eR
        subst eR
        exact p σ' φ2 H2 re2 hm2 ex2
      | true =>
        rw [if_pos rfl]
        dsimp only at eR
        refine ⟨fun σ'' H'' => ∃ φ' ρ' h', RQ S Γ X xo φ' H'' ρ' σ'' ∧ RH S.L φ' H'' h' ∧ Ext φ H φ' H'' ∧ whlN (evalT S.G xo mc) (evalSs S.G xo ms) m ρ' h' = R, fun σ'' H'' z => ⟨m, Nat.lt_succ_self m, z⟩, ?_⟩
        refine hS Γ X b ms g q3 xo ρ' σ' φ2 H2 h2 re2 hm2 (fun z => by rw [z] at eR; exact hr eR.symm) _ ?_
        cases e3 : evalSs S.G xo ms ρ' h2 with
        | none => trivial
        | some u =>
          obtain ⟨so, m2⟩ := u
          rw [e3] at eR
          cases so with
          | nx ρ1 => exact fun σ4 φ4 H4 a b c => ⟨φ4, ρ1, m2, a, b, ex2.trans c, eR⟩
          | ct ρ1 => exact fun σ4 φ4 H4 a b c => ⟨φ4, ρ1, m2, a, b, ex2.trans c, eR⟩
          | bk ρ1 =>
            subst eR
            exact fun σ4 φ4 H4 a b c => p σ4 φ4 H4 a b (ex2.trans c)
          | rt d =>
            subst eR
            exact fun v φ4 H4 a b c => p v φ4 H4 a b (ex2.trans c)
          | xc x ρ1 =>
            subst eR
            exact EndP.ext (r := some (.xc x ρ1, m2)) p ex2

/-! ### raise -/
/-- X(), X an own exception class without own __init__ -/
theorem pmk_own0 {C : Addr} {bmB : List Value} {B newId initId : String} {x : Str} {p pos : Pos} (F : ExcBaseFacts B newId initId bmB) (q : PySem.W.excIn X.K C bmB newId = true) (gC : X.mg x = some (.ref C)) (kC : PySem.W.keepIn X.K (.ref C) = true) (r : Raises X (.ref C)) (hg : Gl X x)
    (hdb : (x == ("__debug__" : Str)) = false) : PMk X (.Call (.Name x p) [] [] pos) (fun _ H Q => Q (.ref C) none H) := by
  intro pins s σ H Q I hQ
  refine wpAny_Call_Name_kw (ld_glob I hg gC ?_ hdb)
  refine PySem.W.callWith_K0 I.kIn kC ?_
  obtain ⟨bm, N, nm, qn, bs, hdct, sn, sub, ab, col, dd, k0, k1, k2, k3, k5, mN, hC, hN, hni, T⟩ := exc_obj I.kIn q
  exact wpAny_call_exc_subT F T hC hN hni (fun h' e hx => mk_of I hx r hQ (I.hok.gone hx.new)) (by show 0 ≤ sizeLine; exact Nat.zero_le _)
theorem s_raise (F : Facts S) (g : Good S Γ X) (hot : Γ.hot = false) {c : Nat} {x : Str} {p p2 pos : Pos} (q1 : glQ Γ x = true) (q2 : S.T.xcls[c]? = some x) (q3 : S.T.xfs[c]? = some Str.empty) (re : RQ S Γ X xo φ H ρ σ) (hm : RH S.L φ H h) :
    SatS S Γ X xo φ H (evalS S.G xo (.raise c []) ρ h) (fun D => twS1 X (.Raise (some (.Call (.Name x p) [] [] p2)) none pos) D σ H) := by
  obtain ⟨nd, mg, kp, C, ty⟩ := F.xc c x q2
  obtain ⟨B, newId, initId, bmB, E, ei⟩ := F.xn c x q2 q3
  rw [← g.K] at kp ei ty
  rw [← g.mg] at mg
  have hs := C.hs
  rw [← g.K] at hs
  simp only [evalS, evalEs, sOf]
  intro _ D p
  obtain ⟨W, tk, w⟩ := p
  refine twS1_of (ps_raise (g.calm hot).1 tk (pmk_own0 E ei mg kp (raises_own hs ty) (glQ_ok g q1) (beq_eq_false_iff_ne.mpr nd))) ?_
  exact w _ _ σ φ H ⟨rfl, rfl⟩ re.re hm .refl

/-! ### try -/
theorem good_tr (g : Good S Γ X) {pn : List (Addr × Obj)} {xe : Value → Shared → Prop} (po : PassesOwn (model X.prog X.w) X.A X.env xe) : Good S Γ (X.tr pn xe) :=
  ⟨g.prog, g.w, g.K, g.mg, g.base, g.N, g.nd, g.clean, g.names, g.kind, g.fn, g.calm, g.un, fun _ => po, g.top⟩
theorem good_suite (g : Good S Γ X) {cau : Option Nat} (a : Addr) (pn : List (Addr × Obj)) : Good S { Γ with hot := true, top := false, cau := cau } (X.suite a pn) where
  prog := g.prog
  w := g.w
  K := g.K
  mg := g.mg
  base := g.base
  N := g.N
  nd := g.nd
  clean := g.clean
  names := g.names
  kind := g.kind
  fn := g.fn
  calm := fun z => by cases z
  un := g.un
  po := fun z => by cases z
  top := fun z => by cases z
theorem rq_of {Γ' : TC} {X' : Cx} {xo' : Option Ex} (hc : Γ'.cau = none) (re : RE S.L φ H ρ σ) : RQ S Γ' X' xo' φ H ρ σ := ⟨re, by unfold XO; rw [hc]; trivial⟩
theorem end_tr (hc : Γ.cau = none) {pn : List (Addr × Obj)} {xe : Value → Shared → Prop} {D : Ends} {r : Ro} (hx : ∀ x ρ m, r ≠ some (.xc x ρ, m)) (p : EndP S Γ X xo φ H r D) : EndP S Γ (X.tr pn xe) xo φ H r D := by
  unfold EndP at p ⊢
  split
  · trivial
  · exact fun σ' φ' H' a b c => p σ' φ' H' (rq_of hc a.re) b c
  · exact p
  · exact fun σ' φ' H' a b c => p σ' φ' H' (rq_of hc a.re) b c
  · exact fun σ' φ' H' a b c => p σ' φ' H' (rq_of hc a.re) b c
  · exact absurd rfl (hx _ _ _)
theorem takes_no : Takes X (fun _ _ _ _ => False) := fun u s' ⟨_, _, _, _, _, _, _, _, _, _, _, _, _, _, _, _, z⟩ => z.elim
theorem RE.hideS {L : LC} (re : RE L φ H ρ σ) (i : Nat) (v : Option V) : RE L φ H (ρ.set i none) (σ.set i v) := by
  refine ⟨by simp [re.len], fun j d e => ?_⟩
  by_cases hj : i = j
  · subst hj
    by_cases hl : i < ρ.length
    · rw [List.getElem?_set_self hl] at e; cases e
    · rw [List.getElem?_eq_none (by simpa using hl)] at e; cases e
  · rw [List.getElem?_set_ne hj] at e ⊢
    exact re.get j d e
theorem s_try0 (F : Facts S) (g : Good S Γ X) (hS : HypSs S n) (hot : Γ.hot = false) (top : Γ.top = true) (hc : Γ.cau = none) {x : Str} {c : Nat} {b su : List Stmt} {s0 : Stmt} {ms hb : List MS} {np pos' pos : Pos} (q1 : glQ Γ x = true) (q2 : S.T.xcls[c]? = some x)
    (q3 : ckSs n S.T Γ b ms = true) (q4 : ckSs n S.T { Γ with hot := true, top := false } (s0 :: su) hb = true) (re : RQ S Γ X xo φ H ρ σ) (hm : RH S.L φ H h) :
    SatS S Γ X xo φ H (evalS S.G xo (.try_ ms [.mk c none hb]) ρ h) (fun D => twS1 X (.Try b [.ExceptHandler (some (.Name x np)) none (s0 :: su) pos'] [] [] pos) D σ H) := by
  obtain ⟨nd, mg, kp, C, ty⟩ := F.xc c x q2
  obtain ⟨st, fr⟩ := g.top top
  have hn : Names X x (.ref (S.L.xA c)) := ⟨glQ_ok g q1, beq_eq_false_iff_ne.mpr nd, .inl (by rw [g.mg]; exact mg)⟩
  simp only [evalS]
  intro hr D p
  have main : ∀ Wout : WX, Takes X Wout → (∀ (W : WX) (pn : List (Addr × Obj)) (xe : Value → Shared → Prop), Takes (X.tr pn xe) W → PassesOwn (model X.prog X.w) X.A X.env xe →
      W = wOnly X.K (.ref (S.L.xA c)) (fun a cls d D σ H => ∀ oe pn, Zc cls d oe → (∃ vs, oe.data = .fields vs) → twS (X.suite a ((a, oe) :: pn)) (s0 :: su) D σ H) Wout D → twS (X.tr pn xe) b D σ H) →
      twS1 X (.Try b [.ExceptHandler (some (.Name x np)) none (s0 :: su) pos'] [] [] pos) D σ H := fun Wout tk k =>
    twS1_of (ps_try_only (tb := fun W D σ H => ∀ pn xe, Takes (X.tr pn xe) W → PassesOwn (model X.prog X.w) X.A X.env xe → twS (X.tr pn xe) b D σ H)
      (ts := fun a cls d D σ H => ∀ oe pn, Zc cls d oe → (∃ vs, oe.data = .fields vs) → twS (X.suite a ((a, oe) :: pn)) (s0 :: su) D σ H) st fr hn tk
      (fun W pn xe tk' po => ⟨fun pins s σ H D I h => h pn xe tk' po pins s I⟩) (fun a oe cls d pn z f => ⟨fun pins s σ H D I h => h oe pn z f pins s I⟩)) fun pn xe tk' po => k _ pn xe tk' po rfl
  cases e : evalSs S.G xo ms ρ h with
  | none => rw [e] at hr; exact absurd rfl hr
  | some u =>
    obtain ⟨so, m⟩ := u
    rw [e] at p hr
    have body : ∀ pn xe, PassesOwn (model X.prog X.w) X.A X.env xe → SatS S Γ (X.tr pn xe) xo φ H (some (so, m)) (fun D => twS (X.tr pn xe) b D σ H) := fun pn xe po => by
      rw [← e]
      exact hS Γ (X.tr pn xe) b ms (good_tr g po) q3 xo ρ σ φ H h (rq_of hc re.re) hm
    cases so with
    | xc y ρ1 =>
      simp only [evalX] at p hr
      have Wo : ∃ Wout : WX, Takes X Wout ∧ ∀ cls d σ' φ' H', RX S.L φ' H' y cls d → RE S.L φ' H' ρ1 σ' → RH S.L φ' H' m → Ext φ H φ' H' →
          wOnly X.K (.ref (S.L.xA c)) (fun a cls d D σ H => ∀ oe pn, Zc cls d oe → (∃ vs, oe.data = .fields vs) → twS (X.suite a ((a, oe) :: pn)) (s0 :: su) D σ H) Wout D cls d σ' H' := by
        cases es : S.G.sub y.c c with
        | none => rw [es] at hr; exact absurd rfl hr
        | some k =>
          have xm := F.xm _ _ _ es
          rw [← g.K] at xm
          rw [es] at p hr
          cases k with
          | false =>
            obtain ⟨W, tk, w⟩ := p
            refine ⟨W, tk, fun cls d σ' φ' H' a1 a2 a3 a4 => ⟨false, by rw [a1.1]; exact xm, (fun z => by cases z), fun _ => w cls d σ' φ' H' a1 a2 a3 a4⟩⟩
          | true =>
            refine ⟨fun _ _ _ _ => False, takes_no, fun cls d σ' φ' H' a1 a2 a3 a4 => ⟨true, by rw [a1.1]; exact xm, fun _ a na oe pn hz hf => ?_, (fun z => by cases z)⟩⟩
            simp only [slotOk, hide, if_true] at p hr
            have gs := good_suite (cau := Γ.cau) g a ((a, oe) :: pn)
            have ss := hS _ (X.suite a ((a, oe) :: pn)) (s0 :: su) hb gs q4 (some y) ρ1 σ' φ' H' m (rq_of hc a2) a3
            cases e5 : evalSs S.G (some y) hb ρ1 m with
            | none => rw [e5] at hr; exact absurd rfl hr
            | some u2 =>
              obtain ⟨so2, m2⟩ := u2
              rw [e5] at p hr ss
              refine ss (fun z => by cases z) D ?_
              cases so2 with
              | nx ρ2 => exact fun σ4 φ4 H4 b1 b2 b3 => p σ4 φ4 H4 (rq_of hc b1.re) b2 (a4.trans b3)
              | ct ρ2 => exact fun σ4 φ4 H4 b1 b2 b3 => p σ4 φ4 H4 (rq_of hc b1.re) b2 (a4.trans b3)
              | bk ρ2 => exact fun σ4 φ4 H4 b1 b2 b3 => p σ4 φ4 H4 (rq_of hc b1.re) b2 (a4.trans b3)
              | rt d2 => exact fun v φ4 H4 b1 b2 b3 => p v φ4 H4 b1 b2 (a4.trans b3)
              | xc x2 ρ2 => exact absurd rfl hr
      obtain ⟨Wout, tk, wo⟩ := Wo
      refine main Wout tk fun W pn xe tk' po eW => ?_
      subst eW
      exact body pn xe po (fun z => by cases z) D ⟨_, tk', wo⟩
    | nx ρ1 => exact main _ takes_no fun W pn xe tk' po eW => body pn xe po (fun z => by cases z) D (end_tr hc (fun _ _ _ z => by cases z) p)
    | rt ρ1 => exact main _ takes_no fun W pn xe tk' po eW => body pn xe po (fun z => by cases z) D (end_tr hc (fun _ _ _ z => by cases z) p)
    | bk ρ1 => exact main _ takes_no fun W pn xe tk' po eW => body pn xe po (fun z => by cases z) D (end_tr hc (fun _ _ _ z => by cases z) p)
    | ct ρ1 => exact main _ takes_no fun W pn xe tk' po eW => body pn xe po (fun z => by cases z) D (end_tr hc (fun _ _ _ z => by cases z) p)
theorem s_tryA (F : Facts S) (g : Good S Γ X) (hS : HypSs S n) (hot : Γ.hot = false) (top : Γ.top = true) (hc : Γ.cau = none) {x y0 : Str} {c i : Nat} {b su : List Stmt} {s0 : Stmt} {ms hb : List MS} {np pos' pos : Pos} (q1 : glQ Γ x = true) (q2 : S.T.xcls[c]? = some x)
    (q3 : ckSs n S.T Γ b ms = true) (qi : lclQ Γ i y0 = true) (q4 : ckSs n S.T { Γ with hot := true, top := false, cau := some i } (s0 :: su) hb = true) (re : RQ S Γ X xo φ H ρ σ) (hm : RH S.L φ H h) :
    SatS S Γ X xo φ H (evalS S.G xo (.try_ ms [.mk c (some i) hb]) ρ h) (fun D => twS1 X (.Try b [.ExceptHandler (some (.Name x np)) (some y0) (s0 :: su) pos'] [] [] pos) D σ H) := by
  obtain ⟨nd, mg, kp, C, ty⟩ := F.xc c x q2
  obtain ⟨st, fr⟩ := g.top top
  obtain ⟨i1, i2, i3⟩ := lclQ_ok g qi
  have hn : Names X x (.ref (S.L.xA c)) := ⟨glQ_ok g q1, beq_eq_false_iff_ne.mpr nd, .inl (by rw [g.mg]; exact mg)⟩
  simp only [evalS]
  intro hr D p
  have main : ∀ Wout : WX, Takes X Wout → (∀ (W : WX) (pn : List (Addr × Obj)) (xe : Value → Shared → Prop), Takes (X.tr pn xe) W → PassesOwn (model X.prog X.w) X.A X.env xe →
      W = wAs X.K (.ref (S.L.xA c)) i (fun a cls d D σ H => ∀ oe pn, Zc cls d oe → (∃ vs, oe.data = .fields vs) → twS (X.suite a ((a, oe) :: pn)) (s0 :: su) D σ H) Wout D → twS (X.tr pn xe) b D σ H) →
      twS1 X (.Try b [.ExceptHandler (some (.Name x np)) (some y0) (s0 :: su) pos'] [] [] pos) D σ H := fun Wout tk k =>
    twS1_of (ps_try_as (tb := fun W D σ H => ∀ pn xe, Takes (X.tr pn xe) W → PassesOwn (model X.prog X.w) X.A X.env xe → twS (X.tr pn xe) b D σ H)
      (ts := fun a cls d D σ H => ∀ oe pn, Zc cls d oe → (∃ vs, oe.data = .fields vs) → twS (X.suite a ((a, oe) :: pn)) (s0 :: su) D σ H) st fr (by rw [g.N]; exact g.nd) i1 i2 hn tk
      (fun W pn xe tk' po => ⟨fun pins s σ H D I h => h pn xe tk' po pins s I⟩) (fun a oe cls d pn z f => ⟨fun pins s σ H D I h => h oe pn z f pins s I⟩)) fun pn xe tk' po => k _ pn xe tk' po rfl
  cases e : evalSs S.G xo ms ρ h with
  | none => rw [e] at hr; exact absurd rfl hr
  | some u =>
    obtain ⟨so, m⟩ := u
    rw [e] at p hr
    have body : ∀ pn xe, PassesOwn (model X.prog X.w) X.A X.env xe → SatS S Γ (X.tr pn xe) xo φ H (some (so, m)) (fun D => twS (X.tr pn xe) b D σ H) := fun pn xe po => by
      rw [← e]
      exact hS Γ (X.tr pn xe) b ms (good_tr g po) q3 xo ρ σ φ H h (rq_of hc re.re) hm
    cases so with
    | xc y ρ1 =>
      simp only [evalX] at p hr
      have Wo : ∃ Wout : WX, Takes X Wout ∧ ∀ cls d σ' φ' H', RX S.L φ' H' y cls d → RE S.L φ' H' ρ1 σ' → RH S.L φ' H' m → Ext φ H φ' H' →
          wAs X.K (.ref (S.L.xA c)) i (fun a cls d D σ H => ∀ oe pn, Zc cls d oe → (∃ vs, oe.data = .fields vs) → twS (X.suite a ((a, oe) :: pn)) (s0 :: su) D σ H) Wout D cls d σ' H' := by
        cases es : S.G.sub y.c c with
        | none => rw [es] at hr; exact absurd rfl hr
        | some k =>
          have xm := F.xm _ _ _ es
          rw [← g.K] at xm
          rw [es] at p hr
          cases k with
          | false =>
            obtain ⟨W, tk, w⟩ := p
            refine ⟨W, tk, fun cls d σ' φ' H' a1 a2 a3 a4 => ⟨false, by rw [a1.1]; exact xm, (fun z => by cases z), fun _ => w cls d σ' φ' H' a1 a2 a3 a4⟩⟩
          | true =>
            refine ⟨fun _ _ _ _ => False, takes_no, fun cls d σ' φ' H' a1 a2 a3 a4 => ⟨true, by rw [a1.1]; exact xm, fun _ a na oe pn hz hf => ?_, (fun z => by cases z)⟩⟩
            have gs := good_suite (cau := some i) g a ((a, oe) :: pn)
            cases hso : slotOk (some i) ρ1 with
            | false =>
              simp only [hso] at hr
              exact absurd rfl hr
            | true =>
            have hl0 : i < ρ1.length := of_decide_eq_true hso
            simp only [hso, if_true, hide] at p hr
            have hl : i < σ'.length := by rw [← a2.len]; exact hl0
            have xo' : XO S { Γ with hot := true, top := false, cau := some i } (X.suite a ((a, oe) :: pn)) (some y) (σ'.set i (some (.ref a))) φ' H' := by
              refine ⟨y, a, d, oe, pn, X, rfl, List.getElem?_set_self hl, rfl, by rw [← a1.1]; exact hz, hf, a1.2⟩
            have ss := hS _ (X.suite a ((a, oe) :: pn)) (s0 :: su) hb gs q4 (some y) (ρ1.set i none) (σ'.set i (some (.ref a))) φ' H' m ⟨a2.hideS i _, xo'⟩ a3
            cases e5 : evalSs S.G (some y) hb (ρ1.set i none) m with
            | none => rw [e5] at hr; exact absurd rfl hr
            | some u2 =>
              obtain ⟨so2, m2⟩ := u2
              rw [e5] at p hr ss
              refine ss (fun z => by cases z) _ ?_
              cases so2 with
              | nx ρ2 => exact fun σ4 φ4 H4 b1 b2 b3 => p _ φ4 H4 (rq_of hc (b1.re.hideS i none)) b2 (a4.trans b3)
              | ct ρ2 => exact fun σ4 φ4 H4 b1 b2 b3 => p _ φ4 H4 (rq_of hc (b1.re.hideS i none)) b2 (a4.trans b3)
              | bk ρ2 => exact fun σ4 φ4 H4 b1 b2 b3 => p _ φ4 H4 (rq_of hc (b1.re.hideS i none)) b2 (a4.trans b3)
              | rt d2 => exact fun v φ4 H4 b1 b2 b3 => p v φ4 H4 b1 b2 (a4.trans b3)
              | xc x2 ρ2 => exact absurd rfl hr
      obtain ⟨Wout, tk, wo⟩ := Wo
      refine main Wout tk fun W pn xe tk' po eW => ?_
      subst eW
      exact body pn xe po (fun z => by cases z) D ⟨_, tk', wo⟩
    | nx ρ1 => exact main _ takes_no fun W pn xe tk' po eW => body pn xe po (fun z => by cases z) D (end_tr hc (fun _ _ _ z => by cases z) p)
    | rt ρ1 => exact main _ takes_no fun W pn xe tk' po eW => body pn xe po (fun z => by cases z) D (end_tr hc (fun _ _ _ z => by cases z) p)
    | bk ρ1 => exact main _ takes_no fun W pn xe tk' po eW => body pn xe po (fun z => by cases z) D (end_tr hc (fun _ _ _ z => by cases z) p)
    | ct ρ1 => exact main _ takes_no fun W pn xe tk' po eW => body pn xe po (fun z => by cases z) D (end_tr hc (fun _ _ _ z => by cases z) p)

/-! ### all statements -/
theorem stepS (F : Facts S) (hn : n ≤ 1000000) (hSs : HypSs S n) : HypS S (n + 1) := by
  have hh := (hyps_all F n hn).1
  intro Γ X st m g q xo ρ σ φ H h re hm
  unfold ckS at q
  split at q
  · rename_i t e
    split at q
    · rename_i tg v pos
      rw [Bool.or_eq_true] at q
      rcases q with q | q
      · rw [Bool.and_eq_true, Bool.and_eq_true, Bool.and_eq_true, Bool.and_eq_true] at q
        obtain ⟨⟨⟨⟨q1, q2⟩, q3⟩, q4⟩, q5⟩ := q
        exact s_asg g hh q1 q2 q3 q4 q5 re hm
      · split at q
        · rw [Bool.and_eq_true, Bool.and_eq_true, Bool.and_eq_true, Bool.and_eq_true, Bool.and_eq_true] at q
          obtain ⟨⟨⟨⟨⟨q1, q2⟩, q3⟩, q4⟩, q5⟩, q6⟩ := q
          exact s_par2 g hh (notT q1) q2 q3 (by simpa using q4) (of_decide_eq_true q5) q6 re hm
        · rw [Bool.and_eq_true, Bool.and_eq_true, Bool.and_eq_true, Bool.and_eq_true, Bool.and_eq_true, Bool.and_eq_true, Bool.and_eq_true, Bool.and_eq_true] at q
          obtain ⟨⟨⟨⟨⟨⟨⟨⟨q1, q2⟩, q3⟩, q4⟩, q5⟩, q6⟩, q7⟩, q8⟩, q9⟩ := q
          exact s_par3 g hh (notT q1) q2 q3 q4 (by simpa using q5) (by simpa using q6) (by simpa using q7) (of_decide_eq_true q8) q9 re hm
        · rw [Bool.and_eq_true, Bool.and_eq_true, Bool.and_eq_true] at q
          obtain ⟨⟨⟨q1, q2⟩, q3⟩, q4⟩ := q
          cases n with
          | zero => cases q4
          | succ m =>
            have h1 := (hyps_all F m (by omega)).1
            exact s_setLc F g (notT q1) h1.E (fun j hj => (hyps_all F j (by omega)).1.T) h1.G h1.I q2 q3 q4 re hm
        · cases q
    · cases q
  · cases q
  · split at q
    · rename_i e v pos
      rw [Bool.and_eq_true] at q
      simp only [evalS]
      refine SatS.imp (sOf_ok (T2 := fun x H1 D => D.nx σ H1) twE.mo hm re.re (hh.E Γ X _ _ g q.2 xo ρ σ φ H h re hm) fun d h1 _ x φ1 H1 rx hm1 e1 => ?_) fun D z => twS1_of (ps_expr pe_tw (sw_comp q.1 _ _ _)) z
      exact fun _ D p => p σ φ1 H1 (re.ext hm e1) hm1 .refl
    · cases q
  · split at q
    · simp only [evalS]
      refine SatS.imp (sOf_ok (T2 := fun x H1 D => D.rt x H1) twE.mo hm re.re (hh.E Γ X _ _ g q xo ρ σ φ H h re hm) fun d h1 _ x φ1 H1 rx hm1 e1 => ?_) fun D z => twS1_of (ps_ret pe_tw) z
      exact fun _ D p => p x φ1 H1 rx hm1 .refl
    · cases q
  · rename_i mc ma mb
    split at q
    · rename_i c' a' b' pos
      obtain ⟨q1, q2, q3⟩ := and3 q
      simp only [evalS]
      refine SatS.imp (sOf_ok (T2 := fun (k : Bool) H1 D => if k = true then twS X a' D σ H1 else twS X b' D σ H1) twT.mo hm re.re (hh.T Γ X _ _ g q1 xo ρ σ φ H h re hm) fun k h1 _ c φ1 H1 rc hm1 e1 => ?_) fun D z => twS1_of (ps_if pt_tw pss_tw pss_tw) z
      subst rc
      cases c with
      | true => exact hSs Γ X a' ma g q2 xo ρ σ φ1 H1 h1 (re.ext hm e1) hm1
      | false => exact hSs Γ X b' mb g q3 xo ρ σ φ1 H1 h1 (re.ext hm e1) hm1
    · cases q
  · split at q
    · obtain ⟨q1, q2, q3⟩ := and3 q
      exact s_whl g hh hSs (notT q1) q2 q3 re hm
    · cases q
  · split at q
    · rw [Bool.and_eq_true, Bool.and_eq_true, Bool.and_eq_true] at q
      obtain ⟨⟨⟨q1, q2⟩, q3⟩, q4⟩ := q
      exact s_for F g hh hSs (notT q1) q2 q3 q4 re hm
    · cases q
  · split at q
    · simp only [evalS]
      exact fun _ D p => twS1_of ps_break (p σ φ H re hm .refl)
    · cases q
  · split at q
    · simp only [evalS]
      exact fun _ D p => twS1_of ps_continue (p σ φ H re hm .refl)
    · cases q
  · split at q
    · simp only [evalS]
      exact fun _ D p => twS1_of ps_pass (p σ φ H re hm .refl)
    · cases q
  · rename_i c es
    split at q
    · rw [Bool.and_eq_true, Bool.and_eq_true, Bool.and_eq_true, Bool.and_eq_true] at q
      obtain ⟨⟨⟨⟨q1, q2⟩, q3⟩, q4⟩, q5⟩ := q
      cases es with
      | nil => exact s_raise F g (notT q1) q2 (of_decide_eq_true q3) (of_decide_eq_true q4) re hm
      | cons _ _ => cases q5
    · cases q
  · split at q
    · split at q
      · rw [Bool.and_eq_true, Bool.and_eq_true, Bool.and_eq_true, Bool.and_eq_true, Bool.and_eq_true, Bool.and_eq_true] at q
        obtain ⟨⟨⟨⟨⟨⟨q1, q2⟩, q3⟩, q4⟩, q5⟩, q6⟩, q7⟩ := q
        have hc : Γ.cau = none := by
          cases e : Γ.cau with
          | none => rfl
          | some j => rw [e] at q3; cases q3
        split at q7
        · exact s_try0 F g hSs (notT q1) q2 hc q4 (of_decide_eq_true q5) q6 q7 re hm
        · rw [Bool.and_eq_true] at q7
          exact s_tryA F g hSs (notT q1) q2 hc q4 (of_decide_eq_true q5) q6 q7.1 q7.2 re hm
        · cases q7
      · cases q
    · cases q
theorem stmts_all (F : Facts S) : ∀ n, n ≤ 1000000 → HypS S n ∧ HypSs S n := by
  intro n
  induction n with
  | zero =>
    intro _
    exact ⟨(fun Γ X st m g q => by cases q), (fun Γ X ss ms g q => by cases q)⟩
  | succ n ih =>
    intro hn
    obtain ⟨a, b⟩ := ih (by omega)
    exact ⟨stepS F (by omega) b, stepSs a b⟩
end
end Mp
end
section
set_option Elab.async false
set_option linter.all false
set_option maxRecDepth 100000
set_option maxHeartbeats 4000000
/-! PySndG: the defs, by how deep the calls go. -/
namespace Mp
open PySem PySem.Spec PyProof.Rows L2

/-- a def of the text and its term -/
structure DefI where
  nm : Str
  qual : Str
  st : Stmt
  N : List Str
  ps : List Str
  fd : FD
def dTC (d : DefI) : TC := ⟨d.N, (defScope d.st).names, fun _ => true, false, true, none⟩
/-- the def's scope is as it must be, its term is its text's -/
def scQ (d : DefI) : Bool := (match (defScope d.st).kind with | .function => true | _ => false) && !(defScope d.st).isCoroutine && !(defScope d.st).isGenerator && decide (d.N.Nodup) && decide (d.N.take d.ps.length = d.ps) &&
  (d.ps.all fun x => decide ((defScope d.st).names.lookup x = some .local) || decide ((defScope d.st).names.lookup x = some .cell)) && ((defScope d.st).names.all fun y => decide (y.2 ≠ .free)) &&
  (d.N.all fun x => decide (x ≠ "__debug__") && decide (x ≠ "__classdict__")) && decide (d.fd.ns = d.N.length) && decide (d.fd.ps = d.ps.length)
def ckDef (T : GT) (fuel : Nat) (d : DefI) : Bool := scQ d && ckSs fuel T (dTC d) (defBody d.st) d.fd.body

theorem scQ_ok {d : DefI} (q : scQ d = true) : FnScope d.N d.ps (defScope d.st) ∧ (∀ x ∈ d.N, x ≠ "__debug__" ∧ x ≠ "__classdict__") ∧ d.fd.ns = d.N.length ∧ d.fd.ps = d.ps.length := by
  unfold scQ at q
  simp only [Bool.and_eq_true] at q
  obtain ⟨⟨⟨⟨⟨⟨⟨⟨⟨q1, q2⟩, q3⟩, q4⟩, q5⟩, q6⟩, q7⟩, q8⟩, q9⟩, q10⟩ := q
  refine ⟨⟨?_, notT q2, notT q3, of_decide_eq_true q4, of_decide_eq_true q5, fun x hx => ?_, fun y hy => ?_⟩, fun x hx => ?_, of_decide_eq_true q9, of_decide_eq_true q10⟩
  · split at q1
    · assumption
    · cases q1
  · have := List.all_eq_true.mp q6 x hx
    rw [Bool.or_eq_true] at this
    exact this.imp of_decide_eq_true of_decide_eq_true
  · exact of_decide_eq_true (List.all_eq_true.mp q7 y hy)
  · have := List.all_eq_true.mp q8 x hx
    rw [Bool.and_eq_true] at this
    exact ⟨of_decide_eq_true this.1, of_decide_eq_true this.2⟩

/-- a text at level n -/
def lvS (P : Program) (w : World) (L : LC) (mg : Str → Option Value) (base : Heap) (Q : Prg) (lim : Nat) (T : GT) (fa : Nat → Addr) (fd : Nat → FuncData) (n : Nat) : SC :=
  ⟨P, w, L, mg, base, gcOf Q lim (callN Q lim n) (callN Q lim (n - 1)), T, n, fa, fd⟩
/-- what is known of the text whatever the level -/
structure Facts0 (S : SC) : Prop where
  cls : ClsOk S.L.K S.L S.G.fld
  attr : S.T.attr = S.L.at_
  kts : S.G.kts = S.L.kts
  glf : ∀ f y ps, S.T.fns[f]? = some (y, ps) → y ≠ Str.empty → S.mg y = some (.ref (S.fa f)) ∧ PySem.W.keepIn S.L.K (.ref (S.fa f)) = true ∧ y ≠ "__debug__"
  con : ∀ (g : Nat) (x : Str), S.T.consts[g]? = some x → x ≠ "__debug__" ∧ ∃ u d v, S.mg x = some u ∧ S.G.glob g = some d ∧ RelV v u ∧ ∀ φ H, RV S.L φ H d v
  cl : ∀ (c : Nat) (x : Str), S.T.cls[c]? = some x → x ≠ "__debug__" ∧ S.mg x = some (.ref (S.L.cA c)) ∧ ∀ f, S.G.init c = some f → Mk S.L.K (S.L.cA c) (S.fa f) ∧ ∃ y ps, S.T.fns[f]? = some (y, ps)
  mth : ∀ c m f, S.G.mth c m = some f → Cls S.L.K (S.L.cA c) ∧ Meth S.L.K (S.L.cA c) (S.L.at_ m) (S.fa f) ∧ ∃ y ps, S.T.fns[f]? = some (y, ps)
  blt : ∀ x ∈ bltNames, S.mg x = none
  xc : ∀ (c : Nat) (x : Str), S.T.xcls[c]? = some x → x ≠ "__debug__" ∧ S.mg x = some (.ref (S.L.xA c)) ∧ PySem.W.keepIn S.L.K (.ref (S.L.xA c)) = true ∧ ExcC S.L.K (S.L.xA c) ∧ PySem.W.typeIn S.L.K (.ref (S.L.xA c)) = some (.type "type")
  xn : ∀ (c : Nat) (x : Str), S.T.xcls[c]? = some x → S.T.xfs[c]? = some Str.empty → ∃ B newId initId bmB, ExcBaseFacts B newId initId bmB ∧ PySem.W.excIn S.L.K (S.L.xA c) bmB newId = true
  xm : ∀ c d b, S.G.sub c d = some b → PySem.W.exmOne S.L.K (.ref (S.L.xA c)) (.ref (S.L.xA d)) = some b
  xi : ∀ c k b x, S.G.isa c k = some b → S.T.isas[k]? = some x → ExcC S.L.K (S.L.xA c) ∧ x ≠ "__debug__" ∧ ∃ cv, PySem.W.kitOne S.L.K (.ref (S.L.xA c)) cv = some b ∧ ((∃ C, cv = .ref C ∧ S.mg x = some cv) ∨ (∃ T : String, cv = .type T ∧ S.mg x = none ∧ bootBuiltins x = some cv ∧ x ≠ "__name__"))
  gcd : S.T.gcd = true → S.mg "gcd" = some (.builtin "math.gcd")
  kb : ∀ f np ks p, (f, np, ks, p) ∈ S.T.kwf → ∀ y ps, S.T.fns[f]? = some (y, ps) → ∀ (s : Shared) (us ws : List Value), S.L.K.In s.heap → us.length = np → ws.length = ks.length → ∃ bs, permL (us ++ ws) p = some bs ∧ BindsTo s (S.fd f) ⟨us, ks.zip ws⟩ (ps.zip bs)
/-- the defs stand as the table says -/
structure DefsOk (L : LC) (Q : Prg) (T : GT) (fa : Nat → Addr) (fd : Nat → FuncData) (ds : List DefI) : Prop where
  len : T.fns.length = ds.length
  at_ : ∀ (f : Nat) (d : DefI), ds[f]? = some d → (∃ y, T.fns[f]? = some (y, d.ps)) ∧ Q.fns[f]? = some d.fd ∧ Fun L.K d.nm d.qual d.st (fa f) (fd f) ∧ Binds L.K (fd f) d.ps [] ∧ ∃ n, n ≤ 1000000 ∧ ckDef T n d = true

section
variable {P : Program} {w : World} {L : LC} {mg : Str → Option Value} {base : Heap} {Q : Prg} {lim : Nat} {T : GT} {fa : Nat → Addr} {fd : Nat → FuncData} {ds : List DefI} {n : Nat}
theorem callN_succ (f : Nat) : callN Q lim (n + 1) f = callB Q lim (callN Q lim n) (callN Q lim (n - 1)) f := by
  cases n <;> rfl
theorem callN_ar (dk : DefsOk L Q T fa fd ds) : ∀ (n f : Nat) (y : Str) (ps : List Str), T.fns[f]? = some (y, ps) → ∀ xs h, callN Q lim n f xs h ≠ .bad → xs.length = ps.length := by
  intro n f y ps hf xs h hb
  have hl : f < ds.length := by rw [← dk.len]; exact (List.getElem?_eq_some_iff.mp hf).1
  obtain ⟨⟨y', h1⟩, h2, _, _, m, _, ck⟩ := dk.at_ f _ (List.getElem?_eq_getElem hl)
  rw [hf] at h1
  cases h1
  unfold ckDef at ck
  rw [Bool.and_eq_true] at ck
  obtain ⟨_, _, _, hp⟩ := scQ_ok ck.1
  cases n with
  | zero => exact absurd rfl hb
  | succ n =>
    rw [callN_succ] at hb
    unfold callB at hb
    rw [h2] at hb
    dsimp only at hb
    split at hb
    · rename_i e; rw [e, hp]
    · exact absurd rfl hb
theorem facts_at (F0 : Facts0 (lvS P w L mg base Q lim T fa fd 0)) (dk : DefsOk L Q T fa fd ds)
    (h1 : ∀ f y ps, T.fns[f]? = some (y, ps) → FnOk P w L.K mg base (L2.CX P w) n (fa f) (fd f) ps (spF L (callN Q lim n f) ps.length))
    (h2 : ∀ f y ps, T.fns[f]? = some (y, ps) → FnOk P w L.K mg base (L2.CX P w) (n - 1) (fa f) (fd f) ps (spF L (callN Q lim (n - 1) f) ps.length)) : Facts (lvS P w L mg base Q lim T fa fd n) where
  cls := F0.cls
  attr := F0.attr
  kts := F0.kts
  fn := fun f y ps hf => ⟨h1 f y ps hf, by
    have hl : f < ds.length := by rw [← dk.len]; exact (List.getElem?_eq_some_iff.mp hf).1
    obtain ⟨⟨y', e1⟩, _, _, b, _⟩ := dk.at_ f _ (List.getElem?_eq_getElem hl)
    have e2 : T.fns[f]? = some (y, ps) := hf
    rw [e2] at e1
    cases e1
    exact b⟩
  fn1 := fun f y ps hf => h2 f y ps hf
  one := fun z f xs h => by
    have z : n = 0 := z
    subst z; rfl
  ar := fun f y ps hf => callN_ar dk n f y ps hf
  ar1 := fun f y ps hf => callN_ar dk (n - 1) f y ps hf
  glf := F0.glf
  con := F0.con
  cl := F0.cl
  mth := F0.mth
  blt := F0.blt
  xc := F0.xc
  xn := F0.xn
  xm := F0.xm
  xi := F0.xi
  gcd := F0.gcd
  kb := F0.kb
theorem fnEnv_ok {f : FD} {N : List Str} {φ : List Addr} {H : Hp} {xs : List D} {vs : List V} (hn : f.ns = N.length) (r : RVs L φ H xs vs) (hle : xs.length ≤ N.length) : RE L φ H (fnEnv f xs) (L2.start N vs) := by
  have hl := r.length
  refine ⟨by unfold fnEnv L2.start; simp [hn, hl], fun i d e => ?_⟩
  unfold fnEnv at e
  unfold L2.start
  by_cases c : i < xs.length
  · rw [List.getElem?_append_left (by simpa using c), List.getElem?_map] at e
    cases e1 : xs[i]? with
    | none => rw [e1] at e; cases e
    | some d' =>
      rw [e1] at e
      cases e
      obtain ⟨v, h1, h2⟩ := r.get e1
      refine ⟨v, ?_, h2⟩
      rw [List.getElem?_append_left (by simp; omega), List.getElem?_map, h1]; rfl
  · rw [List.getElem?_append_right (by simpa using c), List.getElem?_replicate] at e
    split at e <;> cases e
theorem lvl (F0 : Facts0 (lvS P w L mg base Q lim T fa fd 0)) (dk : DefsOk L Q T fa fd ds) : ∀ n, ∀ f y ps, T.fns[f]? = some (y, ps) → FnOk P w L.K mg base (L2.CX P w) n (fa f) (fd f) ps (spF L (callN Q lim n f) ps.length) := by
  intro n
  induction n using Nat.strongRecOn with
  | _ n ih =>
    intro f y ps hf
    cases n with
    | zero =>
      refine ⟨fun vs H Q E h => h.1, fun A outer s H args us vs Q E _ _ _ _ h => ?_⟩
      obtain ⟨_, φ, m, xs, _, _, z⟩ := h
      exact z.elim
    | succ n =>
      have F : Facts (lvS P w L mg base Q lim T fa fd n) := facts_at F0 dk (fun f y ps hf => ih n (Nat.lt_succ_self n) f y ps hf) (fun f y ps hf => ih (n - 1) (by omega) f y ps hf)
      have hl : f < ds.length := by rw [← dk.len]; exact (List.getElem?_eq_some_iff.mp hf).1
      obtain ⟨⟨y', e1⟩, e2, FU, b, m, hm, ck⟩ := dk.at_ f _ (List.getElem?_eq_getElem hl)
      rw [hf] at e1
      cases e1
      generalize ds[f] = d at *
      unfold ckDef at ck
      rw [Bool.and_eq_true] at ck
      obtain ⟨SC, clean, hns, hps⟩ := scQ_ok ck.1
      refine FU.okX SC (fun vs H Q E h => h.1) fun cdv A outer s H vs Qv E hr h => ?_
      obtain ⟨hlen, φ, mh, xs, rv, rh, z⟩ := h
      rw [callN_succ] at z
      unfold callB at z
      rw [e2] at z
      dsimp only at z
      have hxl : xs.length = d.fd.ps := by rw [hps, rv.length, hlen]
      rw [if_pos hxl] at z
      have pre : d.ps.length ≤ d.N.length := by
        have := congrArg List.length SC.pre
        rw [List.length_take] at this
        omega
      let X := cxOf (L2.CX P w) P w L.K mg base d.N d.qual (defScope d.st) (fa f) cdv A outer s H E
      have good : Good (lvS P w L mg base Q lim T fa fd n) (dTC d) X :=
        { prog := rfl, w := rfl, K := rfl, mg := rfl, base := rfl, N := rfl, nd := SC.nd, clean := clean, names := rfl, kind := SC.kind, fn := fun _ _ => rfl, calm := fun _ => ⟨rfl, hr⟩,
          un := by have := hr.un; show (A.deeper _).units + 100 < _; omega, po := fun _ => passes_of (X := X) rfl, top := fun _ => ⟨rfl, rfl⟩ }
      refine ⟨twS X (defBody d.st), pss_tw, ?_⟩
      have rq : RQ (lvS P w L mg base Q lim T fa fd n) (dTC d) X none φ H (fnEnv d.fd xs) (L2.start d.N vs) := rq_of rfl (fnEnv_ok hns rv (by rw [hxl, hps]; exact pre))
      have ss := (stmts_all F m hm).2 (dTC d) X (defBody d.st) d.fd.body good ck.2 none _ _ φ H mh rq rh
      have ss : SatS (lvS P w L mg base Q lim T fa fd n) (dTC d) X none φ H (evalSs (gcOf Q lim (callN Q lim n) (callN Q lim (n - 1))) none d.fd.body (fnEnv d.fd xs) mh) (fun D => twS X (defBody d.st) D (L2.start d.N vs) H) := ss
      cases er : evalSs (gcOf Q lim (callN Q lim n) (callN Q lim (n - 1))) none d.fd.body (fnEnv d.fd xs) mh with
      | none => rw [er] at z; exact z.elim
      | some u =>
        obtain ⟨so, m2⟩ := u
        rw [er] at z ss
        refine ss (fun z => by cases z) _ ?_
        cases so with
        | nx ρ => exact fun σ' φ' H' a b c => z _ φ' H' .non b c
        | rt dd => exact fun v φ' H' a b c => z v φ' H' a b c
        | bk ρ => exact z.elim
        | ct ρ => exact z.elim
        | xc x ρ => exact ⟨_, takes_of (X := X) (E₁ := fun e' s'' => L2.CX P w outer H s E e' s'') rfl rfl rfl rfl, fun cls dd σ' φ' H' a b c e => z cls dd φ' H' a c e⟩
end
/-- the fields' names: those of the text, then names that stand nowhere -/
def atL (l : List Str) (i : Nat) : Str := (l[i]?).getD ⟨(List.replicate (i + 100) 120).toArray⟩
theorem atL_inj {l : List Str} (hn : l.Nodup) (hl : l.all (fun x => decide (x.cps.size < 100)) = true) : ∀ f g, atL l f = atL l g → f = g := by
  intro f g e
  have sz : ∀ i (h : i < l.length), (l[i]).cps.size < 100 := fun i h => of_decide_eq_true (List.all_eq_true.mp hl _ (List.getElem_mem h))
  unfold atL at e
  by_cases hf : f < l.length
  · by_cases hg : g < l.length
    · rw [List.getElem?_eq_getElem hf, List.getElem?_eq_getElem hg] at e
      exact (List.getElem_inj hn).mp e
    · rw [List.getElem?_eq_getElem hf, List.getElem?_eq_none (by omega)] at e
      have := sz f hf
      have e : l[f] = (⟨(List.replicate (g + 100) 120).toArray⟩ : Str) := e
      rw [e] at this
      simp at this
      omega
  · by_cases hg : g < l.length
    · rw [List.getElem?_eq_getElem hg, List.getElem?_eq_none (by omega)] at e
      have := sz g hg
      have e : (⟨(List.replicate (f + 100) 120).toArray⟩ : Str) = l[g] := e
      rw [← e] at this
      simp at this
      omega
    · rw [List.getElem?_eq_none (by omega), List.getElem?_eq_none (by omega)] at e
      have := congrArg (fun s : Str => s.cps.size) e
      simp at this
      omega
end Mp
end
section
set_option Elab.async false
set_option linter.all false
set_option maxRecDepth 100000
set_option maxHeartbeats 4000000
/-! PyEnd: the end of a law. -/
namespace Mp
open PySem PySem.Spec PyProof.Rows L2

/-- two lists, item by item -/
inductive P2 {α β : Type} (R : α → β → Prop) : List α → List β → Prop
  | nil : P2 R [] []
  | cons {a : α} {b : β} {as : List α} {bs : List β} : R a b → P2 R as bs → P2 R (a :: as) (b :: bs)
theorem P2.get {α β : Type} {R : α → β → Prop} : ∀ {as : List α} {bs : List β} {i : Nat} {a : α}, P2 R as bs → as[i]? = some a → ∃ b, bs[i]? = some b ∧ R a b
  | _, _, _, _, .nil, e => by simp at e
  | _, _, 0, _, .cons h _, e => by simp at e; subst e; exact ⟨_, rfl, h⟩
  | _, _, i + 1, a, .cons _ t, e => by
    obtain ⟨b, h1, h2⟩ := P2.get (i := i) (a := a) t (by simpa using e)
    exact ⟨b, by simpa using h1, h2⟩
/-- a def as it stands -/
def DefAt (L : LC) (T : GT) (d : DefI) (p : Addr × FuncData) : Prop := Fun L.K d.nm d.qual d.st p.1 p.2 ∧ Binds L.K p.2 d.ps [] ∧ ∃ n, n ≤ 1000000 ∧ ckDef T n d = true
def faOf (ps : List (Addr × FuncData)) (i : Nat) : Addr := ((ps[i]?).map (·.1)).getD 0
def fdOf (z : FuncData) (ps : List (Addr × FuncData)) (i : Nat) : FuncData := ((ps[i]?).map (·.2)).getD z
theorem defsOk {L : LC} {Q : Prg} {T : GT} {ds : List DefI} {ps : List (Addr × FuncData)} {z : FuncData} (h : P2 (DefAt L T) ds ps) (h1 : T.fns.map (·.2) = ds.map (·.ps)) (h2 : Q.fns = ds.map (·.fd)) : DefsOk L Q T (faOf ps) (fdOf z ps) ds := by
  refine ⟨by have := congrArg List.length h1; simpa using this, fun f d e => ?_⟩
  obtain ⟨p, e1, a, b, c⟩ := h.get e
  have e2 : (T.fns.map (·.2))[f]? = some d.ps := by rw [h1, List.getElem?_map, e]; rfl
  rw [List.getElem?_map] at e2
  refine ⟨?_, by rw [h2, List.getElem?_map, e]; rfl, ?_, ?_, c⟩
  · cases e3 : T.fns[f]? with
    | none => rw [e3] at e2; cases e2
    | some q =>
      rw [e3] at e2
      have e2 : q.2 = d.ps := Option.some.inj e2
      exact ⟨q.1, by rw [← e2]⟩
  · unfold faOf fdOf; rw [e1]; exact a
  · unfold fdOf; rw [e1]; exact b
theorem lookB_mem {c d : Nat} {b : Bool} : ∀ {l : List (Nat × Nat × Bool)}, lookB c d l = some b → (c, d, b) ∈ l
  | [], e => by cases e
  | (x, y, f) :: r, e => by
    unfold lookB at e
    split at e
    · rename_i h
      cases e
      rw [Bool.and_eq_true] at h
      have h1 : x = c := by simpa using h.1
      have h2 : y = d := by simpa using h.2
      subst h1 h2
      exact List.mem_cons_self
    · exact List.mem_cons_of_mem _ (lookB_mem e)
theorem getD_of {α : Type} {l : List α} {i : Nat} {a z : α} (e : l[i]? = some a) : l.getD i z = a := by
  rw [List.getD_eq_getElem?_getD, e]; rfl
/-- what is known of a text, by its tables -/
theorem facts0_mk {P : Program} {w : World} {L : LC} {mg : Str → Option Value} {base : Heap} {Q : Prg} {lim : Nat} {T : GT} {ps : List (Addr × FuncData)} {z : FuncData} {at' : List Str} {xl : List Addr}
    (hT : T.attr = atL at') (hL : L.at_ = atL at') (hn : at'.Nodup) (hs : at'.all (fun x => decide (x.cps.size < 100)) = true) (hk : L.kts = Q.kts) (hx : L.xA = fun i => xl.getD i 0)
    (hfld : ∀ p ∈ Q.fld, Cls L.K (L.cA p.1) ∧ NoAttr L.K (L.cA p.1) (atL at' p.2))
    (hglf : P2 (fun (q : Str × List Str) (p : Addr × FuncData) => q.1 ≠ Str.empty → mg q.1 = some (.ref p.1) ∧ PySem.W.keepIn L.K (.ref p.1) = true ∧ q.1 ≠ "__debug__") T.fns ps)
    (hcon : P2 (fun (x : Str) (d : D) => x ≠ "__debug__" ∧ ∃ u v, mg x = some u ∧ RelV v u ∧ ∀ φ H, RV L φ H d v) T.consts Q.glob)
    (hcl : ∀ (c : Nat) (x : Str), T.cls[c]? = some x → x ≠ "__debug__" ∧ mg x = some (.ref (L.cA c)) ∧ ∀ f, look1 c Q.init = some f → Mk L.K (L.cA c) (faOf ps f) ∧ ∃ y qs, T.fns[f]? = some (y, qs))
    (hmth : ∀ c m f, look2 c m Q.mth = some f → Cls L.K (L.cA c) ∧ Meth L.K (L.cA c) (L.at_ m) (faOf ps f) ∧ ∃ y qs, T.fns[f]? = some (y, qs))
    (hblt : ∀ x ∈ bltNames, mg x = none)
    (hxc : P2 (fun (x : Str) (a : Addr) => (x ≠ "__debug__" ∧ mg x = some (.ref a) ∧ PySem.W.keepIn L.K (.ref a) = true ∧ ExcC L.K a ∧ PySem.W.typeIn L.K (.ref a) = some (.type "type"))) T.xcls xl)
    (hxn : P2 (fun (f : Str) (a : Addr) => f = Str.empty → ∃ B newId initId bmB, ExcBaseFacts B newId initId bmB ∧ PySem.W.excIn L.K a bmB newId = true) T.xfs xl)
    (hxm : ∀ p ∈ Q.sub, PySem.W.exmOne L.K (.ref (L.xA p.1)) (.ref (L.xA p.2.1)) = some p.2.2)
    (hxi : ∀ p ∈ Q.isa, ∀ x, T.isas[p.2.1]? = some x → ExcC L.K (L.xA p.1) ∧ x ≠ "__debug__" ∧ ∃ cv, PySem.W.kitOne L.K (.ref (L.xA p.1)) cv = some p.2.2 ∧ ((∃ C, cv = .ref C ∧ mg x = some cv) ∨ (∃ T : String, cv = .type T ∧ mg x = none ∧ bootBuiltins x = some cv ∧ x ≠ "__name__")))
    (hgcd : T.gcd = true → mg "gcd" = some (.builtin "math.gcd"))
    (hkb : ∀ e ∈ T.kwf, ∀ y qs, T.fns[e.1]? = some (y, qs) → ∀ (s : Shared) (us ws : List Value), L.K.In s.heap → us.length = e.2.1 → ws.length = e.2.2.1.length → ∃ bs, permL (us ++ ws) e.2.2.2 = some bs ∧ BindsTo s (fdOf z ps e.1) ⟨us, e.2.2.1.zip ws⟩ (qs.zip bs)) :
    Facts0 (lvS P w L mg base Q lim T (faOf ps) (fdOf z ps) 0) where
  cls := ⟨by show ∀ f g, L.at_ f = L.at_ g → f = g; rw [hL]; exact atL_inj hn hs, fun c f h => by
    have h : (Q.fld.any fun p => p.1 == c && p.2 == f) = true := h
    obtain ⟨p, hp, e⟩ := List.any_eq_true.mp h
    rw [Bool.and_eq_true] at e
    have e1 : p.1 = c := by simpa using e.1
    have e2 : p.2 = f := by simpa using e.2
    subst e1 e2
    show Cls L.K _ ∧ NoAttr L.K _ (L.at_ _)
    rw [hL]
    exact hfld p hp⟩
  attr := hT.trans hL.symm
  kts := hk.symm
  glf := fun f y qs hf hy => by
    obtain ⟨p, e, h⟩ := hglf.get (show T.fns[f]? = some (y, qs) from hf)
    show mg y = some (.ref (faOf ps f)) ∧ PySem.W.keepIn L.K (.ref (faOf ps f)) = true ∧ y ≠ "__debug__"
    unfold faOf
    rw [e]
    exact h hy
  con := fun g x hx => by
    obtain ⟨d, e, h1, u, v, h2, h3, h4⟩ := hcon.get (show T.consts[g]? = some x from hx)
    exact ⟨h1, u, d, v, h2, e, h3, h4⟩
  cl := hcl
  mth := hmth
  blt := hblt
  xc := fun c x h => by
    obtain ⟨a, e, r⟩ := hxc.get (show T.xcls[c]? = some x from h)
    have e2 : L.xA c = a := by rw [hx]; exact getD_of e
    show x ≠ "__debug__" ∧ mg x = some (.ref (L.xA c)) ∧ PySem.W.keepIn L.K (.ref (L.xA c)) = true ∧ ExcC L.K (L.xA c) ∧ PySem.W.typeIn L.K (.ref (L.xA c)) = some (.type "type")
    rw [e2]; exact r
  xn := fun c x _ h => by
    obtain ⟨a, e, r⟩ := hxn.get (show T.xfs[c]? = some Str.empty from h)
    have e2 : L.xA c = a := by rw [hx]; exact getD_of e
    show ∃ B newId initId bmB, ExcBaseFacts B newId initId bmB ∧ PySem.W.excIn L.K (L.xA c) bmB newId = true
    rw [e2]; exact r rfl
  xm := fun c d b h => hxm (c, d, b) (lookB_mem h)
  xi := fun c k b x h hx => hxi (c, k, b) (lookB_mem h) x hx
  gcd := hgcd
  kb := fun f np ks p h y qs hf => hkb (f, np, ks, p) h y qs hf
def spLawK (K : PySem.W.Frag) : Sp := fun vs H Q _ => ∃ (a : Addr) (ns : List Int), vs = [.ref a] ∧ FzL K H a (ns.map V.int) ∧ ns.length ≤ 63 ∧ (∀ z ∈ ns, Builtin.Int.intBits z ≤ 1048576) ∧ ∀ H', Q (.bl true) H'
theorem law_fn {P : Program} {w : World} {L : LC} {mg : Str → Option Value} {base : Heap} {Q : Prg} {lim n idx : Nat} {T : GT} {fa : Nat → Addr} {fd : Nat → FuncData} {ds : List DefI} {y : Str}
    (F0 : Facts0 (lvS P w L mg base Q lim T fa fd 0)) (dk : DefsOk L Q T fa fd ds) (hf : T.fns[idx]? = some (y, (["script"] : List Str)))
    (law : ∀ ns : List Int, ns.length ≤ 63 → (∀ z ∈ ns, Builtin.Int.intBits z ≤ 1048576) → ∃ m', callN Q lim n idx [.fz (ns.map .int)] ⟨0, []⟩ = .ok (.bl true) m') :
    FnOk P w L.K mg base (L2.CX P w) n (fa idx) (fd idx) ["script"] (spLawK L.K) := by
  refine (lvl F0 dk n idx y _ hf).imp fun vs H Qv E h => ?_
  obtain ⟨a, ns, rfl, hz, hl, hb, q⟩ := h
  obtain ⟨m', e⟩ := law ns hl hb
  refine ⟨rfl, [], ⟨0, []⟩, [.fz (ns.map .int)], .cons (.fz hz (RVs.ofInts ns)) .nil, ⟨rfl, .nil, fun r a e => by simp at e⟩, ?_⟩
  rw [e]
  intro v φ' H' rv _ _
  cases rv
  exact q H'
theorem end_walk {l : PySem.W.OpenLaw} {n : Nat} {q : Program} {loose : List Str} {XP : (Str → Option Value) → Heap → Prop} {YP : World → Heap → Prop} {d : DefRec} {K : Params → PySem.W.Frag}
    (hn : l.most = some 63) (hdf : d.params.defaults = []) (hr : Room n callerA) (hY : ∀ (w : World) (h : Heap), YP w h → (K w.params).In h)
    (F : ∀ (w : World) (mg : Str → Option Value) (fa : Addr) (h : Heap), (K w.params).In h → h.Ns mainGlobals mg → mg d.name = some (.ref fa) →
      ∃ fd : FuncData, (∀ (s : Shared) (u : Value), BindsTo s fd ⟨[u], []⟩ [("script", u)]) ∧ ∀ base : Heap, (K w.params).In base → base.Ns mainGlobals mg → FnOk l.prog w (K w.params) mg base (L2.CX l.prog w) n fa fd ["script"] (spLawK (K w.params))) :
    PySem.W.WalkO q loose XP YP l.row.toRowW d [] (fun f vs => PySem.call f vs) :=
  L2.walk_ofB (n := 63) (k := n) (x := "script") (CX := fun w => L2.CX l.prog w) (sp := fun w => spLawK (K w.params)) hn (by decide) hdf hr hY F
    (fun w H a ns hl hb hO hS => ⟨a, ns, rfl, by
      rcases hS with (hS | hS) | hS
      · rcases hO a with z | ⟨o, xs, z⟩
        · rw [z] at hS; cases hS
        · rw [z] at hS; cases hS
      · exact .inl hS
      · exact .inr hS, hl, hb, fun _ => rfl⟩)
    fun w H s e s' ⟨_, _, _, _, _, _, _, _, _, _, _, _, z⟩ => z
end Mp
end
section
set_option Elab.async false
set_option linter.all false
set_option maxRecDepth 1000000
set_option maxHeartbeats 4000000
namespace K53
open PySem PySem.Spec PyProof.Rows L2 Mp
/-! the terms of law_k53_whole_fractions_beside_own_products -/
def top (i : Nat) : Stmt := PySem.Challenge.pw_lotsinturn_k53_whole_fractions_beside_ow.main.body.getD i (.Pass ⟨0, 0, 0, 0⟩)
def b0 : List MS := [.ret (.and (.isi (.var 0) [.int]) (.not (.isi (.var 0) [.bool])))]
def d0 : DefI := ⟨"is_number", "is_number", top 2, ["thing"], ["thing"], ⟨1, 1, b0⟩⟩
def b1 : List MS := [.ife (.isi (.var 0) [.list, .tuple]) [.ret (.bf .tuple [.lc (.call 1 [.var 1] []) (.nm 1) (.seq (.var 0)) [] [1]])] [], .ret (.var 0)]
def d1 : DefI := ⟨"tuple_of", "tuple_of", top 3, ["thing", "part"], ["thing"], ⟨1, 2, b1⟩⟩
def b2 : List MS := [.ret (.and (.isi (.var 0) [.tuple]) (.cmp .eq (.bf .len [.var 0]) (.var 1)))]
def d2 : DefI := ⟨"is_tuple_of", "is_tuple_of", top 4, ["thing", "many"], ["thing", "many"], ⟨2, 2, b2⟩⟩
def b3 : List MS := [.asg (.nm 2) (.bf .gcd [.var 0, .var 1]), .ife (.cmp .lt (.var 1) (.lit (.int 0))) [.asg (.nm 2) (.neg (.var 2))] [], .ret (.tup [.bin .fdiv (.var 0) (.var 2), .bin .fdiv (.var 1) (.var 2)])]
def d3 : DefI := ⟨"lowest", "lowest", top 9, ["top", "below", "common"], ["top", "below"], ⟨2, 3, b3⟩⟩
def b4 : List MS := [.ife (.cmp .eq (.var 1) (.lit (.int 0))) [.raise 0 []] [], .ret (.call 3 [.var 0, .var 1] [])]
def d4 : DefI := ⟨"fraction", "fraction", top 10, ["top", "below"], ["top", "below"], ⟨2, 2, b4⟩⟩
def b5 : List MS := [.ife (.or (.not (.call 2 [.var 0, .lit (.int 2)] [])) (.or (.not (.call 0 [.ix (.var 0) (.lit (.int 0))] [])) (.not (.call 0 [.ix (.var 0) (.lit (.int 1))] [])))) [.ret (.lit (.bl false))] [], .ret (.and (.cmp .gt (.ix (.var 0) (.lit (.int 1))) (.lit (.int 0))) (.cmp .eq (.bf .gcd [.ix (.var 0) (.lit (.int 0)), .ix (.var 0) (.lit (.int 1))]) (.lit (.int 1))))]
def d5 : DefI := ⟨"is_fraction", "is_fraction", top 11, ["thing"], ["thing"], ⟨1, 1, b5⟩⟩
def b6 : List MS := [.ret (.call 3 [.bin .add (.bin .mul (.ix (.var 0) (.lit (.int 0))) (.ix (.var 1) (.lit (.int 1)))) (.bin .mul (.ix (.var 1) (.lit (.int 0))) (.ix (.var 0) (.lit (.int 1)))), .bin .mul (.ix (.var 0) (.lit (.int 1))) (.ix (.var 1) (.lit (.int 1)))] [])]
def d6 : DefI := ⟨"plus", "plus", top 12, ["x", "y"], ["x", "y"], ⟨2, 2, b6⟩⟩
def b7 : List MS := [.ret (.call 3 [.bin .sub (.bin .mul (.ix (.var 0) (.lit (.int 0))) (.ix (.var 1) (.lit (.int 1)))) (.bin .mul (.ix (.var 1) (.lit (.int 0))) (.ix (.var 0) (.lit (.int 1)))), .bin .mul (.ix (.var 0) (.lit (.int 1))) (.ix (.var 1) (.lit (.int 1)))] [])]
def d7 : DefI := ⟨"minus", "minus", top 13, ["x", "y"], ["x", "y"], ⟨2, 2, b7⟩⟩
def b8 : List MS := [.ret (.call 3 [.bin .mul (.ix (.var 0) (.lit (.int 0))) (.ix (.var 1) (.lit (.int 0))), .bin .mul (.ix (.var 0) (.lit (.int 1))) (.ix (.var 1) (.lit (.int 1)))] [])]
def d8 : DefI := ⟨"times", "times", top 14, ["x", "y"], ["x", "y"], ⟨2, 2, b8⟩⟩
def b9 : List MS := [.ife (.cmp .eq (.ix (.var 1) (.lit (.int 0))) (.lit (.int 0))) [.raise 0 []] [], .ret (.call 3 [.bin .mul (.ix (.var 0) (.lit (.int 0))) (.ix (.var 1) (.lit (.int 1))), .bin .mul (.ix (.var 0) (.lit (.int 1))) (.ix (.var 1) (.lit (.int 0)))] [])]
def d9 : DefI := ⟨"over", "over", top 15, ["x", "y"], ["x", "y"], ⟨2, 2, b9⟩⟩
def b10 : List MS := [.ret (.cmp .lt (.bin .mul (.ix (.var 0) (.lit (.int 0))) (.ix (.var 1) (.lit (.int 1)))) (.bin .mul (.ix (.var 1) (.lit (.int 0))) (.ix (.var 0) (.lit (.int 1)))))]
def d10 : DefI := ⟨"less", "less", top 16, ["x", "y"], ["x", "y"], ⟨2, 2, b10⟩⟩
def b11 : List MS := [.asg (.nm 1) (.lit .non), .forr (.nm 2) (.seq (.call 1 [.var 0] [])) [.ife (.or (.isN (.var 1)) (.call 10 [.var 2, .var 1] [])) [.asg (.nm 1) (.var 2)] []], .ret (.var 1)]
def d11 : DefI := ⟨"least", "least", top 17, ["some", "found", "x"], ["some"], ⟨1, 3, b11⟩⟩
def b12 : List MS := [.asg (.nm 1) (.lit .non), .forr (.nm 2) (.seq (.call 1 [.var 0] [])) [.ife (.or (.isN (.var 1)) (.call 10 [.var 1, .var 2] [])) [.asg (.nm 1) (.var 2)] []], .ret (.var 1)]
def d12 : DefI := ⟨"greatest", "greatest", top 18, ["some", "found", "x"], ["some"], ⟨1, 3, b12⟩⟩
def b13 : List MS := [.asg (.nm 1) (.glob 0), .forr (.nm 2) (.seq (.call 1 [.var 0] [])) [.asg (.nm 1) (.call 6 [.var 1, .var 2] [])], .ret (.var 1)]
def d13 : DefI := ⟨"sum_of", "sum_of", top 19, ["some", "found", "x"], ["some"], ⟨1, 3, b13⟩⟩
def b14 : List MS := [.asg (.nm 2) (.ite (.cmp .lt (.var 1) (.bf .len [.var 0])) (.ix (.var 0) (.var 1)) (.lit (.int 0))), .ret (.lst [.bin .mul (.bf .abs [.var 2]) (.bf .int [.cmp .ge (.bf .abs [.var 2]) (.bin .pow (.lit (.int 10)) (.lit (.int 18)))]), .bin .add (.bin .add (.bin .mod (.bf .int [.var 2]) (.lit (.int 2305843009213693951))) (.bin .mul (.lit (.int 39373)) (.var 1))) (.lit (.int 2325001)), .lit (.int 0)])]
def d14 : DefI := ⟨"_law_box", "_law_box", top 21, ["script", "k", "cell"], ["script", "k"], ⟨2, 3, b14⟩⟩
def b15 : List MS := [.ife (.cmp .gt (.ix (.var 0) (.lit (.int 0))) (.lit (.int 0))) [.asg (.nm 5) (.bin .mod (.bf .int [.ix (.var 0) (.lit (.int 0))]) (.var 1)), .asg (.sub (.var 0) (.lit (.int 0))) (.bin .fdiv (.ix (.var 0) (.lit (.int 0))) (.var 1)), .ret (.var 5)] [], .asg (.sub (.var 0) (.lit (.int 2))) (.bin .add (.ix (.var 0) (.lit (.int 2))) (.lit (.int 1))), .asg (.nm 2) (.bin .mod (.bf .int [.bin .mul (.bin .add (.ix (.var 0) (.lit (.int 1))) (.bin .mul (.lit (.int 48271)) (.ix (.var 0) (.lit (.int 2))))) (.bin .add (.lit (.int 39373)) (.ix (.var 0) (.lit (.int 2))))]) (.lit (.int 2147483647))), .asg (.nm 3) (.bin .add (.bin .mod (.bf .int [.var 2]) (.lit (.int 40009))) (.lit (.int 7))), .asg (.nm 4) (.bin .mod (.bf .int [.bin .mul (.bin .add (.bin .add (.var 2) (.ix (.var 0) (.lit (.int 2)))) (.bin .fdiv (.ix (.var 0) (.lit (.int 1))) (.lit (.int 1000003)))) (.var 3)]) (.lit (.int 2147483629))), .ret (.bin .mod (.bf .int [.bin .fdiv (.bin .mod (.bf .int [.bin .add (.bin .mul (.var 4) (.lit (.int 48271))) (.var 2)]) (.lit (.int 2147483587))) (.lit (.int 64))]) (.var 1))]
def d15 : DefI := ⟨"_law_take", "_law_take", top 22, ["urn", "below", "once", "far", "twice", "drawn"], ["urn", "below"], ⟨2, 6, b15⟩⟩
def b16 : List MS := [.asg (.nm 2) (.or (.bf .list [.sl (.var 0) none (some (.var 1))]) (.lst [.lit (.int 0)])), .forr (.tup [.nm 3, .nm 4]) (.enum (.sl (.var 0) (some (.var 1)) (some (.lit (.int 63))))) [.asg (.nm 5) (.bin .mod (.bf .int [.var 3]) (.var 1)), .asg (.sub (.var 2) (.var 5)) (.bin .add (.ix (.var 2) (.var 5)) (.bin .mul (.var 4) (.bin .add (.var 3) (.lit (.int 2)))))], .ret (.var 2)]
def d16 : DefI := ⟨"_law_cells", "_law_cells", top 23, ["script", "many", "cells", "k", "cell", "at"], ["script", "many"], ⟨2, 6, b16⟩⟩
def b17 : List MS := [.ret (.ite (.isi (.var 0) [.list, .tuple]) (.lc (.call 17 [.var 1] []) (.nm 1) (.seq (.var 0)) [] [1]) (.var 0))]
def d17 : DefI := ⟨"_law_lists", "_law_lists", top 24, ["matter", "own"], ["matter"], ⟨1, 2, b17⟩⟩
def b18 : List MS := [.ife (.isi (.var 1) [.list, .tuple]) [.ife (.or (.cmp .ne (.isi (.var 0) [.list]) (.isi (.var 1) [.list])) (.cmp .ne (.isi (.var 0) [.tuple]) (.isi (.var 1) [.tuple]))) [.ret (.lit (.bl false))] [], .ret (.and (.cmp .eq (.bf .len [.var 0]) (.bf .len [.var 1])) (.bf .all [.lc (.call 18 [.var 2, .var 3] []) (.tup [.nm 2, .nm 3]) (.zip (.var 0) (.var 1)) [] [2, 3]]))] [], .ife (.or (.isN (.var 1)) (.isi (.var 1) [.bool, .str])) [.ret (.and (.cmp .eq (.var 0) (.var 1)) (.and (.cmp .eq (.isi (.var 0) [.bool]) (.isi (.var 1) [.bool])) (.cmp .eq (.isN (.var 0)) (.isN (.var 1)))))] [], .ret (.and (.isi (.var 0) [.int]) (.and (.not (.isi (.var 0) [.bool])) (.cmp .eq (.var 0) (.var 1))))]
def d18 : DefI := ⟨"_law_same", "_law_same", top 25, ["got", "due", "mine", "own"], ["got", "due"], ⟨2, 4, b18⟩⟩
def b19 : List MS := [.asg (.tup [.nm 3, .nm 4]) (.tup [.bf .abs [.var 0], .bf .abs [.var 1]]), .whl (.cmp .ne (.var 4) (.lit (.int 0))) [.asg (.tup [.nm 3, .nm 4]) (.tup [.var 4, .bin .mod (.var 3) (.var 4)])], .asg (.nm 2) (.ite (.cmp .lt (.var 1) (.lit (.int 0))) (.neg (.var 3)) (.var 3)), .ret (.tup [.bin .fdiv (.var 0) (.var 2), .bin .fdiv (.var 1) (.var 2)])]
def d19 : DefI := ⟨"_law_low", "_law_low", top 26, ["top", "below", "turn", "near", "far"], ["top", "below"], ⟨2, 5, b19⟩⟩
def b20 : List MS := [.asg (.nm 1) (.ix (.tup [.lit (.int 9), .lit (.int 9), .lit (.int 9), .lit (.int 60), .bin .pow (.lit (.int 10)) (.lit (.int 30))]) (.call 15 [.var 0, .lit (.int 5)] [])), .asg (.nm 2) (.bin .add (.lit (.int 1)) (.call 15 [.var 0, .var 1] [])), .ret (.bin .mul (.var 2) (.ix (.tup [.lit (.int 6), .neg (.lit (.int 6)), .lit (.int 1), .neg (.lit (.int 1)), .lit (.int 4)]) (.call 15 [.var 0, .lit (.int 5)] [])))]
def d20 : DefI := ⟨"_law_number", "_law_number", top 27, ["urn", "size", "own"], ["urn"], ⟨1, 3, b20⟩⟩
def b21 : List MS := [.asg (.nm 1) (.ite (.cmp .ne (.call 15 [.var 0, .lit (.int 6)] []) (.lit (.int 0))) (.call 20 [.var 0] []) (.lit (.int 0))), .ret (.tup [.var 1, .call 20 [.var 0] []])]
def d21 : DefI := ⟨"_law_drawn", "_law_drawn", top 28, ["urn", "top"], ["urn"], ⟨1, 2, b21⟩⟩
def b22 : List MS := [.asg (.tup [.nm 5, .nm 6]) (.tup [.call 19 [.ix (.var 0) (.lit (.int 0)), .ix (.var 0) (.lit (.int 1))] [], .call 19 [.ix (.var 1) (.lit (.int 0)), .ix (.var 1) (.lit (.int 1))] []]), .asg (.tup [.tup [.nm 7, .nm 8], .tup [.nm 9, .nm 10]]) (.tup [.var 5, .var 6]), .asg (.nm 2) (.lst [.call 4 [.ix (.var 0) (.lit (.int 0)), .ix (.var 0) (.lit (.int 1))] [], .call 4 [.ix (.var 1) (.lit (.int 0)), .ix (.var 1) (.lit (.int 1))] [0, 1], .call 6 [.var 5, .var 6] [], .call 7 [.var 5, .var 6] [0, 1], .call 8 [.lst [.var 7, .var 8], .lst [.var 9, .var 10]] [], .call 10 [.var 5, .var 6] [], .call 10 [.var 6, .var 5] [], .call 10 [.var 5, .var 5] []]), .asg (.nm 3) (.lst [.var 5, .var 6, .call 19 [.bin .add (.bin .mul (.var 7) (.var 10)) (.bin .mul (.var 9) (.var 8)), .bin .mul (.var 8) (.var 10)] [], .call 19 [.bin .sub (.bin .mul (.var 7) (.var 10)) (.bin .mul (.var 9) (.var 8)), .bin .mul (.var 8) (.var 10)] [], .call 19 [.bin .mul (.var 7) (.var 9), .bin .mul (.var 8) (.var 10)] [], .cmp .lt (.bin .mul (.var 7) (.var 10)) (.bin .mul (.var 9) (.var 8)), .cmp .lt (.bin .mul (.var 9) (.var 8)) (.bin .mul (.var 7) (.var 10)), .lit (.bl false)]), .try_ [.expr (.bm .append (.var 2) [.lst [.lit (.str [116, 111, 108, 100]), .call 9 [.var 5, .var 6] [0, 1]]])] [.mk 0 (some 4) [.expr (.bm .append (.var 2) [.lst [.lit (.str [114, 97, 105, 115, 101, 100]), .cis [0]]])]], .expr (.bm .append (.var 3) [.ite (.cmp .ne (.var 9) (.lit (.int 0))) (.lst [.lit (.str [116, 111, 108, 100]), .call 19 [.bin .mul (.var 7) (.var 10), .bin .mul (.var 8) (.var 9)] []]) (.lst [.lit (.str [114, 97, 105, 115, 101, 100]), .lit (.bl true)])]), .ret (.call 18 [.var 2, .var 3] [])]
def d22 : DefI := ⟨"_law_two_right", "_law_two_right", top 29, ["one", "two", "got", "due", "caught", "x", "y", "a", "b", "c", "d"], ["one", "two"], ⟨2, 11, b22⟩⟩
def b23 : List MS := [.asg (.nm 1) (.lit (.int 1)), .forr (.tup [.nm 6, .nm 7]) (.seq (.var 0)) [.asg (.nm 1) (.bin .mul (.var 1) (.var 7))], .asg (.nm 2) (.lc (.bin .mul (.var 6) (.bin .fdiv (.var 1) (.var 7))) (.tup [.nm 6, .nm 7]) (.seq (.var 0)) [] [6, 7]), .asg (.nm 3) (.lst [.lit .non, .lit .non, .tup [.lit (.int 0), .lit (.int 1)]]), .ife (.cmp .ne (.var 0) (.lst [])) [.asg (.nm 3) (.lst [.call 19 [.bf .min [.var 2], .var 1] [], .call 19 [.bf .max [.var 2], .var 1] [], .call 19 [.bf .sum [.var 2], .var 1] []])] [], .asg (.nm 4) (.bf .tuple [.var 0]), .asg (.nm 5) (.lst [.call 11 [.var 4] [], .call 12 [.var 4] [0], .call 13 [.call 17 [.var 4] []] []]), .ret (.and (.call 18 [.var 5, .var 3] []) (.call 18 [.lst [.var 4, .call 11 [.call 17 [.var 4] []] [], .call 12 [.bf .list [.var 4]] []], .bin .add (.lst [.bf .tuple [.var 0]]) (.sl (.var 3) none (some (.lit (.int 2))))] []))]
def d23 : DefI := ⟨"_law_many_right", "_law_many_right", top 30, ["some", "common", "tops", "due", "kept", "got", "top", "below"], ["some"], ⟨1, 8, b23⟩⟩
def b24 : List MS := [.forr (.tup [.nm 2, .nm 3]) (.seq (.tup [.tup [.lit (.int 1), .lit (.int 0)], .tup [.lit (.int 0), .lit (.int 0)], .tup [.neg (.lit (.int 3)), .lit (.int 0)]])) [.try_ [.expr (.call 4 [.var 2, .var 3] []), .ret (.lit (.bl false))] [.mk 0 none [.pass]]], .asg (.nm 0) (.lst [.tup [.lit (.int 2), .lit (.int 4)], .tup [.lit (.int 1), .neg (.lit (.int 2))], .tup [.lit (.int 0), .lit (.int 2)], .tup [.lit (.int 1), .lit (.int 0)], .tup [.lit (.bl true), .lit (.int 1)], .tup [.lit (.int 1), .lit (.bl true)], .lst [.lit (.int 1), .lit (.int 2)], .tup [.lit (.int 1)], .tup [.lit (.int 1), .lit (.int 2), .lit (.int 1)], .tup [.lit (.int 1), .lit (.str [50])], .lit (.str [49, 47, 50]), .lit .non, .lit (.int 1), .tup [.tup [.lit (.int 1), .lit (.int 1)], .lit (.int 2)]]), .asg (.nm 1) (.lst [.tup [.lit (.int 0), .lit (.int 1)], .tup [.neg (.lit (.int 3)), .lit (.int 2)], .tup [.bin .add (.bin .pow (.lit (.int 10)) (.lit (.int 40))) (.lit (.int 1)), .bin .pow (.lit (.int 10)) (.lit (.int 40))], .tup [.lit (.int 5), .lit (.int 1)]]), .ret (.call 18 [.lc (.call 5 [.var 4] []) (.nm 4) (.seq (.bin .add (.var 0) (.var 1))) [] [4], .bin .add (.bin .mul (.lst [.lit (.bl false)]) (.bf .len [.var 0])) (.bin .mul (.lst [.lit (.bl true)]) (.bf .len [.var 1]))] [])]
def d24 : DefI := ⟨"_law_refused", "_law_refused", top 31, ["bad", "good", "top", "below", "own"], [], ⟨0, 5, b24⟩⟩
def b25 : List MS := [.asg (.nm 1) (.call 16 [.var 0, .lit (.int 3)] []), .forr (.nm 2) (.range1 (.bf .len [.var 1])) [.asg (.nm 3) (.call 14 [.var 1, .var 2] []), .asg (.nm 4) (.lc (.call 21 [.var 3] []) (.nm 8) (.range1 (.bin .add (.lit (.int 2)) (.call 15 [.var 3, .lit (.int 7)] []))) [] [8]), .forr (.tup [.nm 6, .nm 7]) (.zip (.var 4) (.sl (.var 4) (some (.lit (.int 1))) none)) [.ife (.not (.call 22 [.var 6, .var 7] [])) [.ret (.lit (.bl false))] []], .asg (.nm 5) (.sl (.lc (.call 19 [.var 9, .var 10] []) (.tup [.nm 9, .nm 10]) (.seq (.var 4)) [] [9, 10]) none (some (.call 15 [.var 3, .lit (.int 9)] []))), .ife (.or (.not (.call 23 [.var 5] [])) (.not (.call 23 [.bin .add (.var 5) (.sl (.var 5) none (some (.lit (.int 2))))] []))) [.ret (.lit (.bl false))] []], .ret (.and (.call 24 [] []) (.and (.call 23 [.lst []] []) (.call 22 [.tup [.lit (.int 3), .lit (.int 6)], .tup [.lit (.int 0), .neg (.lit (.int 5))]] [])))]
def d25 : DefI := ⟨"law", "law", top 32, ["script", "cells", "k", "urn", "told", "some", "one", "two", "lap", "top", "below"], ["script"], ⟨1, 11, b25⟩⟩
def ds : List DefI := [d0, d1, d2, d3, d4, d5, d6, d7, d8, d9, d10, d11, d12, d13, d14, d15, d16, d17, d18, d19, d20, d21, d22, d23, d24, d25]
def attrL : List Str := []
def T : GT := ⟨[("is_number", ["thing"]), ("tuple_of", ["thing"]), ("is_tuple_of", ["thing", "many"]), ("lowest", ["top", "below"]), ("fraction", ["top", "below"]), ("is_fraction", ["thing"]), ("plus", ["x", "y"]), ("minus", ["x", "y"]), ("times", ["x", "y"]), ("over", ["x", "y"]), ("less", ["x", "y"]), ("least", ["some"]), ("greatest", ["some"]), ("sum_of", ["some"]), ("_law_box", ["script", "k"]), ("_law_take", ["urn", "below"]), ("_law_cells", ["script", "many"]), ("_law_lists", ["matter"]), ("_law_same", ["got", "due"]), ("_law_low", ["top", "below"]), ("_law_number", ["urn"]), ("_law_drawn", ["urn"]), ("_law_two_right", ["one", "two"]), ("_law_many_right", ["some"]), ("_law_refused", []), ("law", ["script"])], [], ["NOTHING"], atL attrL, true, ["CanNot"], ["ValueError"], [Str.empty], [(4, 0, ["top", "below"], [0, 1]), (7, 0, ["x", "y"], [0, 1]), (9, 0, ["x", "y"], [0, 1]), (12, 0, ["some"], [0])]⟩
def Q : Prg := ⟨[d0.fd, d1.fd, d2.fd, d3.fd, d4.fd, d5.fd, d6.fd, d7.fd, d8.fd, d9.fd, d10.fd, d11.fd, d12.fd, d13.fd, d14.fd, d15.fd, d16.fd, d17.fd, d18.fd, d19.fd, d20.fd, d21.fd, d22.fd, d23.fd, d24.fd, d25.fd], [], [], [], [(.tup [(.int 0), (.int 1)])], [(.tup [(.int 0), (.int 1)])], [(0, 0, true)], [(0, 0, true)]⟩
theorem ck0 : ckDef T 60 d0 = true := by decide +kernel
theorem ck1 : ckDef T 60 d1 = true := by decide +kernel
theorem ck2 : ckDef T 60 d2 = true := by decide +kernel
theorem ck3 : ckDef T 60 d3 = true := by decide +kernel
theorem ck4 : ckDef T 60 d4 = true := by decide +kernel
theorem ck5 : ckDef T 60 d5 = true := by decide +kernel
theorem ck6 : ckDef T 60 d6 = true := by decide +kernel
theorem ck7 : ckDef T 60 d7 = true := by decide +kernel
theorem ck8 : ckDef T 60 d8 = true := by decide +kernel
theorem ck9 : ckDef T 60 d9 = true := by decide +kernel
theorem ck10 : ckDef T 60 d10 = true := by decide +kernel
theorem ck11 : ckDef T 60 d11 = true := by decide +kernel
theorem ck12 : ckDef T 60 d12 = true := by decide +kernel
theorem ck13 : ckDef T 60 d13 = true := by decide +kernel
theorem ck14 : ckDef T 60 d14 = true := by decide +kernel
theorem ck15 : ckDef T 60 d15 = true := by decide +kernel
theorem ck16 : ckDef T 60 d16 = true := by decide +kernel
theorem ck17 : ckDef T 60 d17 = true := by decide +kernel
theorem ck18 : ckDef T 60 d18 = true := by decide +kernel
theorem ck19 : ckDef T 60 d19 = true := by decide +kernel
theorem ck20 : ckDef T 60 d20 = true := by decide +kernel
theorem ck21 : ckDef T 60 d21 = true := by decide +kernel
theorem ck22 : ckDef T 60 d22 = true := by decide +kernel
theorem ck23 : ckDef T 60 d23 = true := by decide +kernel
theorem ck24 : ckDef T 60 d24 = true := by decide +kernel
theorem ck25 : ckDef T 60 d25 = true := by decide +kernel
end K53
end
section
set_option Elab.async false
set_option linter.all false
set_option maxRecDepth 1000000
set_option maxHeartbeats 4000000
/-! K53L: what the defs of k53 answer, by the evaluator. -/
namespace K53
open PySem PySem.Spec PyProof.Rows L2 Mp
theorem cN {lim n f : Nat} {xs : List D} {h : MH} : callN Q lim (n + 1) f xs h = callB Q lim (callN Q lim n) (callN Q lim (n - 1)) f xs h := by
  rw [callN_succ]
theorem u0 : Q.fns[0]? = some d0.fd := rfl
theorem u1 : Q.fns[1]? = some d1.fd := rfl
theorem u2 : Q.fns[2]? = some d2.fd := rfl
theorem u3 : Q.fns[3]? = some d3.fd := rfl
theorem u4 : Q.fns[4]? = some d4.fd := rfl
theorem u5 : Q.fns[5]? = some d5.fd := rfl
theorem u6 : Q.fns[6]? = some d6.fd := rfl
theorem u7 : Q.fns[7]? = some d7.fd := rfl
theorem u8 : Q.fns[8]? = some d8.fd := rfl
theorem u9 : Q.fns[9]? = some d9.fd := rfl
theorem u10 : Q.fns[10]? = some d10.fd := rfl
theorem u11 : Q.fns[11]? = some d11.fd := rfl
theorem u12 : Q.fns[12]? = some d12.fd := rfl
theorem u13 : Q.fns[13]? = some d13.fd := rfl
theorem u14 : Q.fns[14]? = some d14.fd := rfl
theorem u15 : Q.fns[15]? = some d15.fd := rfl
theorem u16 : Q.fns[16]? = some d16.fd := rfl
theorem u17 : Q.fns[17]? = some d17.fd := rfl
theorem u18 : Q.fns[18]? = some d18.fd := rfl
theorem u19 : Q.fns[19]? = some d19.fd := rfl
theorem u20 : Q.fns[20]? = some d20.fd := rfl
theorem u21 : Q.fns[21]? = some d21.fd := rfl
theorem u22 : Q.fns[22]? = some d22.fd := rfl
theorem u23 : Q.fns[23]? = some d23.fd := rfl
theorem u24 : Q.fns[24]? = some d24.fd := rfl
theorem u25 : Q.fns[25]? = some d25.fd := rfl
/-! ### the package's fractions -/
def lowC (t b : Int) : Int := if b < 0 then -(Int.gcd t b : Int) else (Int.gcd t b : Int)
theorem lowC_ne {t b : Int} (h : b ≠ 0) : lowC t b ≠ 0 := by
  have : Int.gcd t b ≠ 0 := fun z => h (Int.gcd_eq_zero_iff.mp z).2
  unfold lowC
  split <;> omega
def lowT (t b : Int) : D := .tup [.int (t.fdiv (lowC t b)), .int (b.fdiv (lowC t b))]
theorem r_lowest {lim n : Nat} {t b : Int} {h : MH} (hb : b ≠ 0) (hl : (lowC t b).natAbs.log2 < 9000) : callN Q lim (n + 1) 3 [.int t, .int b] h = .ok (lowT t b) h := by
  have hne := lowC_ne (t := t) hb
  rw [cN]
  unfold lowT
  by_cases c : b < 0
  · have e : lowC t b = -(Int.gcd t b : Int) := by unfold lowC; rw [if_pos c]
    rw [e] at hl hne ⊢
    have e1 : ¬ (-(Int.gcd t b : Int)) = 0 := hne
    have e2 : (-(Int.gcd t b : Int)).natAbs.log2 < 9000 := hl
    simp only [callB, u3, d3, b3, evalSs, evalS, evalE, evalEs, evalT, fnEnv, sOf, sThen, fnEnd, bfD, Rs.bind, Rs.opt, tstB, Mp.truthy, asgT, cmpD, binop, bopI, List.getElem?_cons_zero, List.getElem?_cons_succ, List.length_cons, List.length_nil, List.map_cons, List.map_nil, List.replicate, List.set, List.append, List.cons_append, List.nil_append, c, decide_true, if_true, if_pos]
    simp [e1, e2, c, Int.gcd] at *
    simp [*]
  · have e : lowC t b = (Int.gcd t b : Int) := by unfold lowC; rw [if_neg c]
    rw [e] at hl hne ⊢
    simp [callB, u3, d3, b3, evalSs, evalS, evalE, evalEs, evalT, fnEnv, sOf, sThen, fnEnd, bfD, Rs.bind, Rs.opt, tstB, Mp.truthy, asgT, cmpD, binop, bopI, c]
    simp [Int.gcd] at *
    simp [*]
theorem r_fraction0 {lim n : Nat} {t : Int} {h : MH} : callN Q lim (n + 1) 4 [.int t, .int 0] h = .exc ⟨0, none⟩ h := by
  rw [cN]
  simp [callB, u4, d4, b4, evalSs, evalS, evalE, evalEs, evalT, fnEnv, sOf, sThen, fnEnd, Rs.bind, Rs.opt, tstB, Mp.truthy, cmpD, eqD]
theorem r_fraction {lim n : Nat} {t b : Int} {h : MH} (hb : b ≠ 0) (hl : (lowC t b).natAbs.log2 < 9000) : callN Q lim (n + 2) 4 [.int t, .int b] h = .ok (lowT t b) h := by
  rw [cN]
  simp [callB, u4, d4, b4, evalSs, evalS, evalE, evalEs, evalT, fnEnv, sOf, sThen, fnEnd, Rs.bind, Rs.opt, tstB, Mp.truthy, cmpD, eqD, hb, callP, gcOf]
  simp [r_lowest hb hl]
/-- a fraction as it lies -/
def fr (p : Int × Int) : D := .tup [.int p.1, .int p.2]
theorem r_plus {lim n : Nat} {a b c d : Int} {h : MH} (hb : b * d ≠ 0) (m1 : mulOk a d = true) (m2 : mulOk c b = true) (m3 : mulOk b d = true) (hl : (lowC (a * d + c * b) (b * d)).natAbs.log2 < 9000) :
    callN Q lim (n + 2) 6 [.tup [.int a, .int b], .tup [.int c, .int d]] h = .ok (lowT (a * d + c * b) (b * d)) h := by
  rw [cN]
  simp [callB, u6, d6, b6, evalSs, evalS, evalE, evalEs, evalT, fnEnv, sOf, sThen, fnEnd, Rs.bind, Rs.opt, callP, gcOf, getIx, atD, ixOf, binop, bopI, m1, m2, m3]
  simp [r_lowest hb hl]
theorem r_minus {lim n : Nat} {a b c d : Int} {h : MH} (hb : b * d ≠ 0) (m1 : mulOk a d = true) (m2 : mulOk c b = true) (m3 : mulOk b d = true) (hl : (lowC (a * d - c * b) (b * d)).natAbs.log2 < 9000) :
    callN Q lim (n + 2) 7 [.tup [.int a, .int b], .tup [.int c, .int d]] h = .ok (lowT (a * d - c * b) (b * d)) h := by
  rw [cN]
  simp [callB, u7, d7, b7, evalSs, evalS, evalE, evalEs, evalT, fnEnv, sOf, sThen, fnEnd, Rs.bind, Rs.opt, callP, gcOf, getIx, atD, ixOf, binop, bopI, m1, m2, m3]
  simp [r_lowest hb hl]
theorem r_less {lim n : Nat} {a b c d : Int} {h : MH} (m1 : mulOk a d = true) (m2 : mulOk c b = true) :
    callN Q lim (n + 1) 10 [.tup [.int a, .int b], .tup [.int c, .int d]] h = .ok (.bl (decide (a * d < c * b))) h := by
  rw [cN]
  simp [callB, u10, d10, b10, evalSs, evalS, evalE, evalEs, evalT, fnEnv, sOf, sThen, fnEnd, Rs.bind, Rs.opt, callP, gcOf, getIx, atD, ixOf, binop, bopI, m1, m2, cmpD]
theorem r_over0 {lim n : Nat} {a b d : Int} {h : MH} : callN Q lim (n + 1) 9 [.tup [.int a, .int b], .tup [.int 0, .int d]] h = .exc ⟨0, none⟩ h := by
  rw [cN]
  simp [callB, u9, d9, b9, evalSs, evalS, evalE, evalEs, evalT, fnEnv, sOf, sThen, fnEnd, Rs.bind, Rs.opt, tstB, Mp.truthy, callP, gcOf, getIx, atD, ixOf, cmpD, eqD]
theorem r_over {lim n : Nat} {a b c d : Int} {h : MH} (hc : c ≠ 0) (hb : b * c ≠ 0) (m1 : mulOk a d = true) (m2 : mulOk b c = true) (hl : (lowC (a * d) (b * c)).natAbs.log2 < 9000) :
    callN Q lim (n + 2) 9 [.tup [.int a, .int b], .tup [.int c, .int d]] h = .ok (lowT (a * d) (b * c)) h := by
  rw [cN]
  simp [callB, u9, d9, b9, evalSs, evalS, evalE, evalEs, evalT, fnEnv, sOf, sThen, fnEnd, Rs.bind, Rs.opt, tstB, Mp.truthy, callP, gcOf, getIx, atD, ixOf, binop, bopI, m1, m2, cmpD, eqD, hc]
  simp [r_lowest hb hl]
theorem r_times {lim n : Nat} {a b c d : Int} {h : MH} (hb : b * d ≠ 0) (m1 : mulOk a c = true) (m2 : mulOk b d = true) (hl : (lowC (a * c) (b * d)).natAbs.log2 < 9000) :
    callN Q lim (n + 2) 8 [.tup [.int a, .int b], .tup [.int c, .int d]] h = .ok (lowT (a * c) (b * d)) h := by
  rw [cN]
  simp [callB, u8, d8, b8, evalSs, evalS, evalE, evalEs, evalT, fnEnv, sOf, sThen, fnEnd, Rs.bind, Rs.opt, callP, gcOf, getIx, atD, ixOf, binop, bopI, m1, m2]
  simp [r_lowest hb hl]
/-! ### the law's draws -/
/-- an urn that may be drawn from c times more -/
def UrnOk (u : Int × Int × Int) (c : Int) : Prop := 0 ≤ u.1 ∧ 0 ≤ u.2.1 ∧ u.2.1 < 2 ^ 70 ∧ 0 ≤ u.2.2 ∧ u.2.2 < 2 ^ 20 ∧ u.1.natAbs.log2 < 90000000
end K53
end
section
set_option Elab.async false
set_option linter.all false
set_option maxRecDepth 1000000
set_option maxHeartbeats 4000000
namespace K53
open PySem PySem.Spec PyProof.Rows L2 Mp
def urnL (u : Int × Int × Int) : MO := .lst [.int u.1, .int u.2.1, .int u.2.2]
theorem mulOk_of {i j : Int} {a b : Nat} (hi : i.natAbs < 2 ^ a) (hj : j.natAbs < 2 ^ b) (h : a + b < 100000000) : mulOk i j = true := by
  have l : ∀ {x : Int} {k : Nat}, x.natAbs < 2 ^ k → x.natAbs.log2 ≤ k := by
    intro x k hx
    by_cases z : x.natAbs = 0
    · rw [z]; simp
    · exact Nat.le_of_lt ((Nat.log2_lt z).mpr hx)
  have h1 := l hi
  have h2 := l hj
  unfold mulOk
  exact decide_eq_true (by omega)
theorem log_of {i : Int} {a b : Nat} (hi : i.natAbs < 2 ^ a) (h : a < b) : i.natAbs.log2 < b := by
  by_cases z : i.natAbs = 0
  · rw [z]; simp; omega
  · exact Nat.lt_of_le_of_lt (Nat.le_of_lt ((Nat.log2_lt z).mpr hi)) h
theorem put_same {m : MH} {r : Nat} {o o2 : MO} : (m.put r o).put r o2 = m.put r o2 := by
  unfold MH.put
  split <;> simp
theorem r_take0 {lim n : Nat} {u : Int × Int × Int} {k : Int} {r : Nat} {h : MH} (hr : h.get r = some (urnL u)) (ha : 0 < u.1) (hk : 0 < k) (hk2 : k < 2 ^ 200) :
    callN Q lim (n + 1) 15 [.ref r, .int k] h = .ok (.int (u.1.fmod k)) (h.put r (urnL (u.1.fdiv k, u.2))) := by
  obtain ⟨a, b, c⟩ := u
  rw [cN]
  have hk0 : ¬ k = 0 := by omega
  have lg : k.natAbs.log2 < 9000 := log_of (a := 200) (by omega) (by omega)
  simp only [urnL] at hr ⊢
  have ha' : 0 < a := ha
  simp [callB, u15, d15, b15, evalSs, evalS, evalE, evalEs, evalT, fnEnv, sOf, sThen, fnEnd, Rs.bind, Rs.opt, tstB, Mp.truthy, callP, gcOf, getIx, atD, ixOf, binop, bopI, cmpD, hr, ha', bfD, hk0, lg, asgT, setIx, ordI]
theorem fmod_lo {a k : Int} (h : 0 < k) : 0 ≤ a.fmod k := Int.fmod_nonneg_of_pos a h
theorem fmod_hi {a k : Int} (h : 0 < k) : a.fmod k < k := Int.fmod_lt_of_pos a h
theorem pow_lt' {i : Int} {a : Nat} (h1 : 0 ≤ i) (h2 : i < 2 ^ a) : i.natAbs < 2 ^ a := by
  have e : ((2 ^ a : Nat) : Int) = (2 : Int) ^ a := by simp
  omega
theorem mul_nn {i j : Int} {a b : Nat} (i0 : 0 ≤ i) (i1 : i < 2 ^ a) (j0 : 0 ≤ j) (j1 : j < 2 ^ b) : 0 ≤ i * j ∧ i * j < 2 ^ (a + b) := by
  refine ⟨Int.mul_nonneg i0 j0, ?_⟩
  rw [Int.pow_add]
  rcases Int.lt_or_eq_of_le j0 with h | h
  · exact Int.lt_of_lt_of_le (Int.mul_lt_mul_of_pos_right i1 h) (Int.mul_le_mul_of_nonneg_left (Int.le_of_lt j1) (Int.le_of_lt (Int.lt_of_le_of_lt i0 i1)))
  · subst h
    rw [Int.mul_zero]
    exact Int.mul_pos (Int.pow_pos (by decide)) (Int.pow_pos (by decide))
theorem r_take1 {lim n : Nat} {u : Int × Int × Int} {k : Int} {r : Nat} {h : MH} (hr : h.get r = some (urnL u)) (ha : u.1 = 0) (hb0 : 0 ≤ u.2.1) (hb : u.2.1 < 2 ^ 70) (hc0 : 0 ≤ u.2.2) (hc : u.2.2 < 2 ^ 20) (hk : 0 < k) (hk2 : k < 2 ^ 200) :
    ∃ d, 0 ≤ d ∧ d < k ∧ callN Q lim (n + 1) 15 [.ref r, .int k] h = .ok (.int d) (h.put r (urnL (u.1, u.2.1, u.2.2 + 1))) := by
  obtain ⟨a, b, c⟩ := u
  simp only [urnL] at hr ⊢
  have ha : a = 0 := ha
  subst ha
  have hb0 : 0 ≤ b := hb0
  have hb : b < 2 ^ 70 := hb
  have hc0 : 0 ≤ c := hc0
  have hc : c < 2 ^ 20 := hc
  have hk0 : ¬ k = 0 := by omega
  have g1 : (h.put r (.lst [.int 0, .int b, .int (c + 1)])).get r = some (.lst [.int 0, .int b, .int (c + 1)]) := MH.get_put_self hr
  have m1 : mulOk 48271 (c + 1) = true := mulOk_of (a := 16) (b := 21) (by decide) (by omega) (by omega)
  obtain ⟨p0, p1⟩ := mul_nn (a := 16) (b := 21) (i := 48271) (j := c + 1) (by decide) (by decide) (by omega) (by omega)
  have m2 : mulOk (b + 48271 * (c + 1)) (39373 + (c + 1)) = true := mulOk_of (a := 71) (b := 22) (by omega) (by omega) (by omega)
  generalize ho : ((b + 48271 * (c + 1)) * (39373 + (c + 1))).fmod 2147483647 = o
  have o0 : 0 ≤ o := by rw [← ho]; exact fmod_lo (by decide)
  have o1 : o < 2147483647 := by rw [← ho]; exact fmod_hi (by decide)
  generalize hf : o.fmod 40009 + 7 = f
  have f0 : 0 ≤ f := by rw [← hf]; have := fmod_lo (a := o) (k := 40009) (by decide); omega
  have f1 : f < 2 ^ 16 := by rw [← hf]; have := fmod_hi (a := o) (k := 40009) (by decide); omega
  have q0 : 0 ≤ b.fdiv 1000003 := Int.fdiv_nonneg hb0 (by decide)
  have q1 : b.fdiv 1000003 < 2 ^ 70 := by
    rw [Int.fdiv_eq_ediv_of_nonneg _ (by decide)]
    omega
  have m3 : mulOk (o + (c + 1) + b.fdiv 1000003) f = true := mulOk_of (a := 71) (b := 16) (by omega) (pow_lt' f0 f1) (by omega)
  generalize ht : ((o + (c + 1) + b.fdiv 1000003) * f).fmod 2147483629 = t
  have t0 : 0 ≤ t := by rw [← ht]; exact fmod_lo (by decide)
  have t1 : t < 2147483629 := by rw [← ht]; exact fmod_hi (by decide)
  have m4 : mulOk t 48271 = true := mulOk_of (a := 31) (b := 16) (by omega) (by decide) (by omega)
  refine ⟨(((t * 48271 + o).fmod 2147483587).fdiv 64).fmod k, fmod_lo hk, fmod_hi hk, ?_⟩
  rw [cN]
  have lg1 : (1000003 : Nat).log2 < 9000 := by decide
  have lg2 : (64 : Nat).log2 < 9000 := by decide
  simp [callB, u15, d15, b15, evalSs, evalS, evalE, evalEs, evalT, fnEnv, sOf, sThen, fnEnd, Rs.bind, Rs.opt, tstB, Mp.truthy, callP, gcOf, getIx, atD, ixOf, binop, bopI, cmpD, hr, g1, bfD, hk0, asgT, setIx, ordI, m1, m2, ho, hf, m3, ht, m4, lg1, lg2]
/-- an urn that may be drawn from j times more -/
structure Urn (u : Int × Int × Int) (j : Nat) : Prop where
  a0 : 0 ≤ u.1
  b0 : 0 ≤ u.2.1
  b1 : u.2.1 < 2 ^ 70
  c0 : 0 ≤ u.2.2
  c1 : u.2.2 + j ≤ 2 ^ 20
theorem r_take {lim n : Nat} {u : Int × Int × Int} {j : Nat} {k : Int} {r : Nat} {h : MH} (hr : h.get r = some (urnL u)) (hu : Urn u (j + 1)) (hk : 0 < k) (hk2 : k < 2 ^ 200) :
    ∃ d u', 0 ≤ d ∧ d < k ∧ Urn u' j ∧ callN Q lim (n + 1) 15 [.ref r, .int k] h = .ok (.int d) (h.put r (urnL u')) := by
  have c1 := hu.c1
  by_cases ha : 0 < u.1
  · refine ⟨_, (u.1.fdiv k, u.2), fmod_lo hk, fmod_hi hk, ⟨?_, hu.b0, hu.b1, hu.c0, ?_⟩, r_take0 hr ha hk hk2⟩
    · exact Int.fdiv_nonneg hu.a0 (Int.le_of_lt hk)
    · show u.2.2 + j ≤ 2 ^ 20
      omega
  · have a0 := hu.a0
    obtain ⟨d, d0, d1, e⟩ := r_take1 (lim := lim) (n := n) hr (by omega) hu.b0 hu.b1 hu.c0 (by omega) hk hk2
    refine ⟨d, (u.1, u.2.1, u.2.2 + 1), d0, d1, ⟨hu.a0, hu.b0, hu.b1, ?_, ?_⟩, e⟩
    · show 0 ≤ u.2.2 + 1
      have := hu.c0
      omega
    · show u.2.2 + 1 + j ≤ 2 ^ 20
      omega
theorem sel5 {x : Int} (h0 : 0 ≤ x) (h1 : x < 5) : x = 0 ∨ x = 1 ∨ x = 2 ∨ x = 3 ∨ x = 4 := by omega
theorem r_number {lim n : Nat} {u : Int × Int × Int} {j : Nat} {r : Nat} {h : MH} (hr : h.get r = some (urnL u)) (hu : Urn u (j + 3)) :
    ∃ d u', d ≠ 0 ∧ d.natAbs < 2 ^ 103 ∧ Urn u' j ∧ callN Q lim (n + 2) 20 [.ref r] h = .ok (.int d) (h.put r (urnL u')) := by
  obtain ⟨x, u1, x0, x1, hu1, e1⟩ := r_take (lim := lim) (n := n) hr hu (k := 5) (by decide) (by decide)
  have g1 : (h.put r (urnL u1)).get r = some (urnL u1) := MH.get_put_self hr
  have sz : ∃ s : Int, 0 < s ∧ s ≤ 1000000000000000000000000000000 ∧ getIx Q.kts (.tup [.int 9, .int 9, .int 9, .int 60, .int 1000000000000000000000000000000]) (.int x) (h.put r (urnL u1)) = some (.int s) := by
    rcases sel5 x0 x1 with z | z | z | z | z <;> subst z <;> exact ⟨_, by decide, by decide, rfl⟩
  obtain ⟨s, s0, s1, es⟩ := sz
  obtain ⟨y, u2, y0, y1, hu2, e2⟩ := r_take (lim := lim) (n := n) g1 hu1 (k := s) s0 (by omega)
  rw [put_same] at e2
  have g2 : (h.put r (urnL u2)).get r = some (urnL u2) := MH.get_put_self hr
  obtain ⟨z, u3, z0, z1, hu3, e3⟩ := r_take (lim := lim) (n := n) g2 hu2 (k := 5) (by decide) (by decide)
  rw [put_same] at e3
  have tz : ∃ t : Int, t ≠ 0 ∧ t.natAbs ≤ 6 ∧ getIx Q.kts (.tup [.int 6, .int (-6), .int 1, .int (-1), .int 4]) (.int z) (h.put r (urnL u3)) = some (.int t) := by
    rcases sel5 z0 z1 with w | w | w | w | w <;> subst w <;> exact ⟨_, by decide, by decide, rfl⟩
  obtain ⟨t, t0, t1, et⟩ := tz
  have b1 : (1 + y).natAbs < 2 ^ 100 := by omega
  have mo : mulOk (1 + y) t = true := mulOk_of b1 (b := 3) (by omega) (by omega)
  refine ⟨(1 + y) * t, u3, ?_, ?_, hu3, ?_⟩
  · exact Int.mul_ne_zero (by omega) t0
  · rw [Int.natAbs_mul]
    calc (1 + y).natAbs * t.natAbs ≤ (1 + y).natAbs * 6 := Nat.mul_le_mul_left _ t1
      _ < 2 ^ 103 := by omega
  · have e30 : bopI .pow 10 30 = some (1000000000000000000000000000000 : Int) := by decide
    rw [cN]
    simp [callB, u20, d20, b20, evalSs, evalS, evalE, evalEs, evalT, fnEnv, sOf, sThen, fnEnd, Rs.bind, callP, gcOf, binop, e30, e1, es, e2, e3, et, Rs.opt, asgT, put_same]
    simp [bopI, mo, put_same, e3, et]
theorem r_drawn {lim n : Nat} {u : Int × Int × Int} {j : Nat} {r : Nat} {h : MH} (hr : h.get r = some (urnL u)) (hu : Urn u (j + 7)) :
    ∃ t b u', b ≠ 0 ∧ t.natAbs < 2 ^ 103 ∧ b.natAbs < 2 ^ 103 ∧ Urn u' j ∧ callN Q lim (n + 3) 21 [.ref r] h = .ok (.tup [.int t, .int b]) (h.put r (urnL u')) := by
  obtain ⟨x, u1, x0, x1, hu1, e1⟩ := r_take (lim := lim) (n := n + 1) hr hu (k := 6) (by decide) (by decide)
  have g1 : (h.put r (urnL u1)).get r = some (urnL u1) := MH.get_put_self hr
  by_cases hx : x = 0
  · obtain ⟨b, u2, b0, b1, hu2, e2⟩ := r_number (lim := lim) (n := n) (j := j + 3) g1 hu1
    rw [put_same] at e2
    refine ⟨0, b, u2, b0, by decide, b1, ⟨hu2.a0, hu2.b0, hu2.b1, hu2.c0, by have := hu2.c1; omega⟩, ?_⟩
    rw [cN]
    simp [callB, u21, d21, b21, evalSs, evalS, evalE, evalEs, evalT, fnEnv, sOf, sThen, fnEnd, Rs.bind, callP, gcOf, e1, hx, Rs.opt, asgT, tstB, Mp.truthy, cmpD, eqD, e2]
  · obtain ⟨t, u2, t0, t1, hu2, e2⟩ := r_number (lim := lim) (n := n) (j := j + 3) g1 hu1
    rw [put_same] at e2
    have g2 : (h.put r (urnL u2)).get r = some (urnL u2) := MH.get_put_self hr
    obtain ⟨b, u3, b0, b1, hu3, e3⟩ := r_number (lim := lim) (n := n) (j := j) g2 hu2
    rw [put_same] at e3
    refine ⟨t, b, u3, b0, t1, b1, hu3, ?_⟩
    rw [cN]
    simp [callB, u21, d21, b21, evalSs, evalS, evalE, evalEs, evalT, fnEnv, sOf, sThen, fnEnd, Rs.bind, callP, gcOf, e1, hx, Rs.opt, asgT, tstB, Mp.truthy, cmpD, eqD, e2, e3]
end K53
end
section
set_option Elab.async false
set_option linter.all false
set_option maxRecDepth 1000000
set_option maxHeartbeats 4000000
namespace K53
open PySem PySem.Spec PyProof.Rows L2 Mp
/-- one turn of the law's own Euclid -/
theorem euc_turn {G : GC} {t b : Option D} {x y : Nat} {h : MH} {k : Nat} (hy : y ≠ 0) {e : Option D} :
    whlN (evalT G none (.cmp .ne (.var 4) (.lit (.int 0)))) (evalSs G none [.asg (.tup [.nm 3, .nm 4]) (.tup [.var 4, .bin .mod (.var 3) (.var 4)])]) (k + 1) [t, b, e, some (.int x), some (.int y)] h =
    whlN (evalT G none (.cmp .ne (.var 4) (.lit (.int 0)))) (evalSs G none [.asg (.tup [.nm 3, .nm 4]) (.tup [.var 4, .bin .mod (.var 3) (.var 4)])]) k [t, b, e, some (.int y), some (.int ((x % y : Nat) : Int))] h := by
  have hy' : ¬ (y : Int) = 0 := by omega
  have em : (x : Int).fmod (y : Int) = ((x % y : Nat) : Int) := by
    rw [Int.fmod_eq_emod_of_nonneg _ (by omega)]; rfl
  conv => lhs; rw [whlN]
  simp [evalT, evalE, evalEs, Rs.bind, Rs.opt, tstB, Mp.truthy, cmpD, eqD, hy', hy, evalSs, evalS, sOf, sThen, asgT, asgTs, unp, itemsOf, noExc, binop, bopI, em, turn]
theorem euc_end {G : GC} {t b : Option D} {x : Nat} {h : MH} {k : Nat} {e : Option D} :
    whlN (evalT G none (.cmp .ne (.var 4) (.lit (.int 0)))) (evalSs G none [.asg (.tup [.nm 3, .nm 4]) (.tup [.var 4, .bin .mod (.var 3) (.var 4)])]) (k + 1) [t, b, e, some (.int x), some (.int 0)] h =
    some (.nx [t, b, e, some (.int x), some (.int 0)], h) := by
  rw [whlN]
  simp [evalT, evalE, evalEs, Rs.bind, Rs.opt, tstB, Mp.truthy, cmpD, eqD]
theorem euc {G : GC} {t b e : Option D} {h : MH} : ∀ (k x y m : Nat), y < 2 ^ k → 2 * k + 1 ≤ m →
    whlN (evalT G none (.cmp .ne (.var 4) (.lit (.int 0)))) (evalSs G none [.asg (.tup [.nm 3, .nm 4]) (.tup [.var 4, .bin .mod (.var 3) (.var 4)])]) m [t, b, e, some (.int x), some (.int y)] h =
    some (.nx [t, b, e, some (.int (Nat.gcd x y)), some (.int 0)], h)
  | 0, x, y, m, hy, hm => by
    have : y = 0 := by simpa using hy
    subst this
    obtain ⟨m, rfl⟩ : ∃ m', m = m' + 1 := ⟨m - 1, by omega⟩
    have := euc_end (G := G) (t := t) (b := b) (x := x) (h := h) (k := m) (e := e)
    simpa using this
  | k + 1, x, y, m, hy, hm => by
    obtain ⟨m, rfl⟩ : ∃ m', m = m' + 2 := ⟨m - 2, by omega⟩
    by_cases y0 : y = 0
    · subst y0
      have := euc_end (G := G) (t := t) (b := b) (x := x) (h := h) (k := m + 1) (e := e)
      simpa using this
    · rw [euc_turn y0]
      by_cases r0 : x % y = 0
      · rw [r0]
        have := euc_end (G := G) (t := t) (b := b) (x := y) (h := h) (k := m) (e := e)
        rw [Nat.gcd_comm, Nat.gcd_rec, r0, Nat.gcd_zero_left]
        simpa using this
      · rw [euc_turn r0]
        have h1 : x % y < y := Nat.mod_lt _ (by omega)
        have h2 : y % (x % y) < x % y := Nat.mod_lt _ (by omega)
        have h3 : y % (x % y) + x % y ≤ y := by
          have := Nat.div_add_mod y (x % y)
          have hd : 1 ≤ y / (x % y) := (Nat.one_le_div_iff (by omega)).mpr (by omega)
          have : (x % y) * 1 ≤ (x % y) * (y / (x % y)) := Nat.mul_le_mul_left _ hd
          omega
        have hy2 : y < 2 * 2 ^ k := by rw [Nat.pow_succ] at hy; omega
        rw [euc k (x % y) (y % (x % y)) m (by omega) (by omega)]
        have g : Nat.gcd (x % y) (y % (x % y)) = Nat.gcd x y := by
          rw [← Nat.gcd_comm, ← Nat.gcd_rec, ← Nat.gcd_rec, Nat.gcd_comm]
        rw [g]
def s19 : MS := .whl (.cmp .ne (.var 4) (.lit (.int 0))) [.asg (.tup [.nm 3, .nm 4]) (.tup [.var 4, .bin .mod (.var 3) (.var 4)])]
theorem b19_eq : b19 = [.asg (.tup [.nm 3, .nm 4]) (.tup [.bf .abs [.var 0], .bf .abs [.var 1]]), s19, .asg (.nm 2) (.ite (.cmp .lt (.var 1) (.lit (.int 0))) (.neg (.var 3)) (.var 3)), .ret (.tup [.bin .fdiv (.var 0) (.var 2), .bin .fdiv (.var 1) (.var 2)])] := rfl
theorem r_low {n : Nat} {t b : Int} {h : MH} (hb : b ≠ 0) (hb2 : b.natAbs < 2 ^ 8000) (hl : (lowC t b).natAbs.log2 < 9000) : callN Q 1000000 (n + 1) 19 [.int t, .int b] h = .ok (lowT t b) h := by
  have hne := lowC_ne (t := t) hb
  have ha : ∀ i : Int, (if i < 0 then -i else i) = (i.natAbs : Int) := fun i => by split <;> omega
  have lp : ∀ G : GC, G.lim = 1000000 → evalS G none s19 [some (.int t), some (.int b), none, some (.int t.natAbs), some (.int b.natAbs)] h = some (.nx [some (.int t), some (.int b), none, some (.int (Nat.gcd t.natAbs b.natAbs)), some (.int 0)], h) := fun G hG => by
    unfold s19
    rw [evalS, hG]
    exact euc (G := G) (t := some (.int t)) (b := some (.int b)) (e := none) (h := h) 8000 t.natAbs b.natAbs 1000000 hb2 (by omega)
  have lp := lp (gcOf Q 1000000 (callN Q 1000000 n) (callN Q 1000000 (n - 1))) rfl
  have ec : lowC t b = if b < 0 then -(Nat.gcd t.natAbs b.natAbs : Int) else (Nat.gcd t.natAbs b.natAbs : Int) := rfl
  rw [cN]
  unfold lowT
  by_cases c : b < 0
  · rw [if_pos c] at ec
    rw [ec] at hne hl ⊢
    simp at hne hl
    simp [callB, u19, d19, b19_eq, evalSs, evalS, evalE, evalEs, evalT, fnEnv, sOf, sThen, fnEnd, Rs.bind, Rs.opt, callP, bfD, ha, asgT, asgTs, unp, itemsOf, noExc, lp, cmpD, tstB, Mp.truthy, binop, bopI, hne, hl]
    simp [c, hne, hl]
    simp [hb]
  · rw [if_neg c] at ec
    rw [ec] at hne hl ⊢
    simp at hne hl
    simp [callB, u19, d19, b19_eq, evalSs, evalS, evalE, evalEs, evalT, fnEnv, sOf, sThen, fnEnd, Rs.bind, Rs.opt, callP, bfD, ha, asgT, asgTs, unp, itemsOf, noExc, lp, cmpD, tstB, Mp.truthy, binop, bopI, hne, hl]
    simp [c, hne, hl]
    simp [hb]
/-! ### the law's own comparing -/
/-- a thing without lists: told alike -/
inductive Same0 : D → Prop
  | int (i : Int) : Same0 (.int i)
  | bl (b : Bool) : Same0 (.bl b)
  | non : Same0 .non
  | str (s : List Nat) : s.all (· < 0x110000) = true → Same0 (.str s)
theorem r_same0 {lim n : Nat} {d : D} {h : MH} (hd : Same0 d) : callN Q lim (n + 1) 18 [d, d] h = .ok (.bl true) h := by
  rw [cN]
  cases hd with
  | int i => simp [callB, u18, d18, b18, evalSs, evalS, evalE, evalEs, evalT, fnEnv, sOf, sThen, fnEnd, Rs.bind, Rs.opt, tstB, Mp.truthy, cmpD, eqD, isiD, tyD, tyLe, isNonD]
  | bl b => simp [callB, u18, d18, b18, evalSs, evalS, evalE, evalEs, evalT, fnEnv, sOf, sThen, fnEnd, Rs.bind, Rs.opt, tstB, Mp.truthy, cmpD, eqD, isiD, tyD, tyLe, isNonD]
  | non => simp [callB, u18, d18, b18, evalSs, evalS, evalE, evalEs, evalT, fnEnv, sOf, sThen, fnEnd, Rs.bind, Rs.opt, tstB, Mp.truthy, cmpD, eqD, isiD, tyD, tyLe, isNonD]
  | str s hs => simp [callB, u18, d18, b18, evalSs, evalS, evalE, evalEs, evalT, fnEnv, sOf, sThen, fnEnd, Rs.bind, Rs.opt, tstB, Mp.truthy, cmpD, eqD, isiD, tyD, tyLe, isNonD]
end K53
end
section
set_option Elab.async false
set_option linter.all false
set_option maxRecDepth 1000000
set_option maxHeartbeats 4000000
namespace K53
open PySem PySem.Spec PyProof.Rows L2 Mp
/-- new things may have come, nothing has changed -/
structure Grow (h h' : MH) : Prop where
  get : ∀ r o, h.get r = some o → h'.get r = some o
theorem Grow.refl {h : MH} : Grow h h := ⟨fun _ _ e => e⟩
theorem Grow.trans {a b c : MH} (x : Grow a b) (y : Grow b c) : Grow a c := ⟨fun r o e => y.get r o (x.get r o e)⟩
theorem Grow.new {h : MH} {o : MO} : Grow h (h.new o) := ⟨fun r o' e => MH.get_new_some e⟩
mutual
/-- alike, lists in the heap followed -/
inductive Like : Nat → MH → D → D → Prop
  | same {k : Nat} {h : MH} {d : D} : Same0 d → Like k h d d
  | tup {k : Nat} {h : MH} {xs ys : List D} : xs.length < 1000000 → Likes k h xs ys → Like (k + 1) h (.tup xs) (.tup ys)
  | lst {k : Nat} {h : MH} {r q : Nat} {xs ys : List D} : h.get r = some (.lst xs) → h.get q = some (.lst ys) → xs.length < 1000000 → Likes k h xs ys → Like (k + 1) h (.ref r) (.ref q)
inductive Likes : Nat → MH → List D → List D → Prop
  | nil {k : Nat} {h : MH} : Likes k h [] []
  | cons {k : Nat} {h : MH} {x y : D} {xs ys : List D} : Like k h x y → Likes k h xs ys → Likes k h (x :: xs) (y :: ys)
end
theorem Likes.length {k : Nat} {h : MH} : ∀ {xs ys : List D}, Likes k h xs ys → xs.length = ys.length
  | _, _, .nil => rfl
  | _, _, .cons _ t => by simp [Likes.length t]
mutual
theorem Like.grow {h h' : MH} (g : Grow h h') : ∀ {k : Nat} {x y : D}, Like k h x y → Like k h' x y
  | _, _, _, .same s => .same s
  | _, _, _, .tup z l => .tup z (Likes.grow g l)
  | _, _, _, .lst a b z l => .lst (g.get _ _ a) (g.get _ _ b) z (Likes.grow g l)
theorem Likes.grow {h h' : MH} (g : Grow h h') : ∀ {k : Nat} {x y : List D}, Likes k h x y → Likes k h' x y
  | _, _, _, .nil => .nil
  | _, _, _, .cons a b => .cons (Like.grow g a) (Likes.grow g b)
end
/-- the turns of the comprehension -/
def f18 (G : GC) (ρ : Mp.Env) : D → MH → Rs (Option D) := fun d h => noExc ((asgT G none (.tup [.nm 2, .nm 3]) d (Mp.wipe ρ [2, 3]) h).bind fun ρ1 h2 => (evalTs G none [] ρ1 h2).bind fun k h3 =>
      if k then (evalE G none (.call 18 [.var 2, .var 3] []) ρ1 h3).bind fun y h4 => .ok (some y) h4 else .ok none h3)
theorem turn18 {lim n : Nat} {x y a b : D} {c e : Option D} {h h' : MH} (hc : callN Q lim n 18 [x, y] h = .ok (.bl true) h') :
    f18 (gcOf Q lim (callN Q lim n) (callN Q lim (n - 1))) [some a, some b, c, e] (.tup [x, y]) h = .ok (some (.bl true)) h' := by
  have e1 : callP (gcOf Q lim (callN Q lim n) (callN Q lim (n - 1))) 18 [x, y] [] h = .ok (.bl true) h' := hc
  simp [f18, asgT, unp, itemsOf, asgTs, Mp.wipe, noExc, Rs.bind, evalTs, evalE, evalEs, e1]
theorem bools_rep : ∀ n : Nat, bools (List.replicate n (.bl true)) = some (List.replicate n true)
  | 0 => rfl
  | n + 1 => by rw [List.replicate_succ, bools, bools_rep n]; rfl
theorem turns18L {lim n k : Nat} {a b : D} {c e : Option D} (ih : ∀ h x y, Like k h x y → ∃ h', callN Q lim n 18 [x, y] h = .ok (.bl true) h' ∧ Grow h h') : ∀ (xs ys : List D) (h : MH), Likes k h xs ys →
    ∃ h', compL (f18 (gcOf Q lim (callN Q lim n) (callN Q lim (n - 1))) [some a, some b, c, e]) ((xs.zip ys).map fun p => .tup [p.1, p.2]) h = .ok (List.replicate xs.length (.bl true)) h' ∧ Grow h h'
  | _, _, h, .nil => ⟨h, rfl, .refl⟩
  | x :: xs, y :: ys, h, .cons l ls => by
    obtain ⟨h1, e1, g1⟩ := ih h x y l
    obtain ⟨h2, e2, g2⟩ := turns18L ih xs ys h1 (ls.grow g1)
    refine ⟨h2, ?_, g1.trans g2⟩
    simp only [List.zip_cons_cons, List.map_cons, compL]
    rw [turn18 e1]
    simp only [Rs.bind]
    rw [e2]
    rfl
theorem turns18N {lim n k : Nat} {a b : D} {c e : Option D} {r q : Nat} (ih : ∀ h x y, Like k h x y → ∃ h', callN Q lim n 18 [x, y] h = .ok (.bl true) h' ∧ Grow h h') : ∀ (m i : Nat) (xs ys : List D) (h : MH), xs.length - i = m → i ≤ xs.length →
    h.get r = some (.lst xs) → h.get q = some (.lst ys) → xs.length = ys.length → Likes k h (xs.drop i) (ys.drop i) →
    ∃ h', compN (f18 (gcOf Q lim (callN Q lim n) (callN Q lim (n - 1))) [some a, some b, c, e]) (.zip (.lv r) (.lv q)) (m + 1) i h = .ok (List.replicate m (.bl true)) h' ∧ Grow h h'
  | 0, i, xs, ys, h, hm, hi, hr, hq, hl, l => by
    refine ⟨h, ?_, .refl⟩
    have e1 : xs[i]? = none := List.getElem?_eq_none (by omega)
    have e2 : ys[i]? = none := List.getElem?_eq_none (by omega)
    simp [compN, Src.nth, MH.seq, hr, hq, e1, e2]
  | m + 1, i, xs, ys, h, hm, hi, hr, hq, hl, l => by
    have hx : i < xs.length := by omega
    have hy : i < ys.length := by omega
    rw [List.drop_eq_getElem_cons hx, List.drop_eq_getElem_cons hy] at l
    cases l with
    | cons l ls =>
      obtain ⟨h1, e1, g1⟩ := ih h _ _ l
      obtain ⟨h2, e2, g2⟩ := turns18N ih m (i + 1) xs ys h1 (by omega) (by omega) (g1.get _ _ hr) (g1.get _ _ hq) hl (ls.grow g1)
      refine ⟨h2, ?_, g1.trans g2⟩
      rw [compN]
      have ex : xs[i]? = some xs[i] := List.getElem?_eq_getElem hx
      have ey : ys[i]? = some ys[i] := List.getElem?_eq_getElem hy
      simp only [Src.nth, MH.seq, hr, hq, Option.map_some, ex, ey]
      rw [turn18 e1]
      simp only [Rs.bind]
      rw [e2]
      rfl
theorem e18 : b18 = [.ife (.isi (.var 1) [.list, .tuple]) [.ife (.or (.cmp .ne (.isi (.var 0) [.list]) (.isi (.var 1) [.list])) (.cmp .ne (.isi (.var 0) [.tuple]) (.isi (.var 1) [.tuple]))) [.ret (.lit (.bl false))] [], .ret (.and (.cmp .eq (.bf .len [.var 0]) (.bf .len [.var 1])) (.bf .all [.lc (.call 18 [.var 2, .var 3] []) (.tup [.nm 2, .nm 3]) (.zip (.var 0) (.var 1)) [] [2, 3]]))] [], .ife (.or (.isN (.var 1)) (.isi (.var 1) [.bool, .str])) [.ret (.and (.cmp .eq (.var 0) (.var 1)) (.and (.cmp .eq (.isi (.var 0) [.bool]) (.isi (.var 1) [.bool])) (.cmp .eq (.isN (.var 0)) (.isN (.var 1)))))] [], .ret (.and (.isi (.var 0) [.int]) (.and (.not (.isi (.var 0) [.bool])) (.cmp .eq (.var 0) (.var 1))))] := rfl
def lc18 : ME := .lc (.call 18 [.var 2, .var 3] []) (.tup [.nm 2, .nm 3]) (.zip (.var 0) (.var 1)) [] [2, 3]
theorem e18' : b18 = [.ife (.isi (.var 1) [.list, .tuple]) [.ife (.or (.cmp .ne (.isi (.var 0) [.list]) (.isi (.var 1) [.list])) (.cmp .ne (.isi (.var 0) [.tuple]) (.isi (.var 1) [.tuple]))) [.ret (.lit (.bl false))] [], .ret (.and (.cmp .eq (.bf .len [.var 0]) (.bf .len [.var 1])) (.bf .all [lc18]))] [], .ife (.or (.isN (.var 1)) (.isi (.var 1) [.bool, .str])) [.ret (.and (.cmp .eq (.var 0) (.var 1)) (.and (.cmp .eq (.isi (.var 0) [.bool]) (.isi (.var 1) [.bool])) (.cmp .eq (.isN (.var 0)) (.isN (.var 1)))))] [], .ret (.and (.isi (.var 0) [.int]) (.and (.not (.isi (.var 0) [.bool])) (.cmp .eq (.var 0) (.var 1))))] := rfl
theorem lc18_eq {G : GC} {ρ : Mp.Env} {h : MH} : evalE G none lc18 ρ h = (evalI G none (.zip (.var 0) (.var 1)) ρ h).bind fun s h1 => (compS (f18 G ρ) s h1).bind fun ys h2 => if ys.length < lineC then .ok (.ref h2.sz) (h2.new (.lst ys)) else .bad := by
  unfold lc18
  rw [evalE]
  rfl
theorem allrep : ∀ n : Nat, (List.replicate n true).all id = true
  | 0 => rfl
  | n + 1 => by rw [List.replicate_succ, List.all_cons, allrep n]; rfl
theorem bf_all {n : Nat} {h : MH} : bfD .all [.ref h.sz] (h.new (.lst (List.replicate n (.bl true)))) = .ok (.bl true) (h.new (.lst (List.replicate n (.bl true)))) := by
  unfold bfD
  simp only [MH.get_new_self, bfItems, bools_rep, allrep]
theorem r_same {lim : Nat} : ∀ (k n : Nat), k ≤ n → ∀ h x y, Like k h x y → ∃ h', callN Q lim (n + 1) 18 [x, y] h = .ok (.bl true) h' ∧ Grow h h'
  | 0, n, _, h, _, _, .same s => ⟨h, r_same0 s, .refl⟩
  | k + 1, n, hk, h, x, y, l => by
    obtain ⟨n, rfl⟩ : ∃ n', n = n' + 1 := ⟨n - 1, by omega⟩
    have ih : ∀ h x y, Like k h x y → ∃ h', callN Q lim (n + 1) 18 [x, y] h = .ok (.bl true) h' ∧ Grow h h' := fun h x y l => r_same k n (by omega) h x y l
    have lC : ∀ {m : Nat}, m < 1000000 → m < lineC := fun {m} h => by unfold lineC; omega
    cases l with
    | same s => exact ⟨h, r_same0 s, .refl⟩
    | @tup _ _ xs ys hz l =>
      obtain ⟨h2, e2, g2⟩ := turns18L (lim := lim) (n := n + 1) (a := .tup xs) (b := .tup ys) (c := none) (e := none) ih xs ys h l
      have elc : evalE (gcOf Q lim (callN Q lim (n + 1)) (callN Q lim (n + 1 - 1))) none lc18 [some (.tup xs), some (.tup ys), none, none] h = .ok (.ref h2.sz) (h2.new (.lst (List.replicate xs.length (.bl true)))) := by
        rw [lc18_eq]
        have ei : evalI (gcOf Q lim (callN Q lim (n + 1)) (callN Q lim (n + 1 - 1))) none (.zip (.var 0) (.var 1)) [some (.tup xs), some (.tup ys), none, none] h = .ok (.its ((xs.zip ys).map fun p => .tup [p.1, p.2])) h := by
          simp [evalI, evalE, Rs.bind]
        rw [ei]
        simp only [Rs.bind, compS]
        rw [e2]
        simp [lC hz]
      refine ⟨h2.new (.lst (List.replicate xs.length (.bl true))), ?_, g2.trans .new⟩
      rw [cN]
      simp only [Nat.add_sub_cancel] at elc ⊢
      simp [callB, u18, d18, e18', evalSs, evalS, evalE, evalEs, evalT, fnEnv, sOf, sThen, fnEnd, Rs.bind, Rs.opt, tstB, Mp.truthy, cmpD, eqD, isiD, tyD, tyLe, isNonD, elc, MH.get_new_self, bfItems, bools_rep, allrep, bfD, lenD, l.length]
    | @lst _ _ r q xs ys hr hq hz l =>
      obtain ⟨h2, e2, g2⟩ := turns18N (lim := lim) (n := n + 1) (a := .ref r) (b := .ref q) (c := none) (e := none) (r := r) (q := q) ih xs.length 0 xs ys h (by omega) (by omega) hr hq l.length l
      have elc : evalE (gcOf Q lim (callN Q lim (n + 1)) (callN Q lim (n + 1 - 1))) none lc18 [some (.ref r), some (.ref q), none, none] h = .ok (.ref h2.sz) (h2.new (.lst (List.replicate xs.length (.bl true)))) := by
        rw [lc18_eq]
        have ei : evalI (gcOf Q lim (callN Q lim (n + 1)) (callN Q lim (n + 1 - 1))) none (.zip (.var 0) (.var 1)) [some (.ref r), some (.ref q), none, none] h = .ok (.zip (.lv r) (.lv q)) h := by
          simp [evalI, evalE, Rs.bind, MH.seq, hr, hq]
        rw [ei]
        simp only [Rs.bind, compS]
        have el : (Src.zip (.lv r) (.lv q)).len h = xs.length := by simp [Src.len, MH.seq, hr, hq, l.length]
        rw [el, e2]
        simp [lC hz]
      refine ⟨h2.new (.lst (List.replicate xs.length (.bl true))), ?_, g2.trans .new⟩
      rw [cN]
      simp only [Nat.add_sub_cancel] at elc ⊢
      simp [callB, u18, d18, e18', evalSs, evalS, evalE, evalEs, evalT, fnEnv, sOf, sThen, fnEnd, Rs.bind, Rs.opt, tstB, Mp.truthy, cmpD, eqD, isiD, tyD, tyLe, isNonD, elc, MH.get_new_self, bfItems, bools_rep, allrep, bfD, lenD, l.length, hr, hq]
end K53
end
section
set_option Elab.async false
set_option linter.all false
set_option maxRecDepth 1000000
set_option maxHeartbeats 4000000
namespace K53
open PySem PySem.Spec PyProof.Rows L2 Mp
theorem r_timesL {lim n : Nat} {a b c d : Int} {r q : Nat} {h : MH} (hr : h.get r = some (.lst [.int a, .int b])) (hq : h.get q = some (.lst [.int c, .int d])) (hb : b * d ≠ 0) (m1 : mulOk a c = true) (m2 : mulOk b d = true) (hl : (lowC (a * c) (b * d)).natAbs.log2 < 9000) :
    callN Q lim (n + 2) 8 [.ref r, .ref q] h = .ok (lowT (a * c) (b * d)) h := by
  rw [cN]
  simp [callB, u8, d8, b8, evalSs, evalS, evalE, evalEs, evalT, fnEnv, sOf, sThen, fnEnd, Rs.bind, Rs.opt, callP, gcOf, getIx, atD, ixOf, binop, bopI, m1, m2, hr, hq]
  simp [r_lowest hb hl]
/-! ### the size of a fraction in lowest terms -/
def lowA (t b : Int) : Int := t.fdiv (lowC t b)
def lowB (t b : Int) : Int := b.fdiv (lowC t b)
theorem lowT_eq (t b : Int) : lowT t b = .tup [.int (lowA t b), .int (lowB t b)] := rfl
theorem lowC_dvd (t b : Int) : lowC t b ∣ t ∧ lowC t b ∣ b := by
  unfold lowC
  have h1 : ((Int.gcd t b : Nat) : Int) ∣ t := Int.gcd_dvd_left ..
  have h2 : ((Int.gcd t b : Nat) : Int) ∣ b := Int.gcd_dvd_right ..
  split
  · exact ⟨(Int.neg_dvd).mpr h1, (Int.neg_dvd).mpr h2⟩
  · exact ⟨h1, h2⟩
theorem fdiv_mul {t c : Int} (h : c ∣ t) : t.fdiv c * c = t := by
  rw [Int.fdiv_eq_ediv_of_dvd h]
  exact Int.ediv_mul_cancel h
theorem low_mul (t b : Int) : lowA t b * lowC t b = t ∧ lowB t b * lowC t b = b := ⟨fdiv_mul (lowC_dvd t b).1, fdiv_mul (lowC_dvd t b).2⟩
theorem lowB_pos {t b : Int} (hb : b ≠ 0) : 0 < lowB t b := by
  have h2 := (low_mul t b).2
  have hg : 0 < Int.gcd t b := Nat.pos_of_ne_zero fun z => hb (Int.gcd_eq_zero_iff.mp z).2
  by_cases c : b < 0
  · have hc : lowC t b < 0 := by unfold lowC; rw [if_pos c]; omega
    rcases Int.lt_trichotomy (lowB t b) 0 with z | z | z
    · have := Int.mul_pos_of_neg_of_neg z hc
      omega
    · rw [z] at h2; omega
    · exact z
  · have hc : 0 < lowC t b := by unfold lowC; rw [if_neg c]; omega
    rcases Int.lt_trichotomy (lowB t b) 0 with z | z | z
    · have := Int.mul_neg_of_neg_of_pos z hc
      omega
    · rw [z] at h2; omega
    · exact z
theorem low_le {t b : Int} (hb : b ≠ 0) : (lowA t b).natAbs ≤ t.natAbs ∧ (lowB t b).natAbs ≤ b.natAbs := by
  have hc := lowC_ne (t := t) hb
  have hc1 : 1 ≤ (lowC t b).natAbs := by omega
  obtain ⟨h1, h2⟩ := low_mul t b
  constructor
  · calc (lowA t b).natAbs = (lowA t b).natAbs * 1 := (Nat.mul_one _).symm
      _ ≤ (lowA t b).natAbs * (lowC t b).natAbs := Nat.mul_le_mul_left _ hc1
      _ = t.natAbs := by rw [← Int.natAbs_mul, h1]
  · calc (lowB t b).natAbs = (lowB t b).natAbs * 1 := (Nat.mul_one _).symm
      _ ≤ (lowB t b).natAbs * (lowC t b).natAbs := Nat.mul_le_mul_left _ hc1
      _ = b.natAbs := by rw [← Int.natAbs_mul, h2]
theorem lowC_le {t b : Int} (hb : b ≠ 0) : (lowC t b).natAbs ≤ b.natAbs := by
  obtain ⟨k, hk⟩ := (lowC_dvd t b).2
  have e : b.natAbs = (lowC t b).natAbs * k.natAbs := by rw [← Int.natAbs_mul, ← hk]
  have : k.natAbs ≠ 0 := fun z => by rw [z] at e; omega
  calc (lowC t b).natAbs = (lowC t b).natAbs * 1 := (Nat.mul_one _).symm
    _ ≤ (lowC t b).natAbs * k.natAbs := Nat.mul_le_mul_left _ (by omega)
    _ = b.natAbs := e.symm
theorem low_log {t b : Int} (hb : b ≠ 0) {k : Nat} (hk : b.natAbs < 2 ^ k) (h : k < 9000) : (lowC t b).natAbs.log2 < 9000 := log_of (Nat.lt_of_le_of_lt (lowC_le hb) hk) h
end K53
end
section
set_option Elab.async false
set_option linter.all false
set_option maxRecDepth 1000000
set_option maxHeartbeats 4000000
namespace K53
open PySem PySem.Spec PyProof.Rows L2 Mp
theorem get_new_at {m : MH} {o : MO} {r : Nat} (e : r = m.sz) : (m.new o).get r = some o := by subst e; exact MH.get_new_self m o
theorem seq_new_at {m : MH} {xs : List D} {r : Nat} (e : r = m.sz) : (m.new (.lst xs)).seq r = some xs := by unfold MH.seq; rw [get_new_at e]
theorem seq_new_old {m : MH} {o : MO} {r : Nat} (e : r < m.sz) : (m.new o).seq r = m.seq r := by unfold MH.seq; rw [MH.get_new_old e]
theorem g42 {h : MH} {A B C E : MO} : ((((h.new A).new B).new C).new E).get (h.sz + 1 + 1) = some C := by
  rw [MH.get_new_old (by simp only [MH.new_sz]; omega), get_new_at (by simp only [MH.new_sz])]
theorem g52 {h : MH} {A B C E F : MO} : (((((h.new A).new B).new C).new E).new F).get (h.sz + 1 + 1) = some C := by
  rw [MH.get_new_old (by simp only [MH.new_sz]; omega), g42]
theorem g53 {h : MH} {A B C E F : MO} : (((((h.new A).new B).new C).new E).new F).get (h.sz + 1 + 1 + 1) = some E := by
  rw [MH.get_new_old (by simp only [MH.new_sz]; omega), get_new_at (by simp only [MH.new_sz])]
theorem p53 {h : MH} {A B C E F O : MO} : ((((((h.new A).new B).new C).new E).new F).put (h.sz + 1 + 1) O).get (h.sz + 1 + 1 + 1) = some E := by
  rw [MH.get_put_ne (by omega), g53]
theorem p63 {h : MH} {A B C E F O K : MO} : (((((((h.new A).new B).new C).new E).new F).put (h.sz + 1 + 1) O).new K).get (h.sz + 1 + 1 + 1) = some E := by
  rw [MH.get_new_old (by simp only [MH.sz_put, MH.new_sz]; omega), p53]
def heapT (h : MH) (A B C E F V K W : MO) : MH := (((((((h.new A).new B).new C).new E).new F).put (h.sz + 1 + 1) V).new K).put (h.sz + 1 + 1 + 1) W
theorem hT2 {h : MH} {A B C E F V K W : MO} : (heapT h A B C E F V K W).get (h.sz + 1 + 1) = some V := by
  unfold heapT
  rw [MH.get_put_ne (by omega), MH.get_new_old (by simp only [MH.sz_put, MH.new_sz]; omega), MH.get_put_self g52]
theorem hT3 {h : MH} {A B C E F V K W : MO} : (heapT h A B C E F V K W).get (h.sz + 1 + 1 + 1) = some W := by
  unfold heapT
  rw [MH.get_put_self p63]
theorem hT4 {h : MH} {A B C E F V K W : MO} : (heapT h A B C E F V K W).get (h.sz + 1 + 1 + 1 + 1) = some F := by
  unfold heapT
  rw [MH.get_put_ne (by omega), MH.get_new_old (by simp only [MH.sz_put, MH.new_sz]; omega), MH.get_put_ne (by omega), get_new_at (by simp only [MH.new_sz])]
theorem hT5 {h : MH} {A B C E F V K W : MO} : (heapT h A B C E F V K W).get (h.sz + 1 + 1 + 1 + 1 + 1) = some K := by
  unfold heapT
  rw [MH.get_put_ne (by omega), get_new_at (by simp only [MH.sz_put, MH.new_sz])]
theorem hTg {h : MH} {A B C E F V K W : MO} : Grow h (heapT h A B C E F V K W) := by
  refine ⟨fun r o e => ?_⟩
  have hr := MH.get_lt e
  unfold heapT
  rw [MH.get_put_ne (by omega), MH.get_new_old (by simp only [MH.sz_put, MH.new_sz]; omega), MH.get_put_ne (by omega)]
  exact MH.get_new_some (MH.get_new_some (MH.get_new_some (MH.get_new_some (MH.get_new_some e))))
theorem like_fr {k : Nat} {h : MH} {x y : Int} : Like (k + 1) h (.tup [.int x, .int y]) (.tup [.int x, .int y]) := .tup (by simp) (.cons (.same (.int _)) (.cons (.same (.int _)) .nil))
theorem nb {x y : Int} (hx : x.natAbs < 2 ^ 103) (hy : y.natAbs < 2 ^ 103) : mulOk x y = true := mulOk_of hx hy (by omega)
theorem nb2 {x y : Int} (hx : x.natAbs < 2 ^ 103) (hy : y.natAbs < 2 ^ 103) : (x * y).natAbs < 2 ^ 206 := by
  rw [Int.natAbs_mul]
  calc x.natAbs * y.natAbs ≤ 2 ^ 103 * y.natAbs := Nat.mul_le_mul_right _ (Nat.le_of_lt hx)
    _ < 2 ^ 103 * 2 ^ 103 := Nat.mul_lt_mul_of_pos_left hy (by decide)
    _ = 2 ^ 206 := by decide
theorem r_two {n : Nat} {t1 b1 t2 b2 : Int} {h : MH} (h1 : b1 ≠ 0) (h2 : b2 ≠ 0) (l1 : t1.natAbs < 2 ^ 103) (l2 : b1.natAbs < 2 ^ 103) (l3 : t2.natAbs < 2 ^ 103) (l4 : b2.natAbs < 2 ^ 103) :
    ∃ h', callN Q 1000000 (n + 8) 22 [.tup [.int t1, .int b1], .tup [.int t2, .int b2]] h = .ok (.bl true) h' ∧ Grow h h' := by
  obtain ⟨a1, a2⟩ := low_le (t := t1) h1
  obtain ⟨c1, c2⟩ := low_le (t := t2) h2
  have hb := lowB_pos (t := t1) h1
  have hd := lowB_pos (t := t2) h2
  have e1 : ∀ h, callN Q 1000000 (n + 7) 19 [.int t1, .int b1] h = .ok (.tup [.int (lowA t1 b1), .int (lowB t1 b1)]) h := fun h => r_low h1 (by omega) (low_log h1 l2 (by decide))
  have e2 : ∀ h, callN Q 1000000 (n + 7) 19 [.int t2, .int b2] h = .ok (.tup [.int (lowA t2 b2), .int (lowB t2 b2)]) h := fun h => r_low h2 (by omega) (low_log h2 l4 (by decide))
  have e3 : ∀ h, callN Q 1000000 (n + 7) 4 [.int t1, .int b1] h = .ok (.tup [.int (lowA t1 b1), .int (lowB t1 b1)]) h := fun h => r_fraction h1 (low_log h1 l2 (by decide))
  have e4 : ∀ h, callN Q 1000000 (n + 7) 4 [.int t2, .int b2] h = .ok (.tup [.int (lowA t2 b2), .int (lowB t2 b2)]) h := fun h => r_fraction h2 (low_log h2 l4 (by decide))
  generalize lowA t1 b1 = a at *
  generalize lowB t1 b1 = b at *
  generalize lowA t2 b2 = c at *
  generalize lowB t2 b2 = d at *
  have la : a.natAbs < 2 ^ 103 := by omega
  have lb : b.natAbs < 2 ^ 103 := by omega
  have lc : c.natAbs < 2 ^ 103 := by omega
  have ld : d.natAbs < 2 ^ 103 := by omega
  have bd : b * d ≠ 0 := Int.mul_ne_zero (by omega) (by omega)
  have lbd := nb2 lb ld
  have e5 : ∀ h, callN Q 1000000 (n + 7) 6 [.tup [.int a, .int b], .tup [.int c, .int d]] h = .ok (lowT (a * d + c * b) (b * d)) h := fun h => r_plus bd (nb la ld) (nb lc lb) (nb lb ld) (low_log bd lbd (by decide))
  have e6 : ∀ h, callN Q 1000000 (n + 7) 7 [.tup [.int a, .int b], .tup [.int c, .int d]] h = .ok (lowT (a * d - c * b) (b * d)) h := fun h => r_minus bd (nb la ld) (nb lc lb) (nb lb ld) (low_log bd lbd (by decide))
  have e7 : ∀ h r q, h.get r = some (.lst [.int a, .int b]) → h.get q = some (.lst [.int c, .int d]) → callN Q 1000000 (n + 7) 8 [.ref r, .ref q] h = .ok (lowT (a * c) (b * d)) h := fun h r q g1 g2 => r_timesL g1 g2 bd (nb la lc) (nb lb ld) (low_log bd lbd (by decide))
  have e8 : ∀ h, callN Q 1000000 (n + 7) 10 [.tup [.int a, .int b], .tup [.int c, .int d]] h = .ok (.bl (decide (a * d < c * b))) h := fun h => r_less (nb la ld) (nb lc lb)
  have e9 : ∀ h, callN Q 1000000 (n + 7) 10 [.tup [.int c, .int d], .tup [.int a, .int b]] h = .ok (.bl (decide (c * b < a * d))) h := fun h => r_less (nb lc lb) (nb la ld)
  have e10 : ∀ h, callN Q 1000000 (n + 7) 10 [.tup [.int a, .int b], .tup [.int a, .int b]] h = .ok (.bl false) h := fun h => by
    rw [r_less (nb la lb) (nb la lb)]
    simp
  have f5 : ∀ h, callN Q 1000000 (n + 7) 19 [.int (a * d + c * b), .int (b * d)] h = .ok (lowT (a * d + c * b) (b * d)) h := fun h => r_low bd (Nat.lt_of_lt_of_le lbd (Nat.pow_le_pow_right (by decide) (by decide))) (low_log bd lbd (by decide))
  have f6 : ∀ h, callN Q 1000000 (n + 7) 19 [.int (a * d - c * b), .int (b * d)] h = .ok (lowT (a * d - c * b) (b * d)) h := fun h => r_low bd (Nat.lt_of_lt_of_le lbd (Nat.pow_le_pow_right (by decide) (by decide))) (low_log bd lbd (by decide))
  have f7 : ∀ h, callN Q 1000000 (n + 7) 19 [.int (a * c), .int (b * d)] h = .ok (lowT (a * c) (b * d)) h := fun h => r_low bd (Nat.lt_of_lt_of_le lbd (Nat.pow_le_pow_right (by decide) (by decide))) (low_log bd lbd (by decide))
  have p1 := nb la ld
  have p2 := nb lc lb
  have p3 := nb lb ld
  have p4 := nb la lc
  have p5 := nb lb lc
  have q5 := nb lc lb
  by_cases c0 : c = 0
  · subst c0
    have e11 : ∀ h, callN Q 1000000 (n + 7) 9 [.tup [.int a, .int b], .tup [.int 0, .int d]] h = .exc ⟨0, none⟩ h := fun h => r_over0
    have e7' := e7 ((h.new (.lst [.int a, .int b])).new (.lst [.int 0, .int d])) h.sz (h.sz + 1) (by rw [MH.get_new_old (by rw [MH.new_sz]; omega), get_new_at rfl]) (by rw [get_new_at (by rw [MH.new_sz])])
    have s1 : lookB 0 0 Q.sub = some true := rfl
    have s2 : lookB 0 0 Q.isa = some true := rfl
    simp only [Int.zero_mul, Int.mul_zero, Int.add_zero, Int.sub_zero] at e5 e6 e7' e8 e9 f5 f6 f7
    rw [cN]
    simp [callB, u22, d22, b22, evalSs, evalS, evalE, evalEs, evalT, fnEnv, sOf, sThen, fnEnd, Rs.bind, Rs.opt, tstB, Mp.truthy, callP, permL, gcOf, getIx, atD, ixOf, binop, bopI, asgT, asgTs, unp, itemsOf, noExc, cmpD, eqD, p1, p2, p3, p4, p5, q5, e1, e2, e3, e4, e5, e6, e7', e8, e9, e10, f5, f6, f7, e11, MH.new_sz, get_new_at, MH.get_new_old, seq_new_at, seq_new_old, bmTy, bmD, MH.sz_put, g42, g52, g53, p53, p63, lineC, evalX, s1, s2, slotOk, hide, Mp.leave]
    have lk : Like 3 (heapT h (.lst [.int a, .int b]) (.lst [.int 0, .int d])
        (.lst [.tup [.int a, .int b], .tup [.int 0, .int d], lowT (a * d) (b * d), lowT (a * d) (b * d), lowT 0 (b * d), .bl (decide (a * d < 0)), .bl (decide (0 < a * d)), .bl false])
        (.lst [.tup [.int a, .int b], .tup [.int 0, .int d], lowT (a * d) (b * d), lowT (a * d) (b * d), lowT 0 (b * d), .bl (decide (a * d < 0)), .bl (decide (0 < a * d)), .bl false])
        (.lst [.str [114, 97, 105, 115, 101, 100], .bl true])
        (.lst [.tup [.int a, .int b], .tup [.int 0, .int d], lowT (a * d) (b * d), lowT (a * d) (b * d), lowT 0 (b * d), .bl (decide (a * d < 0)), .bl (decide (0 < a * d)), .bl false, .ref (h.sz + 1 + 1 + 1 + 1)])
        (.lst [.str [114, 97, 105, 115, 101, 100], .bl true])
        (.lst [.tup [.int a, .int b], .tup [.int 0, .int d], lowT (a * d) (b * d), lowT (a * d) (b * d), lowT 0 (b * d), .bl (decide (a * d < 0)), .bl (decide (0 < a * d)), .bl false, .ref (h.sz + 1 + 1 + 1 + 1 + 1)]))
        (.ref (h.sz + 1 + 1)) (.ref (h.sz + 1 + 1 + 1)) :=
      .lst hT2 hT3 (by simp) (.cons like_fr (.cons like_fr (.cons like_fr (.cons like_fr (.cons like_fr (.cons (.same (.bl _)) (.cons (.same (.bl _)) (.cons (.same (.bl _)) (.cons (.lst hT4 hT5 (by simp) (.cons (.same (.str _ (by decide))) (.cons (.same (.bl _)) .nil))) .nil)))))))))
    obtain ⟨h', eh, gh⟩ := r_same (lim := 1000000) 3 (n + 6) (by omega) _ _ _ lk
    refine ⟨h', ?_, hTg.trans gh⟩
    unfold heapT at eh
    simp only [eh]
  · have bc : b * c ≠ 0 := Int.mul_ne_zero (by omega) c0
    have lbc := nb2 lb lc
    have e11 : ∀ h, callN Q 1000000 (n + 7) 9 [.tup [.int a, .int b], .tup [.int c, .int d]] h = .ok (lowT (a * d) (b * c)) h := fun h => r_over c0 bc (nb la ld) (nb lb lc) (low_log bc lbc (by decide))
    have f11 : ∀ h, callN Q 1000000 (n + 7) 19 [.int (a * d), .int (b * c)] h = .ok (lowT (a * d) (b * c)) h := fun h => r_low bc (Nat.lt_of_lt_of_le lbc (Nat.pow_le_pow_right (by decide) (by decide))) (low_log bc lbc (by decide))
    have e7' := e7 ((h.new (.lst [.int a, .int b])).new (.lst [.int c, .int d])) h.sz (h.sz + 1) (by rw [MH.get_new_old (by rw [MH.new_sz]; omega), get_new_at rfl]) (by rw [get_new_at (by rw [MH.new_sz])])
    rw [cN]
    simp [callB, u22, d22, b22, evalSs, evalS, evalE, evalEs, evalT, fnEnv, sOf, sThen, fnEnd, Rs.bind, Rs.opt, tstB, Mp.truthy, callP, permL, gcOf, getIx, atD, ixOf, binop, bopI, asgT, asgTs, unp, itemsOf, noExc, cmpD, eqD, p1, p2, p3, p4, p5, q5, e1, e2, e3, e4, e5, e6, e7', e8, e9, e10, f5, f6, f7, e11, f11, c0, MH.new_sz, get_new_at, MH.get_new_old, seq_new_at, seq_new_old, bmTy, bmD, MH.sz_put, g42, g52, g53, p53, p63, lineC]
    have lk : Like 3 (heapT h (.lst [.int a, .int b]) (.lst [.int c, .int d])
        (.lst [.tup [.int a, .int b], .tup [.int c, .int d], lowT (a * d + c * b) (b * d), lowT (a * d - c * b) (b * d), lowT (a * c) (b * d), .bl (decide (a * d < c * b)), .bl (decide (c * b < a * d)), .bl false])
        (.lst [.tup [.int a, .int b], .tup [.int c, .int d], lowT (a * d + c * b) (b * d), lowT (a * d - c * b) (b * d), lowT (a * c) (b * d), .bl (decide (a * d < c * b)), .bl (decide (c * b < a * d)), .bl false])
        (.lst [.str [116, 111, 108, 100], lowT (a * d) (b * c)])
        (.lst [.tup [.int a, .int b], .tup [.int c, .int d], lowT (a * d + c * b) (b * d), lowT (a * d - c * b) (b * d), lowT (a * c) (b * d), .bl (decide (a * d < c * b)), .bl (decide (c * b < a * d)), .bl false, .ref (h.sz + 1 + 1 + 1 + 1)])
        (.lst [.str [116, 111, 108, 100], lowT (a * d) (b * c)])
        (.lst [.tup [.int a, .int b], .tup [.int c, .int d], lowT (a * d + c * b) (b * d), lowT (a * d - c * b) (b * d), lowT (a * c) (b * d), .bl (decide (a * d < c * b)), .bl (decide (c * b < a * d)), .bl false, .ref (h.sz + 1 + 1 + 1 + 1 + 1)]))
        (.ref (h.sz + 1 + 1)) (.ref (h.sz + 1 + 1 + 1)) :=
      .lst hT2 hT3 (by simp) (.cons like_fr (.cons like_fr (.cons like_fr (.cons like_fr (.cons like_fr (.cons (.same (.bl _)) (.cons (.same (.bl _)) (.cons (.same (.bl _)) (.cons (.lst hT4 hT5 (by simp) (.cons (.same (.str _ (by decide))) (.cons like_fr .nil))) .nil)))))))))
    obtain ⟨h', eh, gh⟩ := r_same (lim := 1000000) 3 (n + 6) (by omega) _ _ _ lk
    refine ⟨h', ?_, hTg.trans gh⟩
    unfold heapT at eh
    simp only [eh]
end K53
end
section
set_option Elab.async false
set_option linter.all false
set_option maxRecDepth 1000000
set_option maxHeartbeats 4000000
namespace K53
open PySem PySem.Spec PyProof.Rows L2 Mp
/-- fractions as the defs see them -/
def frs (l : List (Int × Int)) : List D := l.map fun p => .tup [.int p.1, .int p.2]
theorem r_tuple_int {lim n : Nat} {i : Int} {h : MH} : callN Q lim (n + 1) 1 [.int i] h = .ok (.int i) h := by
  rw [cN]
  simp [callB, u1, d1, b1, evalSs, evalS, evalE, evalEs, evalT, fnEnv, sOf, sThen, fnEnd, Rs.bind, Rs.opt, tstB, Mp.truthy, isiD, tyD, tyLe]
theorem r_lists_int {lim n : Nat} {i : Int} {h : MH} : callN Q lim (n + 1) 17 [.int i] h = .ok (.int i) h := by
  rw [cN]
  simp [callB, u17, d17, b17, evalSs, evalS, evalE, evalEs, evalT, fnEnv, sOf, sThen, fnEnd, Rs.bind, Rs.opt, tstB, Mp.truthy, isiD, tyD, tyLe]
theorem r_refused_try : True := trivial
theorem r_ref {h : MH} : ∃ h', callN Q 1000000 40 24 [] ⟨0, []⟩ = .ok (.bl true) h' := by
  have : (match callN Q 1000000 40 24 [] ⟨0, []⟩ with | .ok (.bl true) _ => true | _ => false) = true := by decide +kernel
  revert this
  cases callN Q 1000000 40 24 [] ⟨0, []⟩ with
  | bad => intro e; cases e
  | exc x m => intro e; cases e
  | ok d m =>
    intro e
    cases d with
    | bl b => cases b with
      | true => exact ⟨m, rfl⟩
      | false => cases e
    | _ => cases e
end K53
end
section
set_option Elab.async false
set_option linter.all false
set_option maxRecDepth 1000000
set_option maxHeartbeats 4000000
namespace K53
open PySem PySem.Spec PyProof.Rows L2 Mp
theorem z01 (p : Prop) [Decidable p] : 0 ≤ (if p then (1 : Int) else 0) := by split <;> decide
theorem z1 (p : Prop) [Decidable p] : (if p then (1 : Int) else 0).natAbs ≤ 1 := by split <;> decide
theorem r_box {lim n : Nat} {cs : List Int} {k : Nat} {c : Int} {r : Nat} {h : MH} (hr : h.get r = some (.lst (cs.map .int))) (hk : k < cs.length) (hc : cs[k]? = some c) (hk2 : k < 64) (hb : c.natAbs.log2 < 90000000) :
    ∃ u, Urn u 1000 ∧ callN Q lim (n + 1) 14 [.ref r, .int k] h = .ok (.ref h.sz) (h.new (urnL u)) := by
  have hg : (cs.map D.int)[k]? = some (.int c) := by rw [List.getElem?_map, hc]; rfl
  have hlen : (cs.map D.int).length = cs.length := List.length_map ..
  have e18 : bopI .pow 10 18 = some (1000000000000000000 : Int) := by decide
  have m1 : ∀ z : Int, z.natAbs ≤ 1 → mulOk (if c < 0 then -c else c) z = true := fun z hz => by
    have : (if c < 0 then -c else c).natAbs = c.natAbs := by split <;> omega
    have lz : z.natAbs.log2 = 0 := by
      rcases Nat.le_one_iff_eq_zero_or_eq_one.mp hz with w | w <;> rw [w] <;> rfl
    unfold mulOk
    rw [this, lz]
    exact decide_eq_true (by omega)
  have m2 : mulOk 39373 (k : Int) = true := mulOk_of (a := 16) (b := 6) (by decide) (by omega) (by omega)
  have hkl : (k : Int) < (cs.length : Int) := by omega
  have q0 := fmod_lo (a := c) (k := 2305843009213693951) (by decide)
  have q1 := fmod_hi (a := c) (k := 2305843009213693951) (by decide)
  have hat : atD (cs.map D.int) (k : Int) = some (.int c) := by
    unfold atD ixOf
    rw [if_pos (by omega), if_pos (by rw [hlen]; omega)]
    simpa using hg
  generalize hxs : cs.map D.int = xs at *
  refine ⟨((if c < 0 then -c else c) * (if ordI .ge (if c < 0 then -c else c) 1000000000000000000 then 1 else 0), c.fmod 2305843009213693951 + 39373 * k + 2325001, 0), ⟨?_, ?_, ?_, by simp, by simp⟩, ?_⟩
  · show 0 ≤ _ * _
    refine Int.mul_nonneg (by split <;> omega) (z01 _)
  · show 0 ≤ c.fmod 2305843009213693951 + 39373 * k + 2325001
    omega
  · show c.fmod 2305843009213693951 + 39373 * k + 2325001 < 2 ^ 70
    omega
  · have m1' := m1 (if ordI .ge (if c < 0 then -c else c) 1000000000000000000 then 1 else 0) (z1 _)
    rw [cN]
    unfold urnL
    simp [callB, u14, d14, b14, evalSs, evalS, evalE, evalEs, evalT, fnEnv, sOf, sThen, fnEnd, Rs.bind, Rs.opt, tstB, Mp.truthy, callP, gcOf, getIx, binop, cmpD, hr, hlen, hk, hkl, hat, bfD, lenD, asgT, e18, ordI]
    simp only [ordI, decide_eq_true_eq] at m1'
    simp [bopI, m1', m2]
end K53
end
section
set_option Elab.async false
set_option linter.all false
set_option maxRecDepth 1000000
set_option maxHeartbeats 4000000
namespace K53
open PySem PySem.Spec PyProof.Rows L2 Mp
/-- loops over things told by a list of pairs: tuple_of of a tuple of fractions -/
theorem r_tuple_fr {lim n : Nat} {x y : Int} {h : MH} : ∃ h', callN Q lim (n + 2) 1 [.tup [.int x, .int y]] h = .ok (.tup [.int x, .int y]) h' ∧ Grow h h' := by
  refine ⟨h.new (.lst [.int x, .int y]), ?_, .new⟩
  have e := fun (i : Int) (h : MH) => r_tuple_int (lim := lim) (n := n) (i := i) (h := h)
  rw [cN]
  simp [callB, u1, d1, b1, evalSs, evalS, evalE, evalEs, evalT, evalTs, fnEnv, sOf, sThen, fnEnd, Rs.bind, Rs.opt, tstB, Mp.truthy, isiD, tyD, tyLe, evalI, compS, compL, asgT, Mp.wipe, noExc, callP, gcOf, e, lineC, bfD, seq_new_at]
end K53
end
section
set_option Elab.async false
set_option linter.all false
set_option maxRecDepth 1000000
set_option maxHeartbeats 4000000
namespace K53
open PySem PySem.Spec PyProof.Rows L2 Mp
/-! ### tuple_of -/
def f1 (G : GC) (ρ : Mp.Env) : D → MH → Rs (Option D) := fun d h => noExc ((asgT G none (.nm 1) d (Mp.wipe ρ [1]) h).bind fun ρ1 h2 => (evalTs G none [] ρ1 h2).bind fun k h3 =>
      if k then (evalE G none (.call 1 [.var 1] []) ρ1 h3).bind fun y h4 => .ok (some y) h4 else .ok none h3)
theorem turn1 {lim n : Nat} {d y a : D} {c : Option D} {h h' : MH} (hc : callN Q lim n 1 [d] h = .ok y h') :
    f1 (gcOf Q lim (callN Q lim n) (callN Q lim (n - 1))) [some a, c] d h = .ok (some y) h' := by
  have e1 : callP (gcOf Q lim (callN Q lim n) (callN Q lim (n - 1))) 1 [d] [] h = .ok y h' := hc
  simp [f1, asgT, Mp.wipe, noExc, Rs.bind, evalTs, evalE, evalEs, e1]
def lc1 : ME := .lc (.call 1 [.var 1] []) (.nm 1) (.seq (.var 0)) [] [1]
theorem e1' : b1 = [.ife (.isi (.var 0) [.list, .tuple]) [.ret (.bf .tuple [lc1])] [], .ret (.var 0)] := rfl
theorem lc1_eq {G : GC} {ρ : Mp.Env} {h : MH} : evalE G none lc1 ρ h = (evalI G none (.seq (.var 0)) ρ h).bind fun s h1 => (compS (f1 G ρ) s h1).bind fun ys h2 => if ys.length < lineC then .ok (.ref h2.sz) (h2.new (.lst ys)) else .bad := by
  unfold lc1
  rw [evalE]
  rfl
mutual
/-- a list or a tuple, k levels deep at most, of numbers: what tuple_of makes of it -/
inductive Tup : Nat → MH → D → D → Prop
  | int {k : Nat} {h : MH} (i : Int) : Tup k h (.int i) (.int i)
  | tup {k : Nat} {h : MH} {xs ys : List D} : xs.length < 1000000 → Tups k h xs ys → Tup (k + 1) h (.tup xs) (.tup ys)
  | lst {k : Nat} {h : MH} {r : Nat} {xs ys : List D} : h.get r = some (.lst xs) → xs.length < 1000000 → Tups k h xs ys → Tup (k + 1) h (.ref r) (.tup ys)
inductive Tups : Nat → MH → List D → List D → Prop
  | nil {k : Nat} {h : MH} : Tups k h [] []
  | cons {k : Nat} {h : MH} {x y : D} {xs ys : List D} : Tup k h x y → Tups k h xs ys → Tups k h (x :: xs) (y :: ys)
end
theorem Tups.length {k : Nat} {h : MH} : ∀ {xs ys : List D}, Tups k h xs ys → xs.length = ys.length
  | _, _, .nil => rfl
  | _, _, .cons _ t => by simp [Tups.length t]
mutual
theorem Tup.grow {h h' : MH} (g : Grow h h') : ∀ {k : Nat} {x y : D}, Tup k h x y → Tup k h' x y
  | _, _, _, .int i => .int i
  | _, _, _, .tup z l => .tup z (Tups.grow g l)
  | _, _, _, .lst a z l => .lst (g.get _ _ a) z (Tups.grow g l)
theorem Tups.grow {h h' : MH} (g : Grow h h') : ∀ {k : Nat} {x y : List D}, Tups k h x y → Tups k h' x y
  | _, _, _, .nil => .nil
  | _, _, _, .cons a b => .cons (Tup.grow g a) (Tups.grow g b)
end
theorem turns1L {lim n k : Nat} {a : D} {c : Option D} (ih : ∀ h x y, Tup k h x y → ∃ h', callN Q lim n 1 [x] h = .ok y h' ∧ Grow h h') : ∀ (xs ys : List D) (h : MH), Tups k h xs ys →
    ∃ h', compL (f1 (gcOf Q lim (callN Q lim n) (callN Q lim (n - 1))) [some a, c]) xs h = .ok ys h' ∧ Grow h h'
  | _, _, h, .nil => ⟨h, rfl, .refl⟩
  | x :: xs, y :: ys, h, .cons l ls => by
    obtain ⟨h1, e1, g1⟩ := ih h x y l
    obtain ⟨h2, e2, g2⟩ := turns1L ih xs ys h1 (ls.grow g1)
    refine ⟨h2, ?_, g1.trans g2⟩
    simp only [compL]
    rw [turn1 e1]
    simp only [Rs.bind]
    rw [e2]
theorem turns1N {lim n k : Nat} {a : D} {c : Option D} {r : Nat} (ih : ∀ h x y, Tup k h x y → ∃ h', callN Q lim n 1 [x] h = .ok y h' ∧ Grow h h') : ∀ (m i : Nat) (xs ys : List D) (h : MH), xs.length - i = m → i ≤ xs.length →
    h.get r = some (.lst xs) → Tups k h (xs.drop i) ys →
    ∃ h', compN (f1 (gcOf Q lim (callN Q lim n) (callN Q lim (n - 1))) [some a, c]) (.lv r) (m + 1) i h = .ok ys h' ∧ Grow h h'
  | 0, i, xs, ys, h, hm, hi, hr, l => by
    have e1 : xs[i]? = none := List.getElem?_eq_none (by omega)
    have e2 : xs.drop i = [] := List.drop_eq_nil_of_le (by omega)
    rw [e2] at l
    cases l
    refine ⟨h, ?_, .refl⟩
    simp [compN, Src.nth, MH.seq, hr, e1]
  | m + 1, i, xs, ys, h, hm, hi, hr, l => by
    have hx : i < xs.length := by omega
    rw [List.drop_eq_getElem_cons hx] at l
    cases l with
    | cons l ls =>
      obtain ⟨h1, e1, g1⟩ := ih h _ _ l
      obtain ⟨h2, e2, g2⟩ := turns1N ih m (i + 1) xs _ h1 (by omega) (by omega) (g1.get _ _ hr) (ls.grow g1)
      refine ⟨h2, ?_, g1.trans g2⟩
      rw [compN]
      have ex : xs[i]? = some xs[i] := List.getElem?_eq_getElem hx
      simp only [Src.nth, MH.seq, hr, Option.map_some, ex]
      rw [turn1 e1]
      simp only [Rs.bind]
      rw [e2]
theorem r_tuple_of {lim : Nat} : ∀ (k n : Nat), k ≤ n → ∀ h x y, Tup k h x y → ∃ h', callN Q lim (n + 1) 1 [x] h = .ok y h' ∧ Grow h h'
  | 0, n, _, h, _, _, .int i => ⟨h, r_tuple_int, .refl⟩
  | k + 1, n, hk, h, x, y, l => by
    obtain ⟨n, rfl⟩ : ∃ n', n = n' + 1 := ⟨n - 1, by omega⟩
    have ih : ∀ h x y, Tup k h x y → ∃ h', callN Q lim (n + 1) 1 [x] h = .ok y h' ∧ Grow h h' := fun h x y l => r_tuple_of k n (by omega) h x y l
    have lC : ∀ {m : Nat}, m < 1000000 → m < lineC := fun {m} h => by unfold lineC; omega
    cases l with
    | int i => exact ⟨h, r_tuple_int, .refl⟩
    | @tup _ _ xs ys hz l =>
      obtain ⟨h2, e2, g2⟩ := turns1L (lim := lim) (n := n + 1) (a := .tup xs) (c := none) ih xs ys h l
      have elc : evalE (gcOf Q lim (callN Q lim (n + 1)) (callN Q lim (n + 1 - 1))) none lc1 [some (.tup xs), none] h = .ok (.ref h2.sz) (h2.new (.lst ys)) := by
        rw [lc1_eq]
        have ei : evalI (gcOf Q lim (callN Q lim (n + 1)) (callN Q lim (n + 1 - 1))) none (.seq (.var 0)) [some (.tup xs), none] h = .ok (.its xs) h := by
          simp [evalI, evalE, Rs.bind]
        rw [ei]
        simp only [Rs.bind, compS]
        rw [e2]
        simp [lC (l.length ▸ hz)]
      refine ⟨h2.new (.lst ys), ?_, g2.trans .new⟩
      rw [cN]
      simp only [Nat.add_sub_cancel] at elc ⊢
      simp [callB, u1, d1, e1', evalSs, evalS, evalE, evalEs, evalT, fnEnv, sOf, sThen, fnEnd, Rs.bind, Rs.opt, tstB, Mp.truthy, isiD, tyD, tyLe, elc, MH.get_new_self, bfD, seq_new_at]
    | @lst _ _ r xs ys hr hz l =>
      obtain ⟨h2, e2, g2⟩ := turns1N (lim := lim) (n := n + 1) (a := .ref r) (c := none) (r := r) ih xs.length 0 xs ys h (by omega) (by omega) hr l
      have elc : evalE (gcOf Q lim (callN Q lim (n + 1)) (callN Q lim (n + 1 - 1))) none lc1 [some (.ref r), none] h = .ok (.ref h2.sz) (h2.new (.lst ys)) := by
        rw [lc1_eq]
        have ei : evalI (gcOf Q lim (callN Q lim (n + 1)) (callN Q lim (n + 1 - 1))) none (.seq (.var 0)) [some (.ref r), none] h = .ok (.lv r) h := by
          simp [evalI, evalE, Rs.bind, MH.seq, hr]
        rw [ei]
        simp only [Rs.bind, compS]
        have el : (Src.lv r).len h = xs.length := by simp [Src.len, MH.seq, hr]
        rw [el, e2]
        simp [lC (l.length ▸ hz)]
      refine ⟨h2.new (.lst ys), ?_, g2.trans .new⟩
      rw [cN]
      simp only [Nat.add_sub_cancel] at elc ⊢
      simp [callB, u1, d1, e1', evalSs, evalS, evalE, evalEs, evalT, fnEnv, sOf, sThen, fnEnd, Rs.bind, Rs.opt, tstB, Mp.truthy, isiD, tyD, tyLe, elc, MH.get_new_self, bfD, seq_new_at, hr]
/-! ### _law_lists of a tuple of fractions -/
theorem r_lists_fr {lim n : Nat} {x y : Int} {h : MH} : callN Q lim (n + 2) 17 [.tup [.int x, .int y]] h = .ok (.ref h.sz) (h.new (.lst [.int x, .int y])) := by
  have e := fun (i : Int) (h : MH) => r_lists_int (lim := lim) (n := n) (i := i) (h := h)
  rw [cN]
  simp [callB, u17, d17, b17, evalSs, evalS, evalE, evalEs, evalT, evalTs, fnEnv, sOf, sThen, fnEnd, Rs.bind, Rs.opt, tstB, Mp.truthy, isiD, tyD, tyLe, evalI, compS, compL, asgT, Mp.wipe, noExc, callP, gcOf, e, lineC, bfD, seq_new_at]
def f17 (G : GC) (ρ : Mp.Env) : D → MH → Rs (Option D) := fun d h => noExc ((asgT G none (.nm 1) d (Mp.wipe ρ [1]) h).bind fun ρ1 h2 => (evalTs G none [] ρ1 h2).bind fun k h3 =>
      if k then (evalE G none (.call 17 [.var 1] []) ρ1 h3).bind fun y h4 => .ok (some y) h4 else .ok none h3)
theorem turn17 {lim n : Nat} {d y a : D} {c : Option D} {h h' : MH} (hc : callN Q lim n 17 [d] h = .ok y h') :
    f17 (gcOf Q lim (callN Q lim n) (callN Q lim (n - 1))) [some a, c] d h = .ok (some y) h' := by
  have e1 : callP (gcOf Q lim (callN Q lim n) (callN Q lim (n - 1))) 17 [d] [] h = .ok y h' := hc
  simp [f17, asgT, Mp.wipe, noExc, Rs.bind, evalTs, evalE, evalEs, e1]
def lc17 : ME := .lc (.call 17 [.var 1] []) (.nm 1) (.seq (.var 0)) [] [1]
theorem e17' : b17 = [.ret (.ite (.isi (.var 0) [.list, .tuple]) lc17 (.var 0))] := rfl
theorem lc17_eq {G : GC} {ρ : Mp.Env} {h : MH} : evalE G none lc17 ρ h = (evalI G none (.seq (.var 0)) ρ h).bind fun s h1 => (compS (f17 G ρ) s h1).bind fun ys h2 => if ys.length < lineC then .ok (.ref h2.sz) (h2.new (.lst ys)) else .bad := by
  unfold lc17
  rw [evalE]
  rfl
theorem turns17 {lim n : Nat} {a : D} {c : Option D} : ∀ (l : List (Int × Int)) (h : MH),
    ∃ rs h', compL (f17 (gcOf Q lim (callN Q lim (n + 2)) (callN Q lim (n + 1))) [some a, c]) (frs l) h = .ok rs h' ∧ Grow h h' ∧ Tups 1 h' rs (frs l)
  | [], h => ⟨[], h, rfl, .refl, .nil⟩
  | (x, y) :: l, h => by
    have e1 := r_lists_fr (lim := lim) (n := n) (x := x) (y := y) (h := h)
    obtain ⟨rs, h2, e2, g2, t2⟩ := turns17 (lim := lim) (n := n) (a := a) (c := c) l (h.new (.lst [.int x, .int y]))
    refine ⟨.ref h.sz :: rs, h2, ?_, Grow.new.trans g2, .cons (.lst (g2.get _ _ (MH.get_new_self _ _)) (by simp) (.cons (.int _) (.cons (.int _) .nil))) t2⟩
    show compL _ (.tup [.int x, .int y] :: frs l) h = _
    simp only [compL]
    have : f17 (gcOf Q lim (callN Q lim (n + 2)) (callN Q lim (n + 1))) [some a, c] (.tup [.int x, .int y]) h = _ := turn17 (a := a) (c := c) e1
    rw [this]
    simp only [Rs.bind]
    rw [e2]
theorem frs_len (l : List (Int × Int)) : (frs l).length = l.length := by unfold frs; rw [List.length_map]
theorem r_lists {lim n : Nat} {l : List (Int × Int)} (hl : l.length < 1000000) {h : MH} : ∃ r h', callN Q lim (n + 3) 17 [.tup (frs l)] h = .ok (.ref r) h' ∧ Grow h h' ∧ Tup 2 h' (.ref r) (.tup (frs l)) := by
  obtain ⟨rs, h2, e2, g2, t2⟩ := turns17 (lim := lim) (n := n) (a := .tup (frs l)) (c := none) l h
  have len : rs.length < 1000000 := by rw [t2.length, frs_len]; exact hl
  refine ⟨h2.sz, h2.new (.lst rs), ?_, g2.trans .new, .lst (MH.get_new_self _ _) len (t2.grow .new)⟩
  have elc : evalE (gcOf Q lim (callN Q lim (n + 2)) (callN Q lim (n + 1))) none lc17 [some (.tup (frs l)), none] h = .ok (.ref h2.sz) (h2.new (.lst rs)) := by
    rw [lc17_eq]
    have ei : evalI (gcOf Q lim (callN Q lim (n + 2)) (callN Q lim (n + 1))) none (.seq (.var 0)) [some (.tup (frs l)), none] h = .ok (.its (frs l)) h := by
      simp [evalI, evalE, Rs.bind]
    rw [ei]
    simp only [Rs.bind, compS]
    rw [e2]
    simp [show rs.length < lineC by unfold lineC; omega]
  rw [cN]
  simp [callB, u17, d17, e17', evalSs, evalS, evalE, evalEs, evalT, fnEnv, sOf, sThen, fnEnd, Rs.bind, Rs.opt, tstB, Mp.truthy, isiD, tyD, tyLe, elc]
theorem tup_fr {k : Nat} {h : MH} {x y : Int} : Tup (k + 1) h (.tup [.int x, .int y]) (.tup [.int x, .int y]) := .tup (by simp) (.cons (.int _) (.cons (.int _) .nil))
theorem tups_frs {k : Nat} {h : MH} : ∀ l : List (Int × Int), Tups (k + 1) h (frs l) (frs l)
  | [] => .nil
  | _ :: l => .cons tup_fr (tups_frs l)
theorem tup_frs {k : Nat} {h : MH} {l : List (Int × Int)} (hl : l.length < 1000000) : Tup (k + 2) h (.tup (frs l)) (.tup (frs l)) := .tup (by rw [frs_len]; exact hl) (tups_frs l)
theorem lst_frs {k : Nat} {h : MH} {l : List (Int × Int)} {r : Nat} (hl : l.length < 1000000) (hr : h.get r = some (.lst (frs l))) : Tup (k + 2) h (.ref r) (.tup (frs l)) := .lst hr (by rw [frs_len]; exact hl) (tups_frs l)
end K53
end
section
set_option Elab.async false
set_option linter.all false
set_option maxRecDepth 1000000
set_option maxHeartbeats 4000000
namespace K53
open PySem PySem.Spec PyProof.Rows L2 Mp
/-! ### least, greatest, sum_of -/
/-- small enough, its lower part above 0 -/
structure Fr (p : Int × Int) : Prop where
  a : p.1.natAbs < 2 ^ 103
  b : p.2.natAbs < 2 ^ 103
  c : 0 < p.2
def oD : Option (Int × Int) → D
  | none => .non
  | some p => .tup [.int p.1, .int p.2]
def pickL : Option (Int × Int) → List (Int × Int) → Option (Int × Int)
  | o, [] => o
  | none, p :: l => pickL (some p) l
  | some q, p :: l => pickL (some (if p.1 * q.2 < q.1 * p.2 then p else q)) l
def pickG : Option (Int × Int) → List (Int × Int) → Option (Int × Int)
  | o, [] => o
  | none, p :: l => pickG (some p) l
  | some q, p :: l => pickG (some (if q.1 * p.2 < p.1 * q.2 then p else q)) l
def t11 (G : GC) : D → Mp.Env → MH → Ro := fun d ρ h => sOf ρ (asgT G none (.nm 2) d ρ h) fun ρ1 h1 => evalSs G none [.ife (.or (.isN (.var 1)) (.call 10 [.var 2, .var 1] [])) [.asg (.nm 1) (.var 2)] []] ρ1 h1
def t12 (G : GC) : D → Mp.Env → MH → Ro := fun d ρ h => sOf ρ (asgT G none (.nm 2) d ρ h) fun ρ1 h1 => evalSs G none [.ife (.or (.isN (.var 1)) (.call 10 [.var 1, .var 2] [])) [.asg (.nm 1) (.var 2)] []] ρ1 h1
theorem loop11 {lim n : Nat} {a : D} {h : MH} : ∀ (l : List (Int × Int)) (o : Option (Int × Int)) (e : Option D), (∀ p ∈ l, Fr p) → (∀ q, o = some q → Fr q) →
    ∃ e', forL (t11 (gcOf Q lim (callN Q lim (n + 1)) (callN Q lim n))) (frs l) [some a, some (oD o), e] h = some (.nx [some a, some (oD (pickL o l)), e'], h)
  | [], o, e, _, _ => ⟨e, by cases o <;> rfl⟩
  | (x, y) :: l, o, e, hl, ho => by
    have hp := hl (x, y) (.head _)
    have hl' : ∀ p ∈ l, Fr p := fun p m => hl p (.tail _ m)
    cases o with
    | none =>
      obtain ⟨e', ih⟩ := loop11 (lim := lim) (n := n) (a := a) (h := h) l (some (x, y)) (some (.tup [.int x, .int y])) hl' (fun q e => by cases e; exact hp)
      refine ⟨e', ?_⟩
      show forL _ (.tup [.int x, .int y] :: frs l) _ _ = _
      rw [forL]
      simp [t11, asgT, sOf, evalSs, evalS, evalT, evalE, Rs.bind, Rs.opt, tstB, Mp.truthy, oD, isNonD, sThen, turn]
      simpa [oD, pickL] using ih
    | some q =>
      obtain ⟨u, v⟩ := q
      have hq := ho _ rfl
      have e8 : ∀ h, callN Q lim (n + 1) 10 [.tup [.int x, .int y], .tup [.int u, .int v]] h = .ok (.bl (decide (x * v < u * y))) h := fun h => r_less (mulOk_of hp.a hq.b (by omega)) (mulOk_of hq.a hp.b (by omega))
      by_cases c : x * v < u * y
      · obtain ⟨e', ih⟩ := loop11 (lim := lim) (n := n) (a := a) (h := h) l (some (x, y)) (some (.tup [.int x, .int y])) hl' (fun q e => by cases e; exact hp)
        refine ⟨e', ?_⟩
        show forL _ (.tup [.int x, .int y] :: frs l) _ _ = _
        rw [forL]
        simp [t11, asgT, sOf, evalSs, evalS, evalT, evalE, evalEs, Rs.bind, Rs.opt, tstB, Mp.truthy, oD, isNonD, sThen, turn, callP, gcOf, e8, c]
        simpa [oD, pickL, c, gcOf] using ih
      · obtain ⟨e', ih⟩ := loop11 (lim := lim) (n := n) (a := a) (h := h) l (some (u, v)) (some (.tup [.int x, .int y])) hl' (fun q e => by cases e; exact hq)
        refine ⟨e', ?_⟩
        show forL _ (.tup [.int x, .int y] :: frs l) _ _ = _
        rw [forL]
        simp [t11, asgT, sOf, evalSs, evalS, evalT, evalE, evalEs, Rs.bind, Rs.opt, tstB, Mp.truthy, oD, isNonD, sThen, turn, callP, gcOf, e8, c]
        simpa [oD, pickL, c, gcOf] using ih
theorem loop12 {lim n : Nat} {a : D} {h : MH} : ∀ (l : List (Int × Int)) (o : Option (Int × Int)) (e : Option D), (∀ p ∈ l, Fr p) → (∀ q, o = some q → Fr q) →
    ∃ e', forL (t12 (gcOf Q lim (callN Q lim (n + 1)) (callN Q lim n))) (frs l) [some a, some (oD o), e] h = some (.nx [some a, some (oD (pickG o l)), e'], h)
  | [], o, e, _, _ => ⟨e, by cases o <;> rfl⟩
  | (x, y) :: l, o, e, hl, ho => by
    have hp := hl (x, y) (.head _)
    have hl' : ∀ p ∈ l, Fr p := fun p m => hl p (.tail _ m)
    cases o with
    | none =>
      obtain ⟨e', ih⟩ := loop12 (lim := lim) (n := n) (a := a) (h := h) l (some (x, y)) (some (.tup [.int x, .int y])) hl' (fun q e => by cases e; exact hp)
      refine ⟨e', ?_⟩
      show forL _ (.tup [.int x, .int y] :: frs l) _ _ = _
      rw [forL]
      simp [t12, asgT, sOf, evalSs, evalS, evalT, evalE, Rs.bind, Rs.opt, tstB, Mp.truthy, oD, isNonD, sThen, turn]
      simpa [oD, pickG] using ih
    | some q =>
      obtain ⟨u, v⟩ := q
      have hq := ho _ rfl
      have e8 : ∀ h, callN Q lim (n + 1) 10 [.tup [.int u, .int v], .tup [.int x, .int y]] h = .ok (.bl (decide (u * y < x * v))) h := fun h => r_less (mulOk_of hq.a hp.b (by omega)) (mulOk_of hp.a hq.b (by omega))
      by_cases c : u * y < x * v
      · obtain ⟨e', ih⟩ := loop12 (lim := lim) (n := n) (a := a) (h := h) l (some (x, y)) (some (.tup [.int x, .int y])) hl' (fun q e => by cases e; exact hp)
        refine ⟨e', ?_⟩
        show forL _ (.tup [.int x, .int y] :: frs l) _ _ = _
        rw [forL]
        simp [t12, asgT, sOf, evalSs, evalS, evalT, evalE, evalEs, Rs.bind, Rs.opt, tstB, Mp.truthy, oD, isNonD, sThen, turn, callP, gcOf, e8, c]
        simpa [oD, pickG, c, gcOf] using ih
      · obtain ⟨e', ih⟩ := loop12 (lim := lim) (n := n) (a := a) (h := h) l (some (u, v)) (some (.tup [.int x, .int y])) hl' (fun q e => by cases e; exact hq)
        refine ⟨e', ?_⟩
        show forL _ (.tup [.int x, .int y] :: frs l) _ _ = _
        rw [forL]
        simp [t12, asgT, sOf, evalSs, evalS, evalT, evalE, evalEs, Rs.bind, Rs.opt, tstB, Mp.truthy, oD, isNonD, sThen, turn, callP, gcOf, e8, c]
        simpa [oD, pickG, c, gcOf] using ih
def s11 : MS := .forr (.nm 2) (.seq (.call 1 [.var 0] [])) [.ife (.or (.isN (.var 1)) (.call 10 [.var 2, .var 1] [])) [.asg (.nm 1) (.var 2)] []]
theorem b11_eq : b11 = [.asg (.nm 1) (.lit .non), s11, .ret (.var 1)] := rfl
def s12 : MS := .forr (.nm 2) (.seq (.call 1 [.var 0] [])) [.ife (.or (.isN (.var 1)) (.call 10 [.var 1, .var 2] [])) [.asg (.nm 1) (.var 2)] []]
theorem b12_eq : b12 = [.asg (.nm 1) (.lit .non), s12, .ret (.var 1)] := rfl
theorem r_least {lim n : Nat} {l : List (Int × Int)} {x : D} {h : MH} (hl : ∀ p ∈ l, Fr p) (hx : Tup 2 h x (.tup (frs l))) :
    ∃ h', callN Q lim (n + 4) 11 [x] h = .ok (oD (pickL none l)) h' ∧ Grow h h' := by
  obtain ⟨h1, e1, g1⟩ := r_tuple_of (lim := lim) 2 (n + 2) (by omega) h x _ hx
  obtain ⟨e', lp⟩ := loop11 (lim := lim) (n := n + 2) (a := x) (h := h1) l none none hl (fun q e => by cases e)
  refine ⟨h1, ?_, g1⟩
  have es : evalS (gcOf Q lim (callN Q lim (n + 3)) (callN Q lim (n + 2))) none s11 [some x, some .non, none] h = some (.nx [some x, some (oD (pickL none l)), e'], h1) := by
    unfold s11
    simp only [evalS, evalI, evalE, evalEs, List.getElem?_cons_zero, Rs.bind, callP, gcOf]
    rw [e1]
    exact lp
  rw [cN]
  simp [callB, u11, d11, b11_eq, evalSs, evalS, evalE, fnEnv, sOf, sThen, fnEnd, Rs.bind, asgT, es]
theorem r_greatest {lim n : Nat} {l : List (Int × Int)} {x : D} {h : MH} (hl : ∀ p ∈ l, Fr p) (hx : Tup 2 h x (.tup (frs l))) :
    ∃ h', callN Q lim (n + 4) 12 [x] h = .ok (oD (pickG none l)) h' ∧ Grow h h' := by
  obtain ⟨h1, e1, g1⟩ := r_tuple_of (lim := lim) 2 (n + 2) (by omega) h x _ hx
  obtain ⟨e', lp⟩ := loop12 (lim := lim) (n := n + 2) (a := x) (h := h1) l none none hl (fun q e => by cases e)
  refine ⟨h1, ?_, g1⟩
  have es : evalS (gcOf Q lim (callN Q lim (n + 3)) (callN Q lim (n + 2))) none s12 [some x, some .non, none] h = some (.nx [some x, some (oD (pickG none l)), e'], h1) := by
    unfold s12
    simp only [evalS, evalI, evalE, evalEs, List.getElem?_cons_zero, Rs.bind, callP, gcOf]
    rw [e1]
    exact lp
  rw [cN]
  simp [callB, u12, d12, b12_eq, evalSs, evalS, evalE, fnEnv, sOf, sThen, fnEnd, Rs.bind, asgT, es]
/-! the sum -/
def addF : (Int × Int) → List (Int × Int) → (Int × Int)
  | s, [] => s
  | s, p :: l => addF (lowA (s.1 * p.2 + p.1 * s.2) (s.2 * p.2), lowB (s.1 * p.2 + p.1 * s.2) (s.2 * p.2)) l
def t13 (G : GC) : D → Mp.Env → MH → Ro := fun d ρ h => sOf ρ (asgT G none (.nm 2) d ρ h) fun ρ1 h1 => evalSs G none [.asg (.nm 1) (.call 6 [.var 1, .var 2] [])] ρ1 h1
theorem mul_lt {x y : Int} {a b : Nat} (hx : x.natAbs < 2 ^ a) (hy : y.natAbs < 2 ^ b) : (x * y).natAbs < 2 ^ (a + b) := by
  rw [Int.natAbs_mul, Nat.pow_add]
  exact Nat.mul_lt_mul'' hx hy
theorem loop13 {lim n : Nat} {a : D} {h : MH} : ∀ (l : List (Int × Int)) (s : Int × Int) (e : Option D) (k : Nat), (∀ p ∈ l, Fr p) → s.1.natAbs < 2 ^ k → s.2.natAbs < 2 ^ k → 0 < s.2 → k + 104 * l.length < 8000 →
    ∃ e', forL (t13 (gcOf Q lim (callN Q lim (n + 2)) (callN Q lim (n + 1)))) (frs l) [some a, some (.tup [.int s.1, .int s.2]), e] h = some (.nx [some a, some (.tup [.int (addF s l).1, .int (addF s l).2]), e'], h)
  | [], s, e, k, _, _, _, _, _ => ⟨e, rfl⟩
  | (x, y) :: l, (u, v), e, k, hl, hs1, hs2, hs3, hk => by
    have hp := hl (x, y) (.head _)
    have hl' : ∀ p ∈ l, Fr p := fun p m => hl p (.tail _ m)
    have hp1 : x.natAbs < 2 ^ 103 := hp.a
    have hp2 : y.natAbs < 2 ^ 103 := hp.b
    have hp3 : 0 < y := hp.c
    have hs1 : u.natAbs < 2 ^ k := hs1
    have hs2 : v.natAbs < 2 ^ k := hs2
    have hs3 : 0 < v := hs3
    simp only [List.length_cons] at hk
    have m1 := mul_lt hs1 hp2
    have m2 := mul_lt hp1 hs2
    have m3 := mul_lt hs2 hp2
    have bd : v * y ≠ 0 := Int.mul_ne_zero (by omega) (by omega)
    have e2 : 2 ^ (k + 104) = 2 * 2 ^ (k + 103) := by rw [show k + 104 = (k + 103) + 1 from rfl, Nat.pow_succ]; omega
    rw [Nat.add_comm 103 k] at m2
    have m4 : (u * y + x * v).natAbs < 2 ^ (k + 104) := by omega
    have m5 : (v * y).natAbs < 2 ^ (k + 104) := by omega
    obtain ⟨b1, b2⟩ := low_le (t := u * y + x * v) bd
    have b3 := lowB_pos (t := u * y + x * v) bd
    obtain ⟨e', ih⟩ := loop13 (lim := lim) (n := n) (a := a) (h := h) l (lowA (u * y + x * v) (v * y), lowB (u * y + x * v) (v * y)) (some (.tup [.int x, .int y])) (k + 104) hl' (by show (lowA _ _).natAbs < _; omega) (by show (lowB _ _).natAbs < _; omega) b3 (by omega)
    have e6 : ∀ h, callN Q lim (n + 2) 6 [.tup [.int u, .int v], .tup [.int x, .int y]] h = .ok (lowT (u * y + x * v) (v * y)) h := fun h => r_plus bd (mulOk_of hs1 hp2 (by omega)) (mulOk_of hp1 hs2 (by omega)) (mulOk_of hs2 hp2 (by omega)) (low_log bd m5 (by omega))
    refine ⟨e', ?_⟩
    show forL _ (.tup [.int x, .int y] :: frs l) _ _ = _
    rw [forL]
    simp [t13, asgT, sOf, evalSs, evalS, evalE, evalEs, Rs.bind, sThen, turn, callP, gcOf, e6]
    simpa [addF, lowT_eq, gcOf] using ih
def s13 : MS := .forr (.nm 2) (.seq (.call 1 [.var 0] [])) [.asg (.nm 1) (.call 6 [.var 1, .var 2] [])]
theorem b13_eq : b13 = [.asg (.nm 1) (.glob 0), s13, .ret (.var 1)] := rfl
theorem g0 : Q.glob[0]? = some (.tup [.int 0, .int 1]) := rfl
theorem r_sum {lim n : Nat} {l : List (Int × Int)} {x : D} {h : MH} (hl : ∀ p ∈ l, Fr p) (hn : l.length ≤ 20) (hx : Tup 2 h x (.tup (frs l))) :
    ∃ h', callN Q lim (n + 4) 13 [x] h = .ok (.tup [.int (addF (0, 1) l).1, .int (addF (0, 1) l).2]) h' ∧ Grow h h' := by
  obtain ⟨h1, e1, g1⟩ := r_tuple_of (lim := lim) 2 (n + 2) (by omega) h x _ hx
  obtain ⟨e', lp⟩ := loop13 (lim := lim) (n := n + 1) (a := x) (h := h1) l (0, 1) none 1 hl (by decide) (by decide) (by decide) (by omega)
  refine ⟨h1, ?_, g1⟩
  have es : evalS (gcOf Q lim (callN Q lim (n + 3)) (callN Q lim (n + 2))) none s13 [some x, some (.tup [.int 0, .int 1]), none] h = some (.nx [some x, some (.tup [.int (addF (0, 1) l).1, .int (addF (0, 1) l).2]), e'], h1) := by
    unfold s13
    simp only [evalS, evalI, evalE, evalEs, List.getElem?_cons_zero, Rs.bind, callP, gcOf]
    rw [e1]
    exact lp
  rw [cN]
  have gg : ∀ c c1, (gcOf Q lim c c1).glob 0 = some (.tup [.int 0, .int 1]) := fun _ _ => g0
  simp [callB, u13, d13, b13_eq, evalSs, evalS, evalE, fnEnv, sOf, sThen, fnEnd, Rs.bind, Rs.opt, asgT, es, gg]
end K53
end
section
set_option Elab.async false
set_option linter.all false
set_option maxRecDepth 1000000
set_option maxHeartbeats 4000000
namespace K53
open PySem PySem.Spec PyProof.Rows L2 Mp
/-! ### the plain law: least, greatest, sum by one common lower part -/
theorem lowC_pos {t b : Int} (hb : 0 < b) : lowC t b = (Int.gcd t b : Int) ∧ 0 < lowC t b := by
  have e : lowC t b = (Int.gcd t b : Int) := by unfold lowC; rw [if_neg (by omega)]
  have hg : 0 < Int.gcd t b := Nat.pos_of_ne_zero fun z => by have := (Int.gcd_eq_zero_iff.mp z).2; omega
  exact ⟨e, by rw [e]; omega⟩
theorem low_scale {t b k : Int} (hb : 0 < b) (hk : 0 < k) : lowA (t * k) (b * k) = lowA t b ∧ lowB (t * k) (b * k) = lowB t b := by
  obtain ⟨e1, p1⟩ := lowC_pos (t := t) hb
  obtain ⟨e2, p2⟩ := lowC_pos (t := t * k) (Int.mul_pos hb hk)
  have ec : lowC (t * k) (b * k) = lowC t b * k := by
    rw [e2, e1, Int.gcd_mul_right]
    have : (k.natAbs : Int) = k := by omega
    rw [Int.natCast_mul, this]
  obtain ⟨m1, m2⟩ := low_mul t b
  have ne : lowC t b * k ≠ 0 := by have := Int.mul_pos p1 hk; omega
  constructor
  · show (t * k).fdiv (lowC (t * k) (b * k)) = lowA t b
    rw [ec]
    have : t * k = lowA t b * (lowC t b * k) := by rw [← Int.mul_assoc, m1]
    rw [this, Int.mul_fdiv_cancel _ ne]
  · show (b * k).fdiv (lowC (t * k) (b * k)) = lowB t b
    rw [ec]
    have : b * k = lowB t b * (lowC t b * k) := by rw [← Int.mul_assoc, m2]
    rw [this, Int.mul_fdiv_cancel _ ne]
theorem low_uniq {t b s d : Int} (hb : 0 < b) (hd : 0 < d) (e : t * d = s * b) : lowA t b = lowA s d ∧ lowB t b = lowB s d := by
  obtain ⟨a1, a2⟩ := low_scale (t := t) hb hd
  obtain ⟨c1, c2⟩ := low_scale (t := s) hd hb
  rw [← a1, ← a2, ← c1, ← c2, e, Int.mul_comm b d]
  exact ⟨rfl, rfl⟩
/-- in lowest terms -/
structure Low (p : Int × Int) : Prop where
  c : 0 < p.2
  g : Int.gcd p.1 p.2 = 1
theorem Low.eq {p : Int × Int} (h : Low p) : lowA p.1 p.2 = p.1 ∧ lowB p.1 p.2 = p.2 := by
  have e : lowC p.1 p.2 = 1 := by rw [(lowC_pos h.c).1, h.g]; rfl
  unfold lowA lowB
  rw [e, Int.fdiv_one, Int.fdiv_one]
  exact ⟨rfl, rfl⟩
theorem low_low {t b : Int} (hb : b ≠ 0) : Low (lowA t b, lowB t b) := by
  refine ⟨lowB_pos hb, ?_⟩
  show Int.gcd (lowA t b) (lowB t b) = 1
  obtain ⟨m1, m2⟩ := low_mul t b
  have e : Int.gcd t b = Int.gcd (lowA t b) (lowB t b) * (lowC t b).natAbs := by
    rw [← Int.gcd_mul_right, m1, m2]
  have ec : (lowC t b).natAbs = Int.gcd t b := by unfold lowC; split <;> omega
  rw [ec] at e
  have hg : 0 < Int.gcd t b := Nat.pos_of_ne_zero fun z => hb (Int.gcd_eq_zero_iff.mp z).2
  exact Nat.eq_of_mul_eq_mul_right hg (by omega)
/-- over one common lower part -/
def topOf (C : Int) (p : Int × Int) : Int := p.1 * C.fdiv p.2
theorem topOf_mul {C : Int} {p : Int × Int} (h : p.2 ∣ C) : topOf C p * p.2 = p.1 * C := by
  unfold topOf
  rw [Int.mul_assoc, fdiv_mul h]
theorem less_top {C : Int} {p q : Int × Int} (hC : 0 < C) (hp : p.2 ∣ C) (hq : q.2 ∣ C) (cp : 0 < p.2) (cq : 0 < q.2) : p.1 * q.2 < q.1 * p.2 ↔ topOf C p < topOf C q := by
  have e1 := topOf_mul hp
  have e2 := topOf_mul hq
  have s1 : p.1 * q.2 * C = topOf C p * (p.2 * q.2) := by
    rw [← Int.mul_assoc, e1]
    simp only [Int.mul_assoc, Int.mul_comm, Int.mul_left_comm]
  have s2 : q.1 * p.2 * C = topOf C q * (p.2 * q.2) := by
    rw [Int.mul_comm p.2 q.2, ← Int.mul_assoc, e2]
    simp only [Int.mul_assoc, Int.mul_comm, Int.mul_left_comm]
  rw [← Int.mul_lt_mul_right hC, s1, s2, Int.mul_lt_mul_right (Int.mul_pos cp cq)]
theorem pickL_top {C : Int} (hC : 0 < C) : ∀ (l : List (Int × Int)) (q : Int × Int), (∀ p ∈ q :: l, Low p ∧ p.2 ∣ C) → ∃ r, pickL (some q) l = some r ∧ Low r ∧ r.2 ∣ C ∧ topOf C r = minI (topOf C q) (l.map (topOf C))
  | [], q, h => ⟨q, rfl, (h q (.head _)).1, (h q (.head _)).2, rfl⟩
  | p :: l, q, h => by
    have hq := h q (.head _)
    have hp := h p (.tail _ (.head _))
    have lt := less_top hC hp.2 hq.2 hp.1.c hq.1.c
    simp only [pickL, List.map_cons, minI]
    by_cases c : p.1 * q.2 < q.1 * p.2
    · rw [if_pos c, if_pos (lt.mp c)]
      exact pickL_top hC l p fun x m => h x (.tail _ m)
    · rw [if_neg c, if_neg (fun z => c (lt.mpr z))]
      refine pickL_top hC l q fun x m => ?_
      cases m with
      | head => exact hq
      | tail _ m => exact h x (.tail _ (.tail _ m))
theorem pickG_top {C : Int} (hC : 0 < C) : ∀ (l : List (Int × Int)) (q : Int × Int), (∀ p ∈ q :: l, Low p ∧ p.2 ∣ C) → ∃ r, pickG (some q) l = some r ∧ Low r ∧ r.2 ∣ C ∧ topOf C r = maxI (topOf C q) (l.map (topOf C))
  | [], q, h => ⟨q, rfl, (h q (.head _)).1, (h q (.head _)).2, rfl⟩
  | p :: l, q, h => by
    have hq := h q (.head _)
    have hp := h p (.tail _ (.head _))
    have lt := less_top hC hq.2 hp.2 hq.1.c hp.1.c
    simp only [pickG, List.map_cons, maxI]
    by_cases c : q.1 * p.2 < p.1 * q.2
    · rw [if_pos c, if_pos (lt.mp c)]
      exact pickG_top hC l p fun x m => h x (.tail _ m)
    · rw [if_neg c, if_neg (fun z => c (lt.mpr z))]
      refine pickG_top hC l q fun x m => ?_
      cases m with
      | head => exact hq
      | tail _ m => exact h x (.tail _ (.tail _ m))
theorem low_val {t b C S : Int} (hb : b ≠ 0) (e : t * C = S * b) : lowA t b * C = S * lowB t b := by
  obtain ⟨m1, m2⟩ := low_mul t b
  have hc := lowC_ne (t := t) hb
  apply Int.eq_of_mul_eq_mul_right hc
  calc lowA t b * C * lowC t b = lowA t b * lowC t b * C := by simp only [Int.mul_assoc, Int.mul_comm, Int.mul_left_comm]
    _ = S * (lowB t b * lowC t b) := by rw [m1, m2, e]
    _ = S * lowB t b * lowC t b := by rw [Int.mul_assoc]
theorem addF_top {C : Int} (hC : 0 < C) : ∀ (l : List (Int × Int)) (s : Int × Int) (S : Int), (∀ p ∈ l, Low p ∧ p.2 ∣ C) → Low s → s.1 * C = S * s.2 → Low (addF s l) ∧ (addF s l).1 * C = (S + (l.map (topOf C)).sum) * (addF s l).2
  | [], s, S, _, h, e => ⟨h, by simpa [addF] using e⟩
  | p :: l, s, S, hl, h, e => by
    have hp := hl p (.head _)
    have e1 := topOf_mul hp.2
    have bd : s.2 * p.2 ≠ 0 := by have := Int.mul_pos h.c hp.1.c; omega
    have e2 : (s.1 * p.2 + p.1 * s.2) * C = (S + topOf C p) * (s.2 * p.2) := by
      rw [Int.add_mul, Int.add_mul]
      congr 1
      · calc s.1 * p.2 * C = s.1 * C * p.2 := by simp only [Int.mul_assoc, Int.mul_comm, Int.mul_left_comm]
          _ = S * (s.2 * p.2) := by rw [e, Int.mul_assoc]
      · calc p.1 * s.2 * C = p.1 * C * s.2 := by simp only [Int.mul_assoc, Int.mul_comm, Int.mul_left_comm]
          _ = topOf C p * (s.2 * p.2) := by rw [← e1]; simp only [Int.mul_assoc, Int.mul_comm, Int.mul_left_comm]
    have ih := addF_top hC l (lowA (s.1 * p.2 + p.1 * s.2) (s.2 * p.2), lowB (s.1 * p.2 + p.1 * s.2) (s.2 * p.2)) (S + topOf C p) (fun x m => hl x (.tail _ m)) (low_low bd) (low_val bd e2)
    simp only [addF, List.map_cons, List.sum_cons]
    rw [← Int.add_assoc]
    exact ih
/-- the common lower part -/
def comm : Int → List (Int × Int) → Int
  | c, [] => c
  | c, p :: l => comm (c * p.2) l
theorem comm_dvd : ∀ (l : List (Int × Int)) (c : Int), c ∣ comm c l
  | [], c => Int.dvd_refl c
  | p :: l, c => Int.dvd_trans (Int.dvd_mul_right ..) (comm_dvd l (c * p.2))
theorem comm_mem : ∀ (l : List (Int × Int)) (c : Int) (p : Int × Int), p ∈ l → p.2 ∣ comm c l
  | q :: l, c, p, m => by
    cases m with
    | head => exact Int.dvd_trans (Int.dvd_mul_left ..) (comm_dvd l _)
    | tail _ m => exact comm_mem l (c * q.2) p m
theorem comm_pos : ∀ (l : List (Int × Int)) (c : Int), 0 < c → (∀ p ∈ l, Fr p) → 0 < comm c l
  | [], c, h, _ => h
  | q :: l, c, h, hl => comm_pos l (c * q.2) (Int.mul_pos h (hl q (.head _)).c) fun x m => hl x (.tail _ m)
theorem comm_lt : ∀ (l : List (Int × Int)) (c : Int) (k : Nat), c.natAbs < 2 ^ k → (∀ p ∈ l, Fr p) → (comm c l).natAbs < 2 ^ (k + 103 * l.length)
  | [], c, k, h, _ => h
  | q :: l, c, k, h, hl => by
    have := comm_lt l (c * q.2) (k + 103) (mul_lt h (hl q (.head _)).b) fun x m => hl x (.tail _ m)
    rw [show k + 103 * (q :: l).length = k + 103 + 103 * l.length by simp only [List.length_cons]; omega]
    exact this
theorem fdiv_le {C b : Int} (hC : 0 < C) (hb : 0 < b) : (C.fdiv b).natAbs ≤ C.natAbs := by
  rw [Int.fdiv_eq_ediv_of_nonneg _ (Int.le_of_lt hb)]
  have h1 := Int.ediv_le_self b (Int.le_of_lt hC)
  have h2 := Int.ediv_nonneg (Int.le_of_lt hC) (Int.le_of_lt hb)
  omega
end K53
end
section
set_option Elab.async false
set_option linter.all false
set_option maxRecDepth 1000000
set_option maxHeartbeats 4000000
namespace K53
open PySem PySem.Spec PyProof.Rows L2 Mp
/-! ### _law_many_right -/
def t23 (G : GC) : D → Mp.Env → MH → Ro := fun d ρ h => sOf ρ (asgT G none (.tup [.nm 6, .nm 7]) d ρ h) fun ρ1 h1 => evalSs G none [.asg (.nm 1) (.bin .mul (.var 1) (.var 7))] ρ1 h1
def s23 : MS := .forr (.tup [.nm 6, .nm 7]) (.seq (.var 0)) [.asg (.nm 1) (.bin .mul (.var 1) (.var 7))]
def lc23 : ME := .lc (.bin .mul (.var 6) (.bin .fdiv (.var 1) (.var 7))) (.tup [.nm 6, .nm 7]) (.seq (.var 0)) [] [6, 7]
theorem b23_eq : b23 = [.asg (.nm 1) (.lit (.int 1)), s23, .asg (.nm 2) lc23, .asg (.nm 3) (.lst [.lit .non, .lit .non, .tup [.lit (.int 0), .lit (.int 1)]]), .ife (.cmp .ne (.var 0) (.lst [])) [.asg (.nm 3) (.lst [.call 19 [.bf .min [.var 2], .var 1] [], .call 19 [.bf .max [.var 2], .var 1] [], .call 19 [.bf .sum [.var 2], .var 1] []])] [], .asg (.nm 4) (.bf .tuple [.var 0]), .asg (.nm 5) (.lst [.call 11 [.var 4] [], .call 12 [.var 4] [0], .call 13 [.call 17 [.var 4] []] []]), .ret (.and (.call 18 [.var 5, .var 3] []) (.call 18 [.lst [.var 4, .call 11 [.call 17 [.var 4] []] [], .call 12 [.bf .list [.var 4]] []], .bin .add (.lst [.bf .tuple [.var 0]]) (.sl (.var 3) none (some (.lit (.int 2))))] []))] := rfl
theorem loop23 {G : GC} {h : MH} {r : Nat} {l : List (Int × Int)} (hr : h.get r = some (.lst (frs l))) (hl : ∀ p ∈ l, Fr p) : ∀ (m i : Nat) (c : Int) (k : Nat) (e6 e7 : Option D), l.length - i = m → i ≤ l.length → c.natAbs < 2 ^ k → k + 103 * m < 9000 →
    ∃ e6' e7', forN (t23 G) (.lv r) (m + 1) i [some (.ref r), some (.int c), none, none, none, none, e6, e7] h = some (.nx [some (.ref r), some (.int (comm c (l.drop i))), none, none, none, none, e6', e7'], h)
  | 0, i, c, k, e6, e7, hm, hi, hc, hk => by
    refine ⟨e6, e7, ?_⟩
    have e1 : (frs l)[i]? = none := List.getElem?_eq_none (by rw [frs_len]; omega)
    have e2 : l.drop i = [] := List.drop_eq_nil_of_le (by omega)
    simp [forN, Src.nth, MH.seq, hr, e1, e2, comm]
  | m + 1, i, c, k, e6, e7, hm, hi, hc, hk => by
    have hx : i < l.length := by omega
    have ex : (frs l)[i]? = some (.tup [.int (l[i]).1, .int (l[i]).2]) := by
      unfold frs
      rw [List.getElem?_map, List.getElem?_eq_getElem hx]
      rfl
    have hf := hl _ (List.getElem_mem hx)
    have m1 : mulOk c (l[i]).2 = true := mulOk_of hc hf.b (by omega)
    obtain ⟨e6', e7', ih⟩ := loop23 (G := G) hr hl m (i + 1) (c * (l[i]).2) (k + 103) (some (.int (l[i]).1)) (some (.int (l[i]).2)) (by omega) (by omega) (mul_lt hc hf.b) (by omega)
    refine ⟨e6', e7', ?_⟩
    rw [forN]
    simp only [Src.nth, MH.seq, hr, Option.map_some, ex]
    simp [t23, asgT, asgTs, unp, itemsOf, noExc, sOf, evalSs, evalS, evalE, evalEs, Rs.bind, Rs.opt, sThen, turn, binop, bopI, m1]
    rw [ih, List.drop_eq_getElem_cons hx]
    rfl
def f23 (G : GC) (ρ : Mp.Env) : D → MH → Rs (Option D) := fun d h => noExc ((asgT G none (.tup [.nm 6, .nm 7]) d (Mp.wipe ρ [6, 7]) h).bind fun ρ1 h2 => (evalTs G none [] ρ1 h2).bind fun k h3 =>
      if k then (evalE G none (.bin .mul (.var 6) (.bin .fdiv (.var 1) (.var 7))) ρ1 h3).bind fun y h4 => .ok (some y) h4 else .ok none h3)
theorem lc23_eq {G : GC} {ρ : Mp.Env} {h : MH} : evalE G none lc23 ρ h = (evalI G none (.seq (.var 0)) ρ h).bind fun s h1 => (compS (f23 G ρ) s h1).bind fun ys h2 => if ys.length < lineC then .ok (.ref h2.sz) (h2.new (.lst ys)) else .bad := by
  unfold lc23
  rw [evalE]
  rfl
def ndD (ns : List Int) : List D := ns.map .int
theorem turns23 {G : GC} {h : MH} {r : Nat} {l : List (Int × Int)} {C : Int} {e6 e7 : Option D} (hr : h.get r = some (.lst (frs l))) (hl : ∀ p ∈ l, Fr p) (hC : 0 < C) (hC2 : C.natAbs < 2 ^ 8000) : ∀ (m i : Nat), l.length - i = m → i ≤ l.length →
    compN (f23 G [some (.ref r), some (.int C), none, none, none, none, e6, e7]) (.lv r) (m + 1) i h = .ok (((l.drop i).map (topOf C)).map .int) h
  | 0, i, hm, hi => by
    have e1 : (frs l)[i]? = none := List.getElem?_eq_none (by rw [frs_len]; omega)
    have e2 : l.drop i = [] := List.drop_eq_nil_of_le (by omega)
    simp [compN, Src.nth, MH.seq, hr, e1, e2]
  | m + 1, i, hm, hi => by
    have hx : i < l.length := by omega
    have ex : (frs l)[i]? = some (.tup [.int (l[i]).1, .int (l[i]).2]) := by
      unfold frs
      rw [List.getElem?_map, List.getElem?_eq_getElem hx]
      rfl
    have hf := hl _ (List.getElem_mem hx)
    have m1 : mulOk (l[i]).1 (C.fdiv (l[i]).2) = true := mulOk_of hf.a (Nat.lt_of_le_of_lt (fdiv_le hC hf.c) hC2) (by omega)
    have m2 : (l[i]).2.natAbs.log2 < 9000 := log_of hf.b (by omega)
    have m3 : ¬ (l[i]).2 = 0 := by have := hf.c; omega
    have ih := turns23 (G := G) (e6 := e6) (e7 := e7) hr hl hC hC2 m (i + 1) (by omega) (by omega)
    rw [compN]
    simp only [Src.nth, MH.seq, hr, Option.map_some, ex]
    have ef : f23 G [some (.ref r), some (.int C), none, none, none, none, e6, e7] (.tup [.int (l[i]).1, .int (l[i]).2]) h = .ok (some (.int (topOf C l[i]))) h := by
      simp [f23, asgT, asgTs, unp, itemsOf, Mp.wipe, noExc, Rs.bind, evalTs, evalE, evalEs, binop, bopI, m1, m2, m3, topOf]
    rw [ef]
    simp only [Rs.bind]
    rw [ih, List.drop_eq_getElem_cons hx]
    rfl
theorem ints_map : ∀ ns : List Int, Mp.intsD (ns.map .int) = some ns
  | [] => rfl
  | n :: ns => by rw [List.map_cons, Mp.intsD, ints_map ns]; rfl
theorem pd_frs {h : MH} {k : Nat} : ∀ l : List (Int × Int), mapO (pd h (k + 1)) (frs l) = some (l.map fun p => .tuple [.int p.1, .int p.2])
  | [] => rfl
  | p :: l => by
    show mapO (pd h (k + 1)) (.tup [.int p.1, .int p.2] :: frs l) = _
    rw [mapO, pd_frs l]
    cases k <;> rfl
theorem eq_nil {h : MH} {r q : Nat} {l : List (Int × Int)} (hr : h.get r = some (.lst (frs l))) (hq : h.get q = some (.lst [])) : eqD h (.ref r) (.ref q) = some (decide (l = [])) := by
  have e1 : pd h 60 (.ref r) = some (.list (l.map fun p => .tuple [.int p.1, .int p.2])) := by
    rw [pd]
    simp only [MH.seq, hr]
    rw [pd_frs l]
    rfl
  have e2 : pd h 60 (.ref q) = some (.list []) := by
    rw [pd]
    simp only [MH.seq, hq]
    rfl
  unfold eqD
  simp only [e1, e2]
  cases l with
  | nil => simp [PyData.eqv, PyData.eqvAll]
  | cons p l => simp [PyData.eqv, PyData.eqvAll]
end K53
end
section
set_option Elab.async false
set_option linter.all false
set_option maxRecDepth 1000000
set_option maxHeartbeats 4000000
namespace K53
open PySem PySem.Spec PyProof.Rows L2 Mp
theorem asg_nm {G : GC} {x : Option Ex} {i : Nat} {e : ME} {ρ : Mp.Env} {h h' : MH} {d : D} (he : evalE G x e ρ h = .ok d h') (hi : i < ρ.length) : evalS G x (.asg (.nm i) e) ρ h = some (.nx (ρ.set i (some d)), h') := by
  simp [evalS, he, sOf, asgT, hi]
theorem sq {G : GC} {x : Option Ex} {s : MS} {ss : List MS} {ρ ρ1 : Mp.Env} {h h1 : MH} (e : evalS G x s ρ h = some (.nx ρ1, h1)) : evalSs G x (s :: ss) ρ h = evalSs G x ss ρ1 h1 := by
  rw [evalSs, e]
  rfl
theorem like_frs {k : Nat} {h : MH} : ∀ l : List (Int × Int), Likes (k + 1) h (frs l) (frs l)
  | [] => .nil
  | _ :: l => .cons like_fr (like_frs l)
theorem like_oD {k : Nat} {h : MH} (o : Option (Int × Int)) : Like (k + 1) h (oD o) (oD o) := by
  cases o with
  | none => exact .same .non
  | some p => exact like_fr
theorem d_put3 {a b c : D} : cut [a, b, c] none (some 2) = [a, b] := rfl
/-- what is due -/
def dueL (l : List (Int × Int)) : List D := [oD (pickL none l), oD (pickG none l), .tup [.int (addF (0, 1) l).1, .int (addF (0, 1) l).2]]
theorem due_cons {C : Int} {p : Int × Int} {l : List (Int × Int)} (hC : 0 < C) (hl : ∀ q ∈ p :: l, Low q ∧ q.2 ∣ C) :
    dueL (p :: l) = [lowT (minI (topOf C p) (l.map (topOf C))) C, lowT (maxI (topOf C p) (l.map (topOf C))) C, lowT (((p :: l).map (topOf C)).sum) C] := by
  obtain ⟨a, a1, a2, a3, a4⟩ := pickL_top hC l p hl
  obtain ⟨b, b1, b2, b3, b4⟩ := pickG_top hC l p hl
  obtain ⟨c1, c2⟩ := addF_top hC (p :: l) (0, 1) 0 hl ⟨by decide, by decide⟩ (by simp)
  rw [Int.zero_add] at c2
  have ua := low_uniq (t := topOf C a) (b := C) (s := a.1) (d := a.2) hC a2.c (by rw [topOf_mul a3])
  have ub := low_uniq (t := topOf C b) (b := C) (s := b.1) (d := b.2) hC b2.c (by rw [topOf_mul b3])
  have uc := low_uniq (t := ((p :: l).map (topOf C)).sum) (b := C) (s := (addF (0, 1) (p :: l)).1) (d := (addF (0, 1) (p :: l)).2) hC c1.c c2.symm
  rw [a2.eq.1, a2.eq.2, a4] at ua
  rw [b2.eq.1, b2.eq.2, b4] at ub
  rw [c1.eq.1, c1.eq.2] at uc
  have e1 : pickL none (p :: l) = some a := a1
  have e2 : pickG none (p :: l) = some b := b1
  unfold dueL
  rw [e1, e2, lowT_eq, lowT_eq, lowT_eq, ua.1, ua.2, ub.1, ub.2, uc.1, uc.2]
  rfl
theorem r_many {n : Nat} {l : List (Int × Int)} {r : Nat} {h : MH} (hr : h.get r = some (.lst (frs l))) (hl : ∀ p ∈ l, Fr p) (hw : ∀ p ∈ l, Low p) (hn : l.length ≤ 20) :
    ∃ h', callN Q 1000000 (n + 8) 23 [.ref r] h = .ok (.bl true) h' ∧ Grow h h' := by
  have hln : l.length < 1000000 := by omega
  generalize hG : gcOf Q 1000000 (callN Q 1000000 (n + 7)) (callN Q 1000000 (n + 6)) = G
  have hcall : ∀ f xs h, callP G f xs [] h = callN Q 1000000 (n + 7) f xs h := fun _ _ _ => by rw [← hG]; rfl
  generalize hC : comm 1 l = C
  have C0 : 0 < C := by rw [← hC]; exact comm_pos l 1 (by decide) hl
  have C1 : C.natAbs < 2 ^ (1 + 103 * l.length) := by rw [← hC]; exact comm_lt l 1 1 (by decide) hl
  have C2 : C.natAbs < 2 ^ 8000 := Nat.lt_of_lt_of_le C1 (Nat.pow_le_pow_right (by decide) (by omega))
  have hdv : ∀ q ∈ l, Low q ∧ q.2 ∣ C := fun q m => ⟨hw q m, by rw [← hC]; exact comm_mem l 1 q m⟩
  -- the common lower part
  obtain ⟨e6, e7, l1⟩ := loop23 (G := G) hr hl l.length 0 1 1 none none (by omega) (by omega) (by decide) (by omega)
  rw [List.drop_zero, hC] at l1
  have z0 : evalS G none (.asg (.nm 1) (.lit (.int 1))) [some (.ref r), none, none, none, none, none, none, none] h = some (.nx [some (.ref r), some (.int 1), none, none, none, none, none, none], h) := asg_nm (by rw [evalE]) (by simp)
  have z1 : evalS G none s23 [some (.ref r), some (.int 1), none, none, none, none, none, none] h = some (.nx [some (.ref r), some (.int C), none, none, none, none, e6, e7], h) := by
    unfold s23
    simp only [evalS, evalI, evalE, List.getElem?_cons_zero, Rs.bind, MH.seq, hr, sOf, forS]
    have el : (Src.lv r).len h = l.length := by simp [Src.len, MH.seq, hr, frs_len]
    rw [el]
    exact l1
  -- the tops
  have l2 := turns23 (G := G) (e6 := e6) (e7 := e7) hr hl C0 C2 l.length 0 (by omega) (by omega)
  rw [List.drop_zero] at l2
  have z2 : evalS G none (.asg (.nm 2) lc23) [some (.ref r), some (.int C), none, none, none, none, e6, e7] h = some (.nx [some (.ref r), some (.int C), some (.ref h.sz), none, none, none, e6, e7], h.new (.lst ((l.map (topOf C)).map .int))) := by
    refine asg_nm ?_ (by simp)
    rw [lc23_eq]
    simp only [evalI, evalE, List.getElem?_cons_zero, Rs.bind, MH.seq, hr, compS]
    have el : (Src.lv r).len h = l.length := by simp [Src.len, MH.seq, hr, frs_len]
    rw [el, l2]
    simp only [List.length_map]
    rw [if_pos (by unfold lineC; omega)]
  generalize hh1 : h.new (.lst ((l.map (topOf C)).map .int)) = h1 at z2
  have g1 : Grow h h1 := by rw [← hh1]; exact .new
  have t1 : h1.get h.sz = some (.lst ((l.map (topOf C)).map .int)) := by rw [← hh1]; exact MH.get_new_self _ _
  have z3 : evalS G none (.asg (.nm 3) (.lst [.lit .non, .lit .non, .tup [.lit (.int 0), .lit (.int 1)]])) [some (.ref r), some (.int C), some (.ref h.sz), none, none, none, e6, e7] h1 = some (.nx [some (.ref r), some (.int C), some (.ref h.sz), some (.ref h1.sz), none, none, e6, e7], h1.new (.lst [.non, .non, .tup [.int 0, .int 1]])) := by
    refine asg_nm ?_ (by simp)
    simp [evalE, evalEs, Rs.bind]
  generalize hh2 : h1.new (.lst [.non, .non, .tup [.int 0, .int 1]]) = h2 at z3
  have g2 : Grow h1 h2 := by rw [← hh2]; exact .new
  have t2 : h2.get h1.sz = some (.lst [.non, .non, .tup [.int 0, .int 1]]) := by rw [← hh2]; exact MH.get_new_self _ _
  -- what is due
  have z4 : ∃ d h4, evalS G none (.ife (.cmp .ne (.var 0) (.lst [])) [.asg (.nm 3) (.lst [.call 19 [.bf .min [.var 2], .var 1] [], .call 19 [.bf .max [.var 2], .var 1] [], .call 19 [.bf .sum [.var 2], .var 1] []])] []) [some (.ref r), some (.int C), some (.ref h.sz), some (.ref h1.sz), none, none, e6, e7] h2 = some (.nx [some (.ref r), some (.int C), some (.ref h.sz), some (.ref d), none, none, e6, e7], h4) ∧ Grow h2 h4 ∧ h4.get d = some (.lst (dueL l)) := by
    have q1 : eqD (h2.new (.lst [])) (.ref r) (.ref h2.sz) = some (decide (l = [])) := eq_nil (MH.get_new_some (g2.get _ _ (g1.get _ _ hr))) (MH.get_new_self _ _)
    have tt : (h2.new (.lst [])).get h.sz = some (.lst ((l.map (topOf C)).map .int)) := MH.get_new_some (g2.get _ _ t1)
    cases l with
    | nil =>
      refine ⟨h1.sz, h2.new (.lst []), ?_, .new, ?_⟩
      · simp [evalS, evalT, evalE, evalEs, Rs.bind, Rs.opt, cmpD, q1, tstB, Mp.truthy, sOf, evalSs]
      · exact MH.get_new_some t2
    | cons p l =>
      have lowA1 : ∀ t h, callP G 19 [.int t, .int C] [] h = .ok (lowT t C) h := fun t h => by
        rw [hcall]
        exact r_low (by omega) C2 (low_log (by omega) C1 (by simp only [List.length_cons] at hn ⊢; omega))
      refine ⟨h2.sz + 1, (h2.new (.lst [])).new (.lst (dueL (p :: l))), ?_, Grow.new.trans .new, get_new_at (by rw [MH.new_sz])⟩
      rw [due_cons C0 hdv]
      simp only [List.map_cons] at tt
      simp [evalS, evalT, evalE, evalEs, Rs.bind, Rs.opt, cmpD, q1, tstB, Mp.truthy, sOf, evalSs, bfD, tt, bfItems, Mp.intsD, ints_map, lowA1, asgT, sThen, MH.new_sz, -List.map_map]
  obtain ⟨d, h4, z4, g4, t4⟩ := z4
  have r4 : h4.get r = some (.lst (frs l)) := g4.get _ _ (g2.get _ _ (g1.get _ _ hr))
  have z5 : evalS G none (.asg (.nm 4) (.bf .tuple [.var 0])) [some (.ref r), some (.int C), some (.ref h.sz), some (.ref d), none, none, e6, e7] h4 = some (.nx [some (.ref r), some (.int C), some (.ref h.sz), some (.ref d), some (.tup (frs l)), none, e6, e7], h4) := by
    refine asg_nm ?_ (by simp)
    simp [evalE, evalEs, Rs.bind, bfD, MH.seq, r4]
  obtain ⟨h5, c5, g5⟩ := r_least (lim := 1000000) (n := n + 3) (h := h4) hl (tup_frs hln)
  obtain ⟨h6, c6, g6⟩ := r_greatest (lim := 1000000) (n := n + 3) (h := h5) hl (tup_frs hln)
  obtain ⟨r7, h7, c7, g7, t7⟩ := r_lists (lim := 1000000) (n := n + 4) (h := h6) hln
  obtain ⟨h8, c8, g8⟩ := r_sum (lim := 1000000) (n := n + 3) hl hn t7
  have hperm : ∀ xs h, callP G 12 xs [0] h = match permL xs [0] with | some ys => callN Q 1000000 (n + 7) 12 ys h | none => .bad := fun _ _ => by rw [← hG]; rfl
  have z6 : evalS G none (.asg (.nm 5) (.lst [.call 11 [.var 4] [], .call 12 [.var 4] [0], .call 13 [.call 17 [.var 4] []] []])) [some (.ref r), some (.int C), some (.ref h.sz), some (.ref d), some (.tup (frs l)), none, e6, e7] h4 = some (.nx [some (.ref r), some (.int C), some (.ref h.sz), some (.ref d), some (.tup (frs l)), some (.ref h8.sz), e6, e7], h8.new (.lst (dueL l))) := by
    refine asg_nm ?_ (by simp)
    simp [evalE, evalEs, Rs.bind, hcall, hperm, permL, c5, c6, c7, c8, dueL]
  have g48 : Grow h4 (h8.new (.lst (dueL l))) := g5.trans (g6.trans (g7.trans (g8.trans .new)))
  generalize hh9 : h8.new (.lst (dueL l)) = h9 at z6 g48
  have t9 : h9.get h8.sz = some (.lst (dueL l)) := by rw [← hh9]; exact MH.get_new_self _ _
  obtain ⟨h10, c10, g10⟩ := r_same (lim := 1000000) 3 (n + 6) (by omega) h9 (.ref h8.sz) (.ref d) (.lst t9 (g48.get _ _ t4) (by simp [dueL]) (.cons (like_oD _) (.cons (like_oD _) (.cons like_fr .nil))))
  obtain ⟨r11, h11, c11, g11, t11⟩ := r_lists (lim := 1000000) (n := n + 4) (h := h10) hln
  obtain ⟨h12, c12, g12⟩ := r_least (lim := 1000000) (n := n + 3) hl t11
  have t12 : (h12.new (.lst (frs l))).get h12.sz = some (.lst (frs l)) := MH.get_new_self _ _
  obtain ⟨h13, c13, g13⟩ := r_greatest (lim := 1000000) (n := n + 3) hl (lst_frs (k := 0) hln t12)
  have g4D : Grow h4 h13 := g48.trans (g10.trans (g11.trans (g12.trans (Grow.new.trans g13))))
  have r13 : h13.get r = some (.lst (frs l)) := g4D.get _ _ r4
  have d13 : h13.get d = some (.lst (dueL l)) := g4D.get _ _ t4
  -- the list that was got, the list that is due
  let A : List D := [.tup (frs l), oD (pickL none l), oD (pickG none l)]
  have gA := MH.get_new_self h13 (.lst A)
  have s1 : ((h13.new (.lst A)).new (.lst [.tup (frs l)])).get (h13.sz + 1) = some (.lst [.tup (frs l)]) := get_new_at (by rw [MH.new_sz])
  have s2 : (((h13.new (.lst A)).new (.lst [.tup (frs l)])).new (.lst [oD (pickL none l), oD (pickG none l)])).get (h13.sz + 1) = some (.lst [.tup (frs l)]) := MH.get_new_some s1
  have s3 : (((h13.new (.lst A)).new (.lst [.tup (frs l)])).new (.lst [oD (pickL none l), oD (pickG none l)])).get (h13.sz + 1 + 1) = some (.lst [oD (pickL none l), oD (pickG none l)]) := get_new_at (by simp only [MH.new_sz])
  have d14 : (h13.new (.lst A)).get d = some (.lst (dueL l)) := MH.get_new_some d13
  have d15 : ((h13.new (.lst A)).new (.lst [.tup (frs l)])).get d = some (.lst (dueL l)) := MH.get_new_some d14
  have r14 : (h13.new (.lst A)).get r = some (.lst (frs l)) := MH.get_new_some r13
  have t16 : ((((h13.new (.lst A)).new (.lst [.tup (frs l)])).new (.lst [oD (pickL none l), oD (pickG none l)])).new (.lst A)).get h13.sz = some (.lst A) := MH.get_new_some (MH.get_new_some (MH.get_new_some gA))
  have t17 : ((((h13.new (.lst A)).new (.lst [.tup (frs l)])).new (.lst [oD (pickL none l), oD (pickG none l)])).new (.lst A)).get (h13.sz + 1 + 1 + 1) = some (.lst A) := get_new_at (by simp only [MH.new_sz])
  obtain ⟨h18, c18, g18⟩ := r_same (lim := 1000000) 3 (n + 6) (by omega) _ (.ref h13.sz) (.ref (h13.sz + 1 + 1 + 1)) (.lst t16 t17 (by simp [A]) (.cons (.tup (by rw [frs_len]; exact hln) (like_frs l)) (.cons (like_oD _) (.cons (like_oD _) .nil))))
  have z7 : evalS G none (.ret (.and (.call 18 [.var 5, .var 3] []) (.call 18 [.lst [.var 4, .call 11 [.call 17 [.var 4] []] [], .call 12 [.bf .list [.var 4]] []], .bin .add (.lst [.bf .tuple [.var 0]]) (.sl (.var 3) none (some (.lit (.int 2))))] []))) [some (.ref r), some (.int C), some (.ref h.sz), some (.ref d), some (.tup (frs l)), some (.ref h8.sz), e6, e7] h9 = some (.rt (.bl true), h18) := by
    have cutE : cut (dueL l) none (some 2) = [oD (pickL none l), oD (pickG none l)] := rfl
    simp [evalS, evalE, evalEs, evalO, Rs.bind, Rs.opt, sOf, hcall, c10, tstB, Mp.truthy, c11, c12, bfD, c13, MH.seq, r14, MH.new_sz, slD, d15, cutE, binop, s2, s3, lineC, c18, A]
  refine ⟨h18, ?_, (g1.trans (g2.trans (g4.trans g4D))).trans (Grow.new.trans (Grow.new.trans (Grow.new.trans (Grow.new.trans g18))))⟩
  rw [cN]
  have u : callB Q 1000000 (callN Q 1000000 (n + 7)) (callN Q 1000000 (n + 7 - 1)) 23 [.ref r] h = fnEnd (evalSs G none b23 [some (.ref r), none, none, none, none, none, none, none] h) := by
    rw [← hG]
    simp [callB, u23, d23, fnEnv, List.replicate]
  rw [u, b23_eq, sq z0, sq z1, sq z2, sq z3, sq z4, sq z5, sq z6]
  rw [evalSs, z7]
  rfl
end K53
end
section
set_option Elab.async false
set_option linter.all false
set_option maxRecDepth 1000000
set_option maxHeartbeats 4000000
namespace K53
open PySem PySem.Spec PyProof.Rows L2 Mp
/-! ### _law_cells -/
def t16 (G : GC) : D → Mp.Env → MH → Ro := fun d ρ h => sOf ρ (asgT G none (.tup [.nm 3, .nm 4]) d ρ h) fun ρ1 h1 => evalSs G none [.asg (.nm 5) (.bin .mod (.bf .int [.var 3]) (.var 1)), .asg (.sub (.var 2) (.var 5)) (.bin .add (.ix (.var 2) (.var 5)) (.bin .mul (.var 4) (.bin .add (.var 3) (.lit (.int 2)))))] ρ1 h1
def s16 : MS := .forr (.tup [.nm 3, .nm 4]) (.enum (.sl (.var 0) (some (.var 1)) (some (.lit (.int 63))))) [.asg (.nm 5) (.bin .mod (.bf .int [.var 3]) (.var 1)), .asg (.sub (.var 2) (.var 5)) (.bin .add (.ix (.var 2) (.var 5)) (.bin .mul (.var 4) (.bin .add (.var 3) (.lit (.int 2)))))]
theorem b16_eq : b16 = [.asg (.nm 2) (.or (.bf .list [.sl (.var 0) none (some (.var 1))]) (.lst [.lit (.int 0)])), s16, .ret (.var 2)] := rfl
theorem dbl {x y : Int} {k : Nat} (hx : x.natAbs < 2 ^ k) (hy : y.natAbs < 2 ^ k) : (x + y).natAbs < 2 ^ (k + 1) := by
  rw [Nat.pow_succ]
  omega
theorem up1 {x : Int} {k m : Nat} (hx : x.natAbs < 2 ^ k) (h : k ≤ m) : x.natAbs < 2 ^ m := Nat.lt_of_lt_of_le hx (Nat.pow_le_pow_right (by decide) h)
theorem fm3 (i : Nat) : (i : Int).fmod 3 = 0 ∨ (i : Int).fmod 3 = 1 ∨ (i : Int).fmod 3 = 2 := by
  have h1 := fmod_lo (a := (i : Int)) (k := 3) (by decide)
  have h2 := fmod_hi (a := (i : Int)) (k := 3) (by decide)
  omega
theorem loop16 {G : GC} {q rc : Nat} {ms : List Int} {s : D} {K0 : Nat} (hne : q ≠ rc) (hms : ∀ z ∈ ms, z.natAbs < 2 ^ K0) (hml : ms.length ≤ 60) (hK0 : K0 ≤ 2000000) : ∀ (m i : Nat) (a b c : Int) (K : Nat) (h : MH) (e3 e4 e5 : Option D),
    ms.length - i = m → i ≤ ms.length → h.get q = some (.lst (ms.map .int)) → h.get rc = some (.lst [.int a, .int b, .int c]) → a.natAbs < 2 ^ K → b.natAbs < 2 ^ K → c.natAbs < 2 ^ K → K0 + 7 ≤ K →
    ∃ a' b' c' h' e3' e4' e5', forN (t16 G) (.enum (.lv q)) (m + 1) i [some s, some (.int 3), some (.ref rc), e3, e4, e5] h = some (.nx [some s, some (.int 3), some (.ref rc), e3', e4', e5'], h') ∧
      h'.get rc = some (.lst [.int a', .int b', .int c']) ∧ a'.natAbs < 2 ^ (K + m) ∧ b'.natAbs < 2 ^ (K + m) ∧ c'.natAbs < 2 ^ (K + m)
  | 0, i, a, b, c, K, h, e3, e4, e5, hm, hi, hq, hc, ha, hb, hc2, hK => by
    refine ⟨a, b, c, h, e3, e4, e5, ?_, hc, ha, hb, hc2⟩
    have e1 : (ms.map D.int)[i]? = none := List.getElem?_eq_none (by rw [List.length_map]; omega)
    simp only [forN, Src.nth, MH.seq, hq, Option.map_some, e1]
  | m + 1, i, a, b, c, K, h, e3, e4, e5, hm, hi, hq, hc, ha, hb, hc2, hK => by
    have hx : i < ms.length := by omega
    have ex : (ms.map D.int)[i]? = some (.int ms[i]) := by rw [List.getElem?_map, List.getElem?_eq_getElem hx]; rfl
    have hz := hms _ (List.getElem_mem hx)
    have hk : ((i : Int) + 2).natAbs < 2 ^ 7 := by omega
    have m1 : mulOk ms[i] ((i : Int) + 2) = true := mulOk_of hz hk (by omega)
    have hp : (ms[i] * ((i : Int) + 2)).natAbs < 2 ^ K := up1 (mul_lt hz hk) hK
    generalize hw : ms[i] * ((i : Int) + 2) = w at hp
    have hnext : ∀ a' b' c' : Int, a'.natAbs < 2 ^ (K + 1) → b'.natAbs < 2 ^ (K + 1) → c'.natAbs < 2 ^ (K + 1) → t16 G (.tup [.int i, .int ms[i]]) [some s, some (.int 3), some (.ref rc), e3, e4, e5] h = some (.nx [some s, some (.int 3), some (.ref rc), some (.int i), some (.int ms[i]), some (.int ((i : Int).fmod 3))], h.put rc (.lst [.int a', .int b', .int c'])) →
        ∃ a' b' c' h' e3' e4' e5', forN (t16 G) (.enum (.lv q)) (m + 1 + 1) i [some s, some (.int 3), some (.ref rc), e3, e4, e5] h = some (.nx [some s, some (.int 3), some (.ref rc), e3', e4', e5'], h') ∧
      h'.get rc = some (.lst [.int a', .int b', .int c']) ∧ a'.natAbs < 2 ^ (K + (m + 1)) ∧ b'.natAbs < 2 ^ (K + (m + 1)) ∧ c'.natAbs < 2 ^ (K + (m + 1)) := fun a' b' c' ha' hb' hc' et => by
      obtain ⟨a2, b2, c2, h2, f3, f4, f5, en, g1, g2, g3, g4⟩ := loop16 (G := G) (s := s) hne hms hml hK0 m (i + 1) a' b' c' (K + 1) (h.put rc (.lst [.int a', .int b', .int c'])) (some (.int i)) (some (.int ms[i])) (some (.int ((i : Int).fmod 3))) (by omega) (by omega) (by rw [MH.get_put_ne hne]; exact hq) (MH.get_put_self hc) ha' hb' hc' (by omega)
      rw [show K + 1 + m = K + (m + 1) by omega] at g2 g3 g4
      refine ⟨a2, b2, c2, h2, f3, f4, f5, ?_, g1, g2, g3, g4⟩
      rw [forN]
      simp only [Src.nth, MH.seq, hq, Option.map_some, ex]
      rw [et]
      exact en
    rcases fm3 i with z | z | z
    · refine hnext (a + w) b c (dbl ha hp) (up1 hb (by omega)) (up1 hc2 (by omega)) ?_
      simp [t16, asgT, asgTs, unp, itemsOf, noExc, sOf, evalSs, evalS, evalE, evalEs, Rs.bind, Rs.opt, sThen, binop, bopI, bfD, m1, z, hc, getIx, atD, ixOf, setIx, hw]
    · refine hnext a (b + w) c (up1 ha (by omega)) (dbl hb hp) (up1 hc2 (by omega)) ?_
      simp [t16, asgT, asgTs, unp, itemsOf, noExc, sOf, evalSs, evalS, evalE, evalEs, Rs.bind, Rs.opt, sThen, binop, bopI, bfD, m1, z, hc, getIx, atD, ixOf, setIx, hw]
    · refine hnext a b (c + w) (up1 ha (by omega)) (up1 hb (by omega)) (dbl hc2 hp) ?_
      simp [t16, asgT, asgTs, unp, itemsOf, noExc, sOf, evalSs, evalS, evalE, evalEs, Rs.bind, Rs.opt, sThen, binop, bopI, bfD, m1, z, hc, getIx, atD, ixOf, setIx, hw]
theorem cut_map {α β : Type} (f : α → β) (l : List α) (lo hi : Option Int) : cut (l.map f) lo hi = (cut l lo hi).map f := by
  unfold cut
  rw [List.length_map, ← List.map_drop, ← List.map_take]
theorem cut_mem {α : Type} {l : List α} {lo hi : Option Int} {x : α} (h : x ∈ cut l lo hi) : x ∈ l := List.mem_of_mem_drop (List.mem_of_mem_take h)
theorem cut_le {α : Type} (l : List α) (lo hi : Option Int) : (cut l lo hi).length ≤ l.length := by
  unfold cut
  rw [List.length_take, List.length_drop]
  omega
theorem cut3 {α : Type} (l : List α) : cut l none (some 3) = l.take 3 := by
  unfold cut clip
  simp
theorem cut63 {α : Type} (l : List α) : (cut l (some 3) (some 63)).length ≤ 60 ∧ (l.length ≤ 3 → cut l (some 3) (some 63) = []) := by
  constructor
  · unfold cut clip
    simp
    omega
  · intro h
    unfold cut clip
    simp
    omega
theorem r_cells {n : Nat} {ns : List Int} {K0 : Nat} {h : MH} (hn : ∀ z ∈ ns, z.natAbs < 2 ^ K0) (hK0 : K0 ≤ 2000000) : ∃ (rc : Nat) (cs : List Int) (h' : MH), callN Q 1000000 (n + 1) 16 [.fz (ns.map .int), .int 3] h = .ok (.ref rc) h' ∧ h'.get rc = some (.lst (cs.map .int)) ∧ cs.length ≤ 3 ∧ ∀ c ∈ cs, c.natAbs < 2 ^ (K0 + 67) := by
  have em : cut (ns.map D.int) (some 3) (some 63) = (cut ns (some 3) (some 63)).map .int := cut_map ..
  obtain ⟨h60, h3⟩ := cut63 ns
  have hms : ∀ z ∈ cut ns (some 3) (some 63), z.natAbs < 2 ^ K0 := fun z m => hn z (cut_mem m)
  generalize hms2 : cut ns (some 3) (some 63) = ms at em h60 h3 hms
  generalize hG : gcOf Q 1000000 (callN Q 1000000 n) (callN Q 1000000 (n - 1)) = G
  have u : callB Q 1000000 (callN Q 1000000 n) (callN Q 1000000 (n - 1)) 16 [.fz (ns.map .int), .int 3] h = fnEnd (evalSs G none b16 [some (.fz (ns.map .int)), some (.int 3), none, none, none, none] h) := by
    rw [← hG]
    simp [callB, u16, d16, fnEnv, List.replicate]
  rw [cN, u, b16_eq]
  have tk : cut (ns.map D.int) none (some 3) = (ns.take 3).map .int := by rw [cut3, List.map_take]
  have z1 : ∃ (rc : Nat) (cs : List Int) (h1 : MH), evalS G none (.asg (.nm 2) (.or (.bf .list [.sl (.var 0) none (some (.var 1))]) (.lst [.lit (.int 0)]))) [some (.fz (ns.map .int)), some (.int 3), none, none, none, none] h = some (.nx [some (.fz (ns.map .int)), some (.int 3), some (.ref rc), none, none, none], h1) ∧ h1.get rc = some (.lst (cs.map .int)) ∧ cs.length ≤ 3 ∧ (∀ c ∈ cs, c.natAbs < 2 ^ (K0 + 7)) ∧ (4 ≤ ns.length → cs.length = 3) ∧ rc < h1.sz := by
    cases ns with
    | nil =>
      have gX : ((h.new (.lst [])).new (.lst [])).get (h.sz + 1) = some (.lst []) := get_new_at (by simp only [MH.new_sz])
      refine ⟨h.sz + 1 + 1, [0], ((h.new (.lst [])).new (.lst [])).new (.lst [.int 0]), ?_, get_new_at (by simp only [MH.new_sz]), by simp, ?_, by simp, by simp only [MH.new_sz]; omega⟩
      · refine asg_nm ?_ (by simp)
        simp [evalE, evalEs, evalO, slD, Rs.bind, Rs.opt, bfD, seq_new_at, tstB, Mp.truthy, MH.new_sz, gX, cut, clip]
      · intro c hc
        simp at hc
        subst hc
        exact Nat.pow_pos (by decide)
    | cons z ns =>
      refine ⟨h.sz + 1, (z :: ns).take 3, (h.new (.lst (((z :: ns).take 3).map .int))).new (.lst (((z :: ns).take 3).map .int)), ?_, get_new_at (by simp only [MH.new_sz]), by rw [List.length_take]; omega, fun c hc => up1 (hn c (List.mem_of_mem_take hc)) (by omega), fun h4 => by rw [List.length_take]; omega, by simp only [MH.new_sz]; omega⟩
      refine asg_nm ?_ (by simp)
      obtain ⟨Y, hY⟩ : ∃ Y, ((z :: ns).take 3).map D.int = .int z :: Y := ⟨_, rfl⟩
      rw [hY] at tk ⊢
      have gX : ((h.new (.lst (.int z :: Y))).new (.lst (.int z :: Y))).get (h.sz + 1) = some (.lst (.int z :: Y)) := get_new_at (by simp only [MH.new_sz])
      simp only [evalE, evalEs, evalO, slD, Rs.bind, Rs.opt, List.getElem?_cons_zero, List.getElem?_cons_succ, tk]
      simp only [bfD, seq_new_at, MH.new_sz, tstB, Mp.truthy, gX, Rs.opt, List.isEmpty_cons, Bool.not_false, if_true]
  obtain ⟨rc, cs, h1, z1, g1, l1, b1, f1, s1⟩ := z1
  rw [sq z1]
  have gq : (h1.new (.lst (ms.map .int))).get h1.sz = some (.lst (ms.map .int)) := MH.get_new_self _ _
  have gc : (h1.new (.lst (ms.map .int))).get rc = some (.lst (cs.map .int)) := MH.get_new_some g1
  have es : ∀ f, evalS G none (.forr (.tup [.nm 3, .nm 4]) (.enum (.sl (.var 0) (some (.var 1)) (some (.lit (.int 63))))) f) [some (.fz (ns.map .int)), some (.int 3), some (.ref rc), none, none, none] h1 = forN (fun d ρ h => sOf ρ (asgT G none (.tup [.nm 3, .nm 4]) d ρ h) fun ρ1 h1 => evalSs G none f ρ1 h1) (.enum (.lv h1.sz)) (ms.length + 1) 0 [some (.fz (ns.map .int)), some (.int 3), some (.ref rc), none, none, none] (h1.new (.lst (ms.map .int))) := fun f => by
    simp only [evalS, evalI, evalE, evalO, slD, Rs.bind, List.getElem?_cons_zero, List.getElem?_cons_succ, em, MH.seq, gq, sOf, forS, Src.len, List.length_map]
  by_cases h4 : 4 ≤ ns.length
  · obtain ⟨a, b, c, rfl⟩ : ∃ a b c, cs = [a, b, c] := by
      have := f1 h4
      match cs, this with
      | [a, b, c], _ => exact ⟨a, b, c, rfl⟩
    obtain ⟨a', b', c', h', e3, e4, e5, lp, gr, ba, bb, bc⟩ := loop16 (G := G) (s := .fz (ns.map .int)) (rc := rc) (q := h1.sz) (by omega) hms h60 hK0 ms.length 0 a b c (K0 + 7) (h1.new (.lst (ms.map .int))) none none none (by omega) (by omega) gq gc (b1 a (by simp)) (b1 b (by simp)) (b1 c (by simp)) (by omega)
    refine ⟨rc, [a', b', c'], h', ?_, gr, by simp, ?_⟩
    · have zs : evalS G none s16 [some (.fz (ns.map .int)), some (.int 3), some (.ref rc), none, none, none] h1 = some (.nx [some (.fz (ns.map .int)), some (.int 3), some (.ref rc), e3, e4, e5], h') := by
        unfold s16
        rw [es]
        exact lp
      rw [sq zs]
      simp [evalSs, evalS, evalE, Rs.bind, sOf, sThen, fnEnd]
    · intro c hc
      simp at hc
      rcases hc with rfl | rfl | rfl
      · exact up1 ba (by omega)
      · exact up1 bb (by omega)
      · exact up1 bc (by omega)
  · have := h3 (by omega)
    subst this
    refine ⟨rc, cs, h1.new (.lst (([] : List Int).map .int)), ?_, gc, l1, fun c hc => up1 (b1 c hc) (by omega)⟩
    have zs : evalS G none s16 [some (.fz (ns.map .int)), some (.int 3), some (.ref rc), none, none, none] h1 = some (.nx [some (.fz (ns.map .int)), some (.int 3), some (.ref rc), none, none, none], h1.new (.lst (([] : List Int).map .int))) := by
      unfold s16
      rw [es]
      have gq' : (h1.new (.lst [])).get h1.sz = some (.lst []) := gq
      simp only [List.length_nil, forN, Src.nth, MH.seq, gq', Option.map_some, List.map_nil, List.getElem?_nil]
    rw [sq zs]
    simp [evalSs, evalS, evalE, Rs.bind, sOf, sThen, fnEnd]
end K53
end
section
set_option Elab.async false
set_option linter.all false
set_option maxRecDepth 1000000
set_option maxHeartbeats 4000000
namespace K53
open PySem PySem.Spec PyProof.Rows L2 Mp
/-! ### is_fraction, _law_refused -/
theorem r_num {lim n : Nat} {i : Int} {h : MH} : callN Q lim (n + 1) 0 [.int i] h = .ok (.bl true) h := by
  rw [cN]
  simp [callB, u0, d0, b0, evalSs, evalS, evalE, evalEs, evalT, fnEnv, sOf, sThen, fnEnd, Rs.bind, Rs.opt, tstB, Mp.truthy, isiD, tyD, tyLe]
theorem r_num_bl {lim n : Nat} {i : Bool} {h : MH} : callN Q lim (n + 1) 0 [.bl i] h = .ok (.bl false) h := by
  rw [cN]
  simp [callB, u0, d0, b0, evalSs, evalS, evalE, evalEs, evalT, fnEnv, sOf, sThen, fnEnd, Rs.bind, Rs.opt, tstB, Mp.truthy, isiD, tyD, tyLe]
theorem r_num_str {lim n : Nat} {i : List Nat} {h : MH} : callN Q lim (n + 1) 0 [.str i] h = .ok (.bl false) h := by
  rw [cN]
  simp [callB, u0, d0, b0, evalSs, evalS, evalE, evalEs, evalT, fnEnv, sOf, sThen, fnEnd, Rs.bind, Rs.opt, tstB, Mp.truthy, isiD, tyD, tyLe]
theorem r_num_tup {lim n : Nat} {i : List D} {h : MH} : callN Q lim (n + 1) 0 [.tup i] h = .ok (.bl false) h := by
  rw [cN]
  simp [callB, u0, d0, b0, evalSs, evalS, evalE, evalEs, evalT, fnEnv, sOf, sThen, fnEnd, Rs.bind, Rs.opt, tstB, Mp.truthy, isiD, tyD, tyLe]
theorem r_tupof {lim n : Nat} {xs : List D} {m : Int} {h : MH} : callN Q lim (n + 1) 2 [.tup xs, .int m] h = .ok (.bl (decide ((xs.length : Int) = m))) h := by
  rw [cN]
  simp [callB, u2, d2, b2, evalSs, evalS, evalE, evalEs, evalT, fnEnv, sOf, sThen, fnEnd, Rs.bind, Rs.opt, tstB, Mp.truthy, isiD, tyD, tyLe, bfD, lenD, cmpD, eqD]
theorem r_tupof_no {lim n : Nat} {x : D} {m : Int} {h : MH} (hx : isiD x [.tuple] h = some false) : callN Q lim (n + 1) 2 [x, .int m] h = .ok (.bl false) h := by
  rw [cN]
  simp [callB, u2, d2, b2, evalSs, evalS, evalE, evalEs, evalT, fnEnv, sOf, sThen, fnEnd, Rs.bind, Rs.opt, tstB, Mp.truthy, hx]
theorem r_isf_no {lim n : Nat} {x : D} {h : MH} (hx : isiD x [.tuple] h = some false) : callN Q lim (n + 2) 5 [x] h = .ok (.bl false) h := by
  have e := r_tupof_no (lim := lim) (n := n) (m := 2) hx
  rw [cN]
  simp [callB, u5, d5, b5, evalSs, evalS, evalE, evalEs, evalT, fnEnv, sOf, sThen, fnEnd, Rs.bind, Rs.opt, tstB, Mp.truthy, callP, gcOf, e]
theorem r_isf_len {lim n : Nat} {xs : List D} {h : MH} (hx : ((xs.length : Int) = 2) = False) : callN Q lim (n + 2) 5 [.tup xs] h = .ok (.bl false) h := by
  have e := r_tupof (lim := lim) (n := n) (xs := xs) (m := 2) (h := h)
  rw [cN]
  simp [callB, u5, d5, b5, evalSs, evalS, evalE, evalEs, evalT, fnEnv, sOf, sThen, fnEnd, Rs.bind, Rs.opt, tstB, Mp.truthy, callP, gcOf, e, hx]
/-- the two things' kinds -/
theorem r_isf_a {lim n : Nat} {x y : D} {h : MH} (hx : callN Q lim (n + 1) 0 [x] h = .ok (.bl false) h) : callN Q lim (n + 2) 5 [.tup [x, y]] h = .ok (.bl false) h := by
  have e := r_tupof (lim := lim) (n := n) (xs := [x, y]) (m := 2) (h := h)
  rw [cN]
  simp [callB, u5, d5, b5, evalSs, evalS, evalE, evalEs, evalT, fnEnv, sOf, sThen, fnEnd, Rs.bind, Rs.opt, tstB, Mp.truthy, callP, gcOf, e, hx, getIx, atD, ixOf]
theorem r_isf_b {lim n : Nat} {x : Int} {y : D} {h : MH} (hx : callN Q lim (n + 1) 0 [y] h = .ok (.bl false) h) : callN Q lim (n + 2) 5 [.tup [.int x, y]] h = .ok (.bl false) h := by
  have e := r_tupof (lim := lim) (n := n) (xs := [.int x, y]) (m := 2) (h := h)
  have e2 := r_num (lim := lim) (n := n) (i := x) (h := h)
  rw [cN]
  simp [callB, u5, d5, b5, evalSs, evalS, evalE, evalEs, evalT, fnEnv, sOf, sThen, fnEnd, Rs.bind, Rs.opt, tstB, Mp.truthy, callP, gcOf, e, e2, hx, getIx, atD, ixOf]
theorem r_isf {lim n : Nat} {x y : Int} {h : MH} : callN Q lim (n + 2) 5 [.tup [.int x, .int y]] h = .ok (.bl (decide (0 < y) && decide (((Nat.gcd x.natAbs y.natAbs : Nat) : Int) = 1))) h := by
  have e := r_tupof (lim := lim) (n := n) (xs := [.int x, .int y]) (m := 2) (h := h)
  have e2 := r_num (lim := lim) (n := n) (i := x) (h := h)
  have e3 := r_num (lim := lim) (n := n) (i := y) (h := h)
  rw [cN]
  by_cases c : 0 < y
  · simp [callB, u5, d5, b5, evalSs, evalS, evalE, evalEs, evalT, fnEnv, sOf, sThen, fnEnd, Rs.bind, Rs.opt, tstB, Mp.truthy, callP, gcOf, e, e2, e3, getIx, atD, ixOf, cmpD, eqD, bfD, ordI, c]
  · simp [callB, u5, d5, b5, evalSs, evalS, evalE, evalEs, evalT, fnEnv, sOf, sThen, fnEnd, Rs.bind, Rs.opt, tstB, Mp.truthy, callP, gcOf, e, e2, e3, getIx, atD, ixOf, cmpD, eqD, bfD, ordI, c]
/-! the comprehension: what each thing answers -/
def f24 (G : GC) (ρ : Mp.Env) : D → MH → Rs (Option D) := fun d h => noExc ((asgT G none (.nm 4) d (Mp.wipe ρ [4]) h).bind fun ρ1 h2 => (evalTs G none [] ρ1 h2).bind fun k h3 =>
      if k then (evalE G none (.call 5 [.var 4] []) ρ1 h3).bind fun y h4 => .ok (some y) h4 else .ok none h3)
def lc24 : ME := .lc (.call 5 [.var 4] []) (.nm 4) (.seq (.bin .add (.var 0) (.var 1))) [] [4]
theorem lc24_eq {G : GC} {ρ : Mp.Env} {h : MH} : evalE G none lc24 ρ h = (evalI G none (.seq (.bin .add (.var 0) (.var 1))) ρ h).bind fun s h1 => (compS (f24 G ρ) s h1).bind fun ys h2 => if ys.length < lineC then .ok (.ref h2.sz) (h2.new (.lst ys)) else .bad := by
  unfold lc24
  rw [evalE]
  rfl
theorem turn24 {G : GC} {d y : D} {a b c e f : Option D} {h : MH} (hc : callP G 5 [d] [] h = .ok y h) :
    f24 G [a, b, c, e, f] d h = .ok (some y) h := by
  simp [f24, asgT, Mp.wipe, noExc, Rs.bind, evalTs, evalE, evalEs, hc]
/-- each answers what is told -/
inductive Ans (G : GC) (h : MH) : List D → List D → Prop
  | nil : Ans G h [] []
  | cons {d y : D} {ds ys : List D} : callP G 5 [d] [] h = .ok y h → Ans G h ds ys → Ans G h (d :: ds) (y :: ys)
theorem turns24 {G : GC} {h : MH} {r : Nat} {xs : List D} {a b c e f : Option D} (hr : h.get r = some (.lst xs)) : ∀ (m i : Nat) (ys : List D), xs.length - i = m → i ≤ xs.length → Ans G h (xs.drop i) ys →
    compN (f24 G [a, b, c, e, f]) (.lv r) (m + 1) i h = .ok ys h
  | 0, i, ys, hm, hi, l => by
    have e1 : xs[i]? = none := List.getElem?_eq_none (by omega)
    have e2 : xs.drop i = [] := List.drop_eq_nil_of_le (by omega)
    rw [e2] at l
    cases l
    simp [compN, Src.nth, MH.seq, hr, e1]
  | m + 1, i, ys, hm, hi, l => by
    have hx : i < xs.length := by omega
    rw [List.drop_eq_getElem_cons hx] at l
    cases l with
    | cons l ls =>
      have ih := turns24 (a := a) (b := b) (c := c) (e := e) (f := f) hr m (i + 1) _ (by omega) (by omega) ls
      rw [compN]
      have ex : xs[i]? = some xs[i] := List.getElem?_eq_getElem hx
      simp only [Src.nth, MH.seq, hr, Option.map_some, ex]
      rw [turn24 l]
      simp only [Rs.bind]
      rw [ih]
def s24 : MS := .forr (.tup [.nm 2, .nm 3]) (.seq (.tup [.tup [.lit (.int 1), .lit (.int 0)], .tup [.lit (.int 0), .lit (.int 0)], .tup [.neg (.lit (.int 3)), .lit (.int 0)]])) [.try_ [.expr (.call 4 [.var 2, .var 3] []), .ret (.lit (.bl false))] [.mk 0 none [.pass]]]
def bad24 : MS := .asg (.nm 0) (.lst [.tup [.lit (.int 2), .lit (.int 4)], .tup [.lit (.int 1), .neg (.lit (.int 2))], .tup [.lit (.int 0), .lit (.int 2)], .tup [.lit (.int 1), .lit (.int 0)], .tup [.lit (.bl true), .lit (.int 1)], .tup [.lit (.int 1), .lit (.bl true)], .lst [.lit (.int 1), .lit (.int 2)], .tup [.lit (.int 1)], .tup [.lit (.int 1), .lit (.int 2), .lit (.int 1)], .tup [.lit (.int 1), .lit (.str [50])], .lit (.str [49, 47, 50]), .lit .non, .lit (.int 1), .tup [.tup [.lit (.int 1), .lit (.int 1)], .lit (.int 2)]])
def good24 : MS := .asg (.nm 1) (.lst [.tup [.lit (.int 0), .lit (.int 1)], .tup [.neg (.lit (.int 3)), .lit (.int 2)], .tup [.bin .add (.bin .pow (.lit (.int 10)) (.lit (.int 40))) (.lit (.int 1)), .bin .pow (.lit (.int 10)) (.lit (.int 40))], .tup [.lit (.int 5), .lit (.int 1)]])
def bin24 : ME := .bin .add (.bin .mul (.lst [.lit (.bl false)]) (.bf .len [.var 0])) (.bin .mul (.lst [.lit (.bl true)]) (.bf .len [.var 1]))
theorem b24_eq : b24 = [s24, bad24, good24, .ret (.call 18 [lc24, bin24] [])] := rfl
def goodL : List D := [.tup [.int 0, .int 1], .tup [.int (-3), .int 2], .tup [.int 10000000000000000000000000000000000000001, .int 10000000000000000000000000000000000000000], .tup [.int 5, .int 1]]
def badL (r : Nat) : List D := [.tup [.int 2, .int 4], .tup [.int 1, .int (-2)], .tup [.int 0, .int 2], .tup [.int 1, .int 0], .tup [.bl true, .int 1], .tup [.int 1, .bl true], .ref r, .tup [.int 1], .tup [.int 1, .int 2, .int 1], .tup [.int 1, .str [50]], .str [49, 47, 50], .non, .int 1, .tup [.tup [.int 1, .int 1], .int 2]]
def ansL : List D := [.bl false, .bl false, .bl false, .bl false, .bl false, .bl false, .bl false, .bl false, .bl false, .bl false, .bl false, .bl false, .bl false, .bl false, .bl true, .bl true, .bl true, .bl true]
theorem r_refused {n : Nat} {h : MH} : ∃ h', callN Q 1000000 (n + 8) 24 [] h = .ok (.bl true) h' ∧ Grow h h' := by
  generalize hG : gcOf Q 1000000 (callN Q 1000000 (n + 7)) (callN Q 1000000 (n + 6)) = G
  have hcall : ∀ f xs h, callP G f xs [] h = callN Q 1000000 (n + 7) f xs h := fun _ _ _ => by rw [← hG]; rfl
  have u : callB Q 1000000 (callN Q 1000000 (n + 7)) (callN Q 1000000 (n + 7 - 1)) 24 [] h = fnEnd (evalSs G none b24 [none, none, none, none, none] h) := by
    rw [← hG]
    simp [callB, u24, d24, fnEnv, List.replicate]
  have hsub : G.sub 0 0 = some true := by rw [← hG]; rfl
  have f0 : ∀ t h, callP G 4 [.int t, .int 0] [] h = .exc ⟨0, none⟩ h := fun t h => by rw [hcall]; exact r_fraction0
  have z0 : evalS G none s24 [none, none, none, none, none] h = some (.nx [none, none, some (.int (-3)), some (.int 0), none], h) := by
    unfold s24
    simp [evalS, evalSs, evalI, evalE, evalEs, evalX, Rs.bind, sOf, sThen, forS, forL, turn, asgT, asgTs, unp, itemsOf, noExc, f0, hsub, slotOk, hide, Mp.leave]
  have e40 : bopI .pow 10 40 = some (10000000000000000000000000000000000000000 : Int) := by decide
  have z1 : evalS G none bad24 [none, none, some (.int (-3)), some (.int 0), none] h = some (.nx [some (.ref (h.sz + 1)), none, some (.int (-3)), some (.int 0), none], (h.new (.lst [.int 1, .int 2])).new (.lst (badL h.sz))) := by
    unfold bad24
    refine asg_nm ?_ (by simp)
    simp [evalE, evalEs, Rs.bind, MH.new_sz, badL]
  have z2 : evalS G none good24 [some (.ref (h.sz + 1)), none, some (.int (-3)), some (.int 0), none] ((h.new (.lst [.int 1, .int 2])).new (.lst (badL h.sz))) = some (.nx [some (.ref (h.sz + 1)), some (.ref (h.sz + 1 + 1)), some (.int (-3)), some (.int 0), none], ((h.new (.lst [.int 1, .int 2])).new (.lst (badL h.sz))).new (.lst goodL)) := by
    unfold good24
    refine asg_nm ?_ (by simp)
    simp [evalE, evalEs, Rs.bind, MH.new_sz, goodL, binop, e40]
    simp [bopI]
    simp only [MH.new_sz]
  have ga : (((h.new (.lst [.int 1, .int 2])).new (.lst (badL h.sz))).new (.lst goodL)).get (h.sz + 1) = some (.lst (badL h.sz)) := MH.get_new_some (get_new_at (by rw [MH.new_sz]))
  have gb : (((h.new (.lst [.int 1, .int 2])).new (.lst (badL h.sz))).new (.lst goodL)).get (h.sz + 1 + 1) = some (.lst goodL) := get_new_at (by simp only [MH.new_sz])
  have gc : (((h.new (.lst [.int 1, .int 2])).new (.lst (badL h.sz))).new (.lst goodL)).get h.sz = some (.lst [.int 1, .int 2]) := MH.get_new_some (MH.get_new_some (MH.get_new_self _ _))
  have sz3 : (((h.new (.lst [.int 1, .int 2])).new (.lst (badL h.sz))).new (.lst goodL)).sz = h.sz + 1 + 1 + 1 := by simp only [MH.new_sz]
  have gr3 : Grow h (((h.new (.lst [.int 1, .int 2])).new (.lst (badL h.sz))).new (.lst goodL)) := Grow.new.trans (Grow.new.trans .new)
  generalize ((h.new (.lst [.int 1, .int 2])).new (.lst (badL h.sz))).new (.lst goodL) = h3 at *
  have gd : (h3.new (.lst (badL h.sz ++ goodL))).get h3.sz = some (.lst (badL h.sz ++ goodL)) := MH.get_new_self _ _
  have gc' : (h3.new (.lst (badL h.sz ++ goodL))).get h.sz = some (.lst [.int 1, .int 2]) := MH.get_new_some gc
  have ga' : (h3.new (.lst (badL h.sz ++ goodL))).get (h.sz + 1) = some (.lst (badL h.sz)) := MH.get_new_some ga
  have gb' : (h3.new (.lst (badL h.sz ++ goodL))).get (h.sz + 1 + 1) = some (.lst goodL) := MH.get_new_some gb
  have gr4 : Grow h (h3.new (.lst (badL h.sz ++ goodL))) := gr3.trans .new
  have ebin : binop .add (.ref (h.sz + 1)) (.ref (h.sz + 1 + 1)) h3 = .ok (.ref h3.sz) (h3.new (.lst (badL h.sz ++ goodL))) := by
    simp only [binop, ga, gb]
    rw [if_pos (by show 14 + 4 ≤ lineC; decide)]
  generalize h3.new (.lst (badL h.sz ++ goodL)) = h4 at *
  have ans : Ans G h4 (badL h.sz ++ goodL) ansL := by
    have no : ∀ x, isiD x [.tuple] h4 = some false → callP G 5 [x] [] h4 = .ok (.bl false) h4 := fun x hx => by rw [hcall]; exact r_isf_no hx
    have ln : ∀ xs : List D, ((xs.length : Int) = 2) = False → callP G 5 [.tup xs] [] h4 = .ok (.bl false) h4 := fun x hx => by rw [hcall]; exact r_isf_len hx
    have fr : ∀ x y : Int, callP G 5 [.tup [.int x, .int y]] [] h4 = .ok (.bl (decide (0 < y) && decide (((Nat.gcd x.natAbs y.natAbs : Nat) : Int) = 1))) h4 := fun x y => by rw [hcall]; exact r_isf
    have fa : ∀ x y : D, callN Q 1000000 (n + 6) 0 [x] h4 = .ok (.bl false) h4 → callP G 5 [.tup [x, y]] [] h4 = .ok (.bl false) h4 := fun x y hx => by rw [hcall]; exact r_isf_a hx
    have fb : ∀ (x : Int) (y : D), callN Q 1000000 (n + 6) 0 [y] h4 = .ok (.bl false) h4 → callP G 5 [.tup [.int x, y]] [] h4 = .ok (.bl false) h4 := fun x y hx => by rw [hcall]; exact r_isf_b hx
    have fr' : ∀ (x y : Int) (b : Bool), (decide (0 < y) && decide (((Nat.gcd x.natAbs y.natAbs : Nat) : Int) = 1)) = b → callP G 5 [.tup [.int x, .int y]] [] h4 = .ok (.bl b) h4 := fun x y b hb => by rw [fr, hb]
    unfold badL goodL ansL
    refine .cons (fr' _ _ _ (by decide +kernel)) (.cons (fr' _ _ _ (by decide +kernel)) (.cons (fr' _ _ _ (by decide +kernel)) (.cons (fr' _ _ _ (by decide +kernel)) ?_)))
    refine .cons (fa _ _ r_num_bl) (.cons (fb _ _ r_num_bl) (.cons (no _ (by simp [isiD, tyD, gc', tyLe])) (.cons (ln _ (by simp)) (.cons (ln _ (by simp)) (.cons (fb _ _ r_num_str) ?_)))))
    refine .cons (no _ (by simp [isiD, tyD, tyLe])) (.cons (no _ (by simp [isiD, tyD, tyLe])) (.cons (no _ (by simp [isiD, tyD, tyLe])) (.cons (fa _ _ r_num_tup) ?_)))
    exact .cons (fr' _ _ _ (by decide +kernel)) (.cons (fr' _ _ _ (by decide +kernel)) (.cons (fr' _ _ _ (by decide +kernel)) (.cons (fr' _ _ _ (by decide +kernel)) .nil)))
  have lc := turns24 (G := G) (a := some (.ref (h.sz + 1))) (b := some (.ref (h.sz + 1 + 1))) (c := some (.int (-3))) (e := some (.int 0)) (f := none) gd 18 0 ansL rfl (by omega) ans
  have elc : evalE G none lc24 [some (.ref (h.sz + 1)), some (.ref (h.sz + 1 + 1)), some (.int (-3)), some (.int 0), none] h3 = .ok (.ref h4.sz) (h4.new (.lst ansL)) := by
    rw [lc24_eq]
    have ei : evalI G none (.seq (.bin .add (.var 0) (.var 1))) [some (.ref (h.sz + 1)), some (.ref (h.sz + 1 + 1)), some (.int (-3)), some (.int 0), none] h3 = .ok (.lv h3.sz) h4 := by
      simp only [evalI, evalE, List.getElem?_cons_zero, List.getElem?_cons_succ, Rs.bind, ebin, MH.seq, gd]
    rw [ei]
    have el : (Src.lv h3.sz).len h4 = 18 := by simp only [Src.len, MH.seq, gd]; rfl
    simp only [Rs.bind, compS]
    rw [el, lc]
    simp only [Rs.bind]
    rw [if_pos (by decide +kernel)]
  have k1 : (h4.new (.lst ansL)).get (h.sz + 1) = some (.lst (badL h.sz)) := MH.get_new_some ga'
  have k2 : (h4.new (.lst ansL)).get (h.sz + 1 + 1) = some (.lst goodL) := MH.get_new_some gb'
  have k3 := MH.get_new_self h4 (.lst ansL)
  have gr5 : Grow h (h4.new (.lst ansL)) := gr4.trans .new
  generalize hn4 : h4.sz = a4 at *
  generalize h4.new (.lst ansL) = h5 at *
  have e1 : evalE G none bin24 [some (.ref (h.sz + 1)), some (.ref (h.sz + 1 + 1)), some (.int (-3)), some (.int 0), none] h5 =
      .ok (.ref (h5.sz + 1 + 1 + 1 + 1)) (((((h5.new (.lst [.bl false])).new (.lst (ansL.take 14))).new (.lst [.bl true])).new (.lst (ansL.drop 14))).new (.lst ansL)) := by
    have w1 : (h5.new (.lst [.bl false])).get (h.sz + 1) = some (.lst (badL h.sz)) := MH.get_new_some k1
    have w2 : (((h5.new (.lst [.bl false])).new (.lst (ansL.take 14))).new (.lst [.bl true])).get (h.sz + 1 + 1) = some (.lst goodL) := MH.get_new_some (MH.get_new_some (MH.get_new_some k2))
    have b1 : binop .mul (.ref h5.sz) (.int 14) (h5.new (.lst [.bl false])) = .ok (.ref (h5.sz + 1)) ((h5.new (.lst [.bl false])).new (.lst (ansL.take 14))) := by
      simp only [binop, MH.get_new_self, MH.new_sz]
      rw [if_pos (by decide +kernel)]
      rfl
    have b2 : binop .mul (.ref (h5.sz + 1 + 1)) (.int 4) (((h5.new (.lst [.bl false])).new (.lst (ansL.take 14))).new (.lst [.bl true])) = .ok (.ref (h5.sz + 1 + 1 + 1)) ((((h5.new (.lst [.bl false])).new (.lst (ansL.take 14))).new (.lst [.bl true])).new (.lst (ansL.drop 14))) := by
      have : (((h5.new (.lst [.bl false])).new (.lst (ansL.take 14))).new (.lst [.bl true])).get (h5.sz + 1 + 1) = some (.lst [.bl true]) := get_new_at (by simp only [MH.new_sz])
      simp only [binop, this, MH.new_sz]
      rw [if_pos (by decide +kernel)]
      rfl
    have b3 : binop .add (.ref (h5.sz + 1)) (.ref (h5.sz + 1 + 1 + 1)) ((((h5.new (.lst [.bl false])).new (.lst (ansL.take 14))).new (.lst [.bl true])).new (.lst (ansL.drop 14))) = .ok (.ref (h5.sz + 1 + 1 + 1 + 1)) (((((h5.new (.lst [.bl false])).new (.lst (ansL.take 14))).new (.lst [.bl true])).new (.lst (ansL.drop 14))).new (.lst ansL)) := by
      have q1 : ((((h5.new (.lst [.bl false])).new (.lst (ansL.take 14))).new (.lst [.bl true])).new (.lst (ansL.drop 14))).get (h5.sz + 1) = some (.lst (ansL.take 14)) := MH.get_new_some (MH.get_new_some (get_new_at (by simp only [MH.new_sz])))
      have q2 : ((((h5.new (.lst [.bl false])).new (.lst (ansL.take 14))).new (.lst [.bl true])).new (.lst (ansL.drop 14))).get (h5.sz + 1 + 1 + 1) = some (.lst (ansL.drop 14)) := get_new_at (by simp only [MH.new_sz])
      simp only [binop, q1, q2, MH.new_sz]
      rw [if_pos (by decide +kernel)]
      rfl
    have n1 : bfD .len [.ref (h.sz + 1)] (h5.new (.lst [.bl false])) = .ok (.int 14) (h5.new (.lst [.bl false])) := by
      simp only [bfD, lenD, w1]
      rfl
    have n2 : bfD .len [.ref (h.sz + 1 + 1)] (((h5.new (.lst [.bl false])).new (.lst (ansL.take 14))).new (.lst [.bl true])) = .ok (.int 4) (((h5.new (.lst [.bl false])).new (.lst (ansL.take 14))).new (.lst [.bl true])) := by
      simp only [bfD, lenD, w2]
      rfl
    unfold bin24
    simp only [evalE, evalEs, List.getElem?_cons_zero, List.getElem?_cons_succ, Rs.bind, n1, b1, MH.new_sz, n2, b2, b3]
  have y1 : (((((h5.new (.lst [.bl false])).new (.lst (ansL.take 14))).new (.lst [.bl true])).new (.lst (ansL.drop 14))).new (.lst ansL)).get a4 = some (.lst ansL) := MH.get_new_some (MH.get_new_some (MH.get_new_some (MH.get_new_some (MH.get_new_some k3))))
  have y2 : (((((h5.new (.lst [.bl false])).new (.lst (ansL.take 14))).new (.lst [.bl true])).new (.lst (ansL.drop 14))).new (.lst ansL)).get (h5.sz + 1 + 1 + 1 + 1) = some (.lst ansL) := get_new_at (by simp only [MH.new_sz])
  have lk : ∀ h, Likes 2 h ansL ansL := fun h => by
    have b : ∀ b : Bool, Like 2 h (.bl b) (.bl b) := fun b => .same (.bl b)
    unfold ansL
    repeat (first | exact .nil | refine .cons (b _) ?_)
  obtain ⟨h6, c6, g6⟩ := r_same (lim := 1000000) 3 (n + 6) (by omega) _ (.ref a4) (.ref (h5.sz + 1 + 1 + 1 + 1)) (.lst y1 y2 (by decide) (lk _))
  refine ⟨h6, ?_, gr5.trans (Grow.new.trans (Grow.new.trans (Grow.new.trans (Grow.new.trans (Grow.new.trans g6)))))⟩
  rw [cN, u, b24_eq, sq z0, sq z1, sq z2]
  simp only [evalSs, evalS, evalE, evalEs, elc, Rs.bind, e1, hcall, c6, sOf, sThen, fnEnd]
end K53
end
section
set_option Elab.async false
set_option linter.all false
set_option maxRecDepth 1000000
set_option maxHeartbeats 4000000
namespace K53
open PySem PySem.Spec PyProof.Rows L2 Mp
/-! ### the law -/
/-- all but the one at r stands -/
structure GrowB (r : Nat) (h h' : MH) : Prop where
  get : ∀ q o, q ≠ r → h.get q = some o → h'.get q = some o
theorem GrowB.trans {r : Nat} {a b c : MH} (x : GrowB r a b) (y : GrowB r b c) : GrowB r a c := ⟨fun q o n e => y.get q o n (x.get q o n e)⟩
theorem Grow.but {r : Nat} {a b : MH} (x : Grow a b) : GrowB r a b := ⟨fun q o _ e => x.get q o e⟩
theorem GrowB.put {r : Nat} {h : MH} {o : MO} : GrowB r h (h.put r o) := ⟨fun q o n e => by rw [MH.get_put_ne n]; exact e⟩
/-- drawn: the lower part not 0 -/
structure Dr (p : Int × Int) : Prop where
  a : p.1.natAbs < 2 ^ 103
  b : p.2.natAbs < 2 ^ 103
  c : p.2 ≠ 0
def f21 (G : GC) (ρ : Mp.Env) : D → MH → Rs (Option D) := fun d h => noExc ((asgT G none (.nm 8) d (Mp.wipe ρ [8]) h).bind fun ρ1 h2 => (evalTs G none [] ρ1 h2).bind fun k h3 =>
      if k then (evalE G none (.call 21 [.var 3] []) ρ1 h3).bind fun y h4 => .ok (some y) h4 else .ok none h3)
def lc21 : ME := .lc (.call 21 [.var 3] []) (.nm 8) (.range1 (.bin .add (.lit (.int 2)) (.call 15 [.var 3, .lit (.int 7)] []))) [] [8]
theorem lc21_eq {G : GC} {ρ : Mp.Env} {h : MH} : evalE G none lc21 ρ h = (evalI G none (.range1 (.bin .add (.lit (.int 2)) (.call 15 [.var 3, .lit (.int 7)] []))) ρ h).bind fun s h1 => (compS (f21 G ρ) s h1).bind fun ys h2 => if ys.length < lineC then .ok (.ref h2.sz) (h2.new (.lst ys)) else .bad := by
  unfold lc21
  rw [evalE]
  rfl
theorem turns21 {G : GC} {n : Nat} (hcall : ∀ f xs h, callP G f xs [] h = callN Q 1000000 (n + 8) f xs h) {r : Nat} {e0 e1 e2 e4 e5 e6 e7 e8 e9 e10 : Option D} : ∀ (m : Nat) (lo : Int) (u : Int × Int × Int) (j : Nat) (h : MH), h.get r = some (urnL u) → Urn u (j + 7 * m) →
    ∃ l u' h', compL (f21 G [e0, e1, e2, some (.ref r), e4, e5, e6, e7, e8, e9, e10]) (rangeD lo m) h = .ok (frs l) h' ∧ l.length = m ∧ (∀ p ∈ l, Dr p) ∧ h'.get r = some (urnL u') ∧ Urn u' j ∧ GrowB r h h'
  | 0, lo, u, j, h, hr, hu => ⟨[], u, h, rfl, rfl, by simp, hr, hu, ⟨fun _ _ _ e => e⟩⟩
  | m + 1, lo, u, j, h, hr, hu => by
    obtain ⟨t, b, u1, b0, t1, b1, hu1, ed⟩ := r_drawn (lim := 1000000) (n := n + 5) (j := j + 7 * m) hr (by rw [show j + 7 * m + 7 = j + 7 * (m + 1) by omega]; exact hu)
    obtain ⟨l, u2, h2, el, ll, dl, hr2, hu2, g2⟩ := turns21 hcall (e0 := e0) (e1 := e1) (e2 := e2) (e4 := e4) (e5 := e5) (e6 := e6) (e7 := e7) (e8 := e8) (e9 := e9) (e10 := e10) m (lo + 1) u1 j (h.put r (urnL u1)) (MH.get_put_self hr) hu1
    refine ⟨(t, b) :: l, u2, h2, ?_, by simp [ll], ?_, hr2, hu2, GrowB.put.trans g2⟩
    · have ef : f21 G [e0, e1, e2, some (.ref r), e4, e5, e6, e7, e8, e9, e10] (.int lo) h = .ok (some (.tup [.int t, .int b])) (h.put r (urnL u1)) := by
        simp [f21, asgT, Mp.wipe, noExc, Rs.bind, evalTs, evalE, evalEs, hcall, ed]
      rw [rangeD, compL, ef]
      simp only [Rs.bind]
      rw [el]
      rfl
    · intro p hp
      cases hp with
      | head => exact ⟨t1, b1, b0⟩
      | tail _ m => exact dl p m
/-! the pairs -/
def t25z (G : GC) : D → Mp.Env → MH → Ro := fun d ρ h => sOf ρ (asgT G none (.tup [.nm 6, .nm 7]) d ρ h) fun ρ1 h1 => evalSs G none [.ife (.not (.call 22 [.var 6, .var 7] [])) [.ret (.lit (.bl false))] []] ρ1 h1
def s25z : MS := .forr (.tup [.nm 6, .nm 7]) (.zip (.var 4) (.sl (.var 4) (some (.lit (.int 1))) none)) [.ife (.not (.call 22 [.var 6, .var 7] [])) [.ret (.lit (.bl false))] []]
theorem frs_get {l : List (Int × Int)} {i : Nat} : (frs l)[i]? = (l[i]?).map fun p => .tup [.int p.1, .int p.2] := by unfold frs; rw [List.getElem?_map]
theorem zips {G : GC} {n : Nat} (hcall : ∀ f xs h, callP G f xs [] h = callN Q 1000000 (n + 8) f xs h) {a b : Nat} {l1 l2 : List (Int × Int)} {e0 e1 e2 e3 e4 e5 e8 e9 e10 : Option D} (d1 : ∀ p ∈ l1, Dr p) (d2 : ∀ p ∈ l2, Dr p) : ∀ (m i : Nat) (h : MH) (e6 e7 : Option D), h.get a = some (.lst (frs l1)) → h.get b = some (.lst (frs l2)) → (min l1.length l2.length) - i = m →
    ∃ e6' e7' h', forN (t25z G) (.zip (.lv a) (.lv b)) (m + 1) i [e0, e1, e2, e3, e4, e5, e6, e7, e8, e9, e10] h = some (.nx [e0, e1, e2, e3, e4, e5, e6', e7', e8, e9, e10], h') ∧ Grow h h'
  | 0, i, h, e6, e7, ha, hb, hm => by
    refine ⟨e6, e7, h, ?_, .refl⟩
    rw [forN]
    simp only [Src.nth, MH.seq, ha, hb, Option.map_some, frs_get]
    by_cases c : l1.length ≤ i
    · rw [List.getElem?_eq_none c]
      simp only [Option.map_none]
    · have c2 : l2.length ≤ i := by omega
      rw [List.getElem?_eq_none c2, List.getElem?_eq_getElem (by omega)]
      simp only [Option.map_none, Option.map_some]
  | m + 1, i, h, e6, e7, ha, hb, hm => by
    have x1 : i < l1.length := by omega
    have x2 : i < l2.length := by omega
    have p1 := d1 _ (List.getElem_mem x1)
    have p2 := d2 _ (List.getElem_mem x2)
    obtain ⟨h1, er, g1⟩ := r_two (n := n) (h := h) p1.c p2.c p1.a p1.b p2.a p2.b
    obtain ⟨e6', e7', h2, el, g2⟩ := zips (e0 := e0) (e1 := e1) (e2 := e2) (e3 := e3) (e4 := e4) (e5 := e5) (e8 := e8) (e9 := e9) (e10 := e10) hcall d1 d2 m (i + 1) h1 (some (.tup [.int (l1[i]).1, .int (l1[i]).2])) (some (.tup [.int (l2[i]).1, .int (l2[i]).2])) (g1.get _ _ ha) (g1.get _ _ hb) (by omega)
    refine ⟨e6', e7', h2, ?_, g1.trans g2⟩
    rw [forN]
    simp only [Src.nth, MH.seq, ha, hb, Option.map_some, frs_get, List.getElem?_eq_getElem x1, List.getElem?_eq_getElem x2]
    have et : t25z G (.tup [.tup [.int (l1[i]).1, .int (l1[i]).2], .tup [.int (l2[i]).1, .int (l2[i]).2]]) [e0, e1, e2, e3, e4, e5, e6, e7, e8, e9, e10] h = some (.nx [e0, e1, e2, e3, e4, e5, some (.tup [.int (l1[i]).1, .int (l1[i]).2]), some (.tup [.int (l2[i]).1, .int (l2[i]).2]), e8, e9, e10], h1) := by
      simp [t25z, asgT, asgTs, unp, itemsOf, noExc, sOf, evalSs, evalS, evalT, evalE, evalEs, Rs.bind, Rs.opt, sThen, hcall, er, tstB, Mp.truthy]
    rw [et]
    exact el
/-! those in lowest terms -/
def lowP (p : Int × Int) : Int × Int := (lowA p.1 p.2, lowB p.1 p.2)
theorem lowP_fr {p : Int × Int} (h : Dr p) : Fr (lowP p) ∧ Low (lowP p) := by
  obtain ⟨a, b⟩ := low_le (t := p.1) h.c
  exact ⟨⟨Nat.lt_of_le_of_lt a h.a, Nat.lt_of_le_of_lt b h.b, lowB_pos h.c⟩, low_low h.c⟩
def f19 (G : GC) (ρ : Mp.Env) : D → MH → Rs (Option D) := fun d h => noExc ((asgT G none (.tup [.nm 9, .nm 10]) d (Mp.wipe ρ [9, 10]) h).bind fun ρ1 h2 => (evalTs G none [] ρ1 h2).bind fun k h3 =>
      if k then (evalE G none (.call 19 [.var 9, .var 10] []) ρ1 h3).bind fun y h4 => .ok (some y) h4 else .ok none h3)
def lc19 : ME := .lc (.call 19 [.var 9, .var 10] []) (.tup [.nm 9, .nm 10]) (.seq (.var 4)) [] [9, 10]
theorem lc19_eq {G : GC} {ρ : Mp.Env} {h : MH} : evalE G none lc19 ρ h = (evalI G none (.seq (.var 4)) ρ h).bind fun s h1 => (compS (f19 G ρ) s h1).bind fun ys h2 => if ys.length < lineC then .ok (.ref h2.sz) (h2.new (.lst ys)) else .bad := by
  unfold lc19
  rw [evalE]
  rfl
theorem turns19 {G : GC} {n : Nat} (hcall : ∀ f xs h, callP G f xs [] h = callN Q 1000000 (n + 8) f xs h) {a : Nat} {l : List (Int × Int)} {e0 e1 e2 e3 e4 e5 e6 e7 e8 e9 e10 : Option D} (dl : ∀ p ∈ l, Dr p) {h : MH} (ha : h.get a = some (.lst (frs l))) : ∀ (m i : Nat), l.length - i = m → i ≤ l.length →
    compN (f19 G [e0, e1, e2, e3, e4, e5, e6, e7, e8, e9, e10]) (.lv a) (m + 1) i h = .ok (frs ((l.drop i).map lowP)) h
  | 0, i, hm, hi => by
    have e2 : l.drop i = [] := List.drop_eq_nil_of_le (by omega)
    rw [compN, e2]
    simp only [Src.nth, MH.seq, ha, Option.map_some, frs_get, List.getElem?_eq_none (show l.length ≤ i by omega), Option.map_none]
    rfl
  | m + 1, i, hm, hi => by
    have hx : i < l.length := by omega
    have p := dl _ (List.getElem_mem hx)
    have er := r_low (n := n + 7) (t := (l[i]).1) (b := (l[i]).2) (h := h) p.c (up1 p.b (by omega)) (low_log p.c p.b (by decide))
    have ih := turns19 (e0 := e0) (e1 := e1) (e2 := e2) (e3 := e3) (e4 := e4) (e5 := e5) (e6 := e6) (e7 := e7) (e8 := e8) (e9 := e9) (e10 := e10) hcall dl ha m (i + 1) (by omega) (by omega)
    rw [compN]
    simp only [Src.nth, MH.seq, ha, Option.map_some, frs_get, List.getElem?_eq_getElem hx]
    have ef : f19 G [e0, e1, e2, e3, e4, e5, e6, e7, e8, e9, e10] (.tup [.int (l[i]).1, .int (l[i]).2]) h = .ok (some (lowT (l[i]).1 (l[i]).2)) h := by
      simp [f19, asgT, asgTs, unp, itemsOf, Mp.wipe, noExc, Rs.bind, evalTs, evalE, evalEs, hcall, er]
    rw [ef]
    simp only [Rs.bind]
    rw [ih, List.drop_eq_getElem_cons hx]
    rfl
end K53
end
section
set_option Elab.async false
set_option linter.all false
set_option maxRecDepth 1000000
set_option maxHeartbeats 4000000
namespace K53
open PySem PySem.Spec PyProof.Rows L2 Mp
def cut25 : MS := .asg (.nm 5) (.sl lc19 none (some (.call 15 [.var 3, .lit (.int 9)] [])))
def if25 : MS := .ife (.or (.not (.call 23 [.var 5] [])) (.not (.call 23 [.bin .add (.var 5) (.sl (.var 5) none (some (.lit (.int 2))))] []))) [.ret (.lit (.bl false))] []
def body25 : List MS := [.asg (.nm 3) (.call 14 [.var 1, .var 2] []), .asg (.nm 4) lc21, s25z, cut25, if25]
def s25 : MS := .forr (.nm 2) (.range1 (.bf .len [.var 1])) body25
def end25 : MS := .ret (.and (.call 24 [] []) (.and (.call 23 [.lst []] []) (.call 22 [.tup [.lit (.int 3), .lit (.int 6)], .tup [.lit (.int 0), .neg (.lit (.int 5))]] [])))
theorem b25_eq : b25 = [.asg (.nm 1) (.call 16 [.var 0, .lit (.int 3)] []), s25, end25] := rfl
def t25 (G : GC) : D → Mp.Env → MH → Ro := fun d ρ h => sOf ρ (asgT G none (.nm 2) d ρ h) fun ρ1 h1 => evalSs G none body25 ρ1 h1
theorem sq' {G : GC} {x : Option Ex} {s : MS} {ss : List MS} {ρ ρ1 : Mp.Env} {h h1 : MH} {o : Ro} (e : evalS G x s ρ h = some (.nx ρ1, h1)) (e2 : evalSs G x ss ρ1 h1 = o) : evalSs G x (s :: ss) ρ h = o := by rw [sq e, e2]
theorem turn25 {G : GC} {n : Nat} (hcall : ∀ f xs h, callP G f xs [] h = callN Q 1000000 (n + 8) f xs h) {rc k : Nat} {cs : List Int} {c : Int} {h : MH} {e0 e2 e3 e4 e5 e6 e7 e8 e9 e10 : Option D} (hr : h.get rc = some (.lst (cs.map .int))) (hk : k < cs.length) (hc : cs[k]? = some c) (hk2 : k < 64) (hb : c.natAbs.log2 < 90000000) :
    ∃ e3' e4' e5' e6' e7' h', t25 G (.int k) [e0, some (.ref rc), e2, e3, e4, e5, e6, e7, e8, e9, e10] h = some (.nx [e0, some (.ref rc), some (.int k), e3', e4', e5', e6', e7', e8, e9, e10], h') ∧ h'.get rc = some (.lst (cs.map .int)) := by
  have hrc := MH.get_lt hr
  -- the urn
  obtain ⟨u, hu, eb⟩ := r_box (lim := 1000000) (n := n + 7) hr hk hc hk2 hb
  have z1 : evalS G none (.asg (.nm 3) (.call 14 [.var 1, .var 2] [])) [e0, some (.ref rc), some (.int k), e3, e4, e5, e6, e7, e8, e9, e10] h = some (.nx [e0, some (.ref rc), some (.int k), some (.ref h.sz), e4, e5, e6, e7, e8, e9, e10], h.new (urnL u)) := by
    refine asg_nm ?_ (by simp)
    simp [evalE, evalEs, Rs.bind, hcall, eb]
  have gu : (h.new (urnL u)).get h.sz = some (urnL u) := MH.get_new_self _ _
  have gr1 : (h.new (urnL u)).get rc = some (.lst (cs.map .int)) := MH.get_new_some hr
  generalize hsz : h.sz = r at *
  generalize h.new (urnL u) = h1 at *
  -- what is drawn
  obtain ⟨d, u2, d0, d1, hu2, e7d⟩ := r_take (lim := 1000000) (n := n + 7) (j := 999) gu hu (k := 7) (by decide) (by decide)
  have gu2 : (h1.put r (urnL u2)).get r = some (urnL u2) := MH.get_put_self gu
  obtain ⟨l, u3, h3, el, ll, dl, gu3, hu3, gb3⟩ := turns21 (n := n) hcall (e0 := e0) (e1 := some (.ref rc)) (e2 := some (.int k)) (e4 := e4) (e5 := e5) (e6 := e6) (e7 := e7) (e8 := e8) (e9 := e9) (e10 := e10) (2 + d).toNat 0 u2 10 (h1.put r (urnL u2)) gu2 ⟨hu2.a0, hu2.b0, hu2.b1, hu2.c0, by have := hu2.c1; omega⟩
  have lle : l.length ≤ 8 := by omega
  have z2 : evalS G none (.asg (.nm 4) lc21) [e0, some (.ref rc), some (.int k), some (.ref r), e4, e5, e6, e7, e8, e9, e10] h1 = some (.nx [e0, some (.ref rc), some (.int k), some (.ref r), some (.ref h3.sz), e5, e6, e7, e8, e9, e10], h3.new (.lst (frs l))) := by
    refine asg_nm ?_ (by simp)
    rw [lc21_eq]
    have ei : evalI G none (.range1 (.bin .add (.lit (.int 2)) (.call 15 [.var 3, .lit (.int 7)] []))) [e0, some (.ref rc), some (.int k), some (.ref r), e4, e5, e6, e7, e8, e9, e10] h1 = .ok (.its (rangeD 0 (2 + d).toNat)) (h1.put r (urnL u2)) := by
      simp only [evalI, evalE, evalEs, List.getElem?_cons_zero, List.getElem?_cons_succ, Rs.bind, hcall, e7d, binop, bopI]
      rw [if_pos (by simp; omega)]
    rw [ei]
    simp only [Rs.bind, compS]
    rw [el]
    simp only [Rs.bind]
    rw [if_pos (by rw [frs_len]; unfold lineC; omega)]
  have gt4 : (h3.new (.lst (frs l))).get h3.sz = some (.lst (frs l)) := MH.get_new_self _ _
  have gu4 : (h3.new (.lst (frs l))).get r = some (urnL u3) := MH.get_new_some gu3
  have gr4 : (h3.new (.lst (frs l))).get rc = some (.lst (cs.map .int)) := MH.get_new_some (gb3.get _ _ (by omega) (GrowB.put.get _ _ (by omega) gr1))
  have ne4 : h3.sz ≠ r := by have := MH.get_lt gu3; omega
  generalize h3.sz = a at *
  generalize h3.new (.lst (frs l)) = h4 at *
  -- the pairs
  have ec1 : cut (frs l) (some 1) none = frs (cut l (some 1) none) := cut_map ..
  have gz1 : (h4.new (.lst (frs (cut l (some 1) none)))).get h4.sz = some (.lst (frs (cut l (some 1) none))) := MH.get_new_self _ _
  have gz2 : (h4.new (.lst (frs (cut l (some 1) none)))).get a = some (.lst (frs l)) := MH.get_new_some gt4
  obtain ⟨e6', e7', h5, lz, g5⟩ := zips (n := n) hcall (e0 := e0) (e1 := some (.ref rc)) (e2 := some (.int k)) (e3 := some (.ref r)) (e4 := some (.ref a)) (e5 := e5) (e8 := e8) (e9 := e9) (e10 := e10) dl (fun p m => dl p (cut_mem m)) (min l.length (cut l (some 1) none).length) 0 (h4.new (.lst (frs (cut l (some 1) none)))) e6 e7 gz2 gz1 (by omega)
  have z3 : evalS G none s25z [e0, some (.ref rc), some (.int k), some (.ref r), some (.ref a), e5, e6, e7, e8, e9, e10] h4 = some (.nx [e0, some (.ref rc), some (.int k), some (.ref r), some (.ref a), e5, e6', e7', e8, e9, e10], h5) := by
    unfold s25z
    rw [evalS]
    have ei : evalI G none (.zip (.var 4) (.sl (.var 4) (some (.lit (.int 1))) none)) [e0, some (.ref rc), some (.int k), some (.ref r), some (.ref a), e5, e6, e7, e8, e9, e10] h4 = .ok (.zip (.lv a) (.lv h4.sz)) (h4.new (.lst (frs (cut l (some 1) none)))) := by
      simp only [evalI, evalE, evalO, List.getElem?_cons_zero, List.getElem?_cons_succ, Rs.bind, slD, MH.seq, gt4, ec1, gz1, gz2]
    rw [ei]
    simp only [sOf, forS]
    have elen : (Src.zip (.lv a) (.lv h4.sz)).len (h4.new (.lst (frs (cut l (some 1) none)))) = min l.length (cut l (some 1) none).length := by
      simp only [Src.len, MH.seq, gz1, gz2, frs_len]
    rw [elen]
    exact lz
  have gt5 : h5.get a = some (.lst (frs l)) := g5.get _ _ gz2
  have gu5 : h5.get r = some (urnL u3) := g5.get _ _ (MH.get_new_some gu4)
  have gr5 : h5.get rc = some (.lst (cs.map .int)) := g5.get _ _ (MH.get_new_some gr4)
  -- in lowest terms, cut
  have l19 := turns19 (n := n) hcall (e0 := e0) (e1 := some (.ref rc)) (e2 := some (.int k)) (e3 := some (.ref r)) (e4 := some (.ref a)) (e5 := e5) (e6 := e6') (e7 := e7') (e8 := e8) (e9 := e9) (e10 := e10) dl gt5 l.length 0 (by omega) (by omega)
  rw [List.drop_zero] at l19
  have elc : evalE G none lc19 [e0, some (.ref rc), some (.int k), some (.ref r), some (.ref a), e5, e6', e7', e8, e9, e10] h5 = .ok (.ref h5.sz) (h5.new (.lst (frs (l.map lowP)))) := by
    rw [lc19_eq]
    simp only [evalI, evalE, List.getElem?_cons_zero, List.getElem?_cons_succ, Rs.bind, MH.seq, gt5, compS]
    have elen : (Src.lv a).len h5 = l.length := by simp only [Src.len, MH.seq, gt5, frs_len]
    rw [elen, l19]
    simp only
    rw [if_pos (by rw [frs_len, List.length_map]; unfold lineC; omega)]
  have gu6 : (h5.new (.lst (frs (l.map lowP)))).get r = some (urnL u3) := MH.get_new_some gu5
  have gr6 : (h5.new (.lst (frs (l.map lowP)))).get rc = some (.lst (cs.map .int)) := MH.get_new_some gr5
  have gl6 : (h5.new (.lst (frs (l.map lowP)))).get h5.sz = some (.lst (frs (l.map lowP))) := MH.get_new_self _ _
  have ne6 : h5.sz ≠ r := by have := MH.get_lt gu5; omega
  generalize h5.sz = b at *
  generalize h5.new (.lst (frs (l.map lowP))) = h6 at *
  obtain ⟨d9, u7, d90, d91, hu7, e9d⟩ := r_take (lim := 1000000) (n := n + 7) (j := 9) gu6 hu3 (k := 9) (by decide) (by decide)
  have gl7 : (h6.put r (urnL u7)).get b = some (.lst (frs (l.map lowP))) := by rw [MH.get_put_ne ne6]; exact gl6
  have gr7 : (h6.put r (urnL u7)).get rc = some (.lst (cs.map .int)) := by rw [MH.get_put_ne (by omega)]; exact gr6
  generalize hh7 : h6.put r (urnL u7) = h7 at *
  have ec2 : cut (frs (l.map lowP)) none (some d9) = frs (cut (l.map lowP) none (some d9)) := cut_map ..
  have lw : ∀ p ∈ l.map lowP, Fr p ∧ Low p := fun p m => by
    obtain ⟨q, hq, rfl⟩ := List.mem_map.mp m
    exact lowP_fr (dl q hq)
  have z4 : evalS G none cut25 [e0, some (.ref rc), some (.int k), some (.ref r), some (.ref a), e5, e6', e7', e8, e9, e10] h5 = some (.nx [e0, some (.ref rc), some (.int k), some (.ref r), some (.ref a), some (.ref h7.sz), e6', e7', e8, e9, e10], h7.new (.lst (frs (cut (l.map lowP) none (some d9))))) := by
    unfold cut25
    refine asg_nm ?_ (by simp)
    simp only [evalE, evalEs, evalO, elc, List.getElem?_cons_zero, List.getElem?_cons_succ, Rs.bind, hcall, e9d, hh7, slD, MH.seq, gl7, ec2]
  have ls : ∀ p ∈ cut (l.map lowP) none (some d9), Fr p ∧ Low p := fun p m => lw p (cut_mem m)
  have lsl : (cut (l.map lowP) none (some d9)).length ≤ 8 := by
    have := cut_le (l.map lowP) none (some d9)
    rw [List.length_map] at this
    omega
  generalize cut (l.map lowP) none (some d9) = s at *
  have gs8 : (h7.new (.lst (frs s))).get h7.sz = some (.lst (frs s)) := MH.get_new_self _ _
  have gr8 : (h7.new (.lst (frs s))).get rc = some (.lst (cs.map .int)) := MH.get_new_some gr7
  generalize h7.sz = w at *
  generalize h7.new (.lst (frs s)) = h8 at *
  -- the two calls
  obtain ⟨h9, em1, g9⟩ := r_many (n := n) gs8 (fun p m => (ls p m).1) (fun p m => (ls p m).2) (by omega)
  have ec3 : cut (frs s) none (some 2) = frs (cut s none (some 2)) := cut_map ..
  have gs9 : h9.get w = some (.lst (frs s)) := g9.get _ _ gs8
  have gs10 : (h9.new (.lst (frs (cut s none (some 2))))).get w = some (.lst (frs s)) := MH.get_new_some gs9
  have gc10 : (h9.new (.lst (frs (cut s none (some 2))))).get h9.sz = some (.lst (frs (cut s none (some 2)))) := MH.get_new_self _ _
  have lc2 := cut_le s none (some 2)
  have gr9 : (h9.new (.lst (frs (cut s none (some 2))))).get rc = some (.lst (cs.map .int)) := MH.get_new_some (g9.get _ _ gr8)
  have lc2f : ∀ p ∈ s ++ cut s none (some 2), Fr p ∧ Low p := fun p m => by
    rcases List.mem_append.mp m with m | m
    · exact ls p m
    · exact ls p (cut_mem m)
  have esl : evalE G none (.sl (.var 5) none (some (.lit (.int 2)))) [e0, some (.ref rc), some (.int k), some (.ref r), some (.ref a), some (.ref w), e6', e7', e8, e9, e10] h9 = .ok (.ref h9.sz) (h9.new (.lst (frs (cut s none (some 2))))) := by
    simp only [evalE, evalO, List.getElem?_cons_zero, List.getElem?_cons_succ, Rs.bind, slD, MH.seq, gs9, ec3]
  generalize cut s none (some 2) = s2 at *
  generalize hh10 : h9.new (.lst (frs s2)) = h10 at *
  generalize h9.sz = w2 at *
  have eap : frs s ++ frs s2 = frs (s ++ s2) := by unfold frs; rw [List.map_append]
  have ebin : binop .add (.ref w) (.ref w2) h10 = .ok (.ref h10.sz) (h10.new (.lst (frs (s ++ s2)))) := by
    simp only [binop, gs10, gc10, eap]
    rw [if_pos (by rw [frs_len, frs_len]; unfold lineC; omega)]
  have gs11 : (h10.new (.lst (frs (s ++ s2)))).get h10.sz = some (.lst (frs (s ++ s2))) := MH.get_new_self _ _
  obtain ⟨h12, em2, g12⟩ := r_many (n := n) gs11 (fun p m => (lc2f p m).1) (fun p m => (lc2f p m).2) (by rw [List.length_append]; omega)
  have z5 : evalS G none if25 [e0, some (.ref rc), some (.int k), some (.ref r), some (.ref a), some (.ref w), e6', e7', e8, e9, e10] h8 = some (.nx [e0, some (.ref rc), some (.int k), some (.ref r), some (.ref a), some (.ref w), e6', e7', e8, e9, e10], h12) := by
    unfold if25
    generalize hsl : ME.sl (.var 5) none (some (.lit (.int 2))) = X at *
    simp [evalS, evalT, evalE, evalEs, Rs.bind, Rs.opt, hcall, em1, esl, ebin, em2, tstB, Mp.truthy, sOf, evalSs]
  refine ⟨some (.ref r), some (.ref a), some (.ref w), e6', e7', h12, ?_, g12.get _ _ (MH.get_new_some gr9)⟩
  have z0 : asgT G none (.nm 2) (.int k) [e0, some (.ref rc), e2, e3, e4, e5, e6, e7, e8, e9, e10] h = .ok [e0, some (.ref rc), some (.int k), e3, e4, e5, e6, e7, e8, e9, e10] h := by simp [asgT]
  unfold t25
  rw [z0]
  simp only [sOf]
  unfold body25
  rw [sq z1, sq z2, sq z3, sq z4, sq z5, evalSs]
theorem loop25 {G : GC} {n : Nat} (hcall : ∀ f xs h, callP G f xs [] h = callN Q 1000000 (n + 8) f xs h) {rc : Nat} {cs : List Int} {e0 e8 e9 e10 : Option D} (hcl : cs.length ≤ 3) (hb : ∀ c ∈ cs, c.natAbs.log2 < 90000000) : ∀ (m k : Nat) (h : MH) (e2 e3 e4 e5 e6 e7 : Option D), h.get rc = some (.lst (cs.map .int)) → k + m = cs.length →
    ∃ ρ h', forL (t25 G) (rangeD k m) [e0, some (.ref rc), e2, e3, e4, e5, e6, e7, e8, e9, e10] h = some (.nx ρ, h')
  | 0, k, h, e2, e3, e4, e5, e6, e7, hr, hk => ⟨_, _, rfl⟩
  | m + 1, k, h, e2, e3, e4, e5, e6, e7, hr, hk => by
    have hx : k < cs.length := by omega
    obtain ⟨f3, f4, f5, f6, f7, h1, et, hr1⟩ := turn25 (n := n) (e0 := e0) (e2 := e2) (e3 := e3) (e4 := e4) (e5 := e5) (e6 := e6) (e7 := e7) (e8 := e8) (e9 := e9) (e10 := e10) hcall hr hx (List.getElem?_eq_getElem hx) (by omega) (hb _ (List.getElem_mem hx))
    obtain ⟨ρ, h2, el⟩ := loop25 (e0 := e0) (e8 := e8) (e9 := e9) (e10 := e10) hcall hcl hb m (k + 1) h1 (some (.int k)) f3 f4 f5 f6 f7 hr1 (by omega)
    refine ⟨ρ, h2, ?_⟩
    rw [rangeD, forL, et]
    exact el
theorem law_true (ns : List Int) (hl : ns.length ≤ 63) (hb : ∀ z ∈ ns, Builtin.Int.intBits z ≤ 1048576) : ∃ m', callN Q 1000000 60 25 [.fz (ns.map .int)] ⟨0, []⟩ = .ok (.bl true) m' := by
  generalize hK : 1048576 = K at hb
  have hn : ∀ z ∈ ns, z.natAbs < 2 ^ K := fun z m => by
    have := hb z m
    unfold Builtin.Int.intBits at this
    by_cases c : z = 0
    · subst c; exact Nat.pow_pos (by decide)
    · have c2 : ¬ (z == 0) = true := by simpa using c
      rw [if_neg c2] at this
      exact (Nat.log2_lt (by omega)).mp (by omega)
  generalize hG : gcOf Q 1000000 (callN Q 1000000 59) (callN Q 1000000 58) = G
  have hcall : ∀ f xs h, callP G f xs [] h = callN Q 1000000 (51 + 8) f xs h := fun _ _ _ => by rw [← hG]; rfl
  generalize (⟨0, []⟩ : MH) = h0
  have u : callB Q 1000000 (callN Q 1000000 59) (callN Q 1000000 58) 25 [.fz (ns.map .int)] h0 = fnEnd (evalSs G none b25 [some (.fz (ns.map .int)), none, none, none, none, none, none, none, none, none, none] h0) := by
    rw [← hG]
    simp [callB, u25, d25, fnEnv, List.replicate]
  obtain ⟨rc, cs, h1, ec, gr, hcl, hbc⟩ := r_cells (n := 58) (h := h0) hn (by omega)
  have z1 : evalS G none (.asg (.nm 1) (.call 16 [.var 0, .lit (.int 3)] [])) [some (.fz (ns.map .int)), none, none, none, none, none, none, none, none, none, none] h0 = some (.nx [some (.fz (ns.map .int)), some (.ref rc), none, none, none, none, none, none, none, none, none], h1) := by
    refine asg_nm ?_ (by simp)
    simp only [evalE, evalEs, List.getElem?_cons_zero, Rs.bind, hcall, ec]
  have hlog : ∀ c ∈ cs, c.natAbs.log2 < 90000000 := fun c m => log_of (hbc c m) (by omega)
  obtain ⟨ρ, h2, lp⟩ := loop25 (n := 51) (e0 := some (.fz (ns.map .int))) (e8 := none) (e9 := none) (e10 := none) hcall hcl hlog cs.length 0 h1 none none none none none none gr (by omega)
  have z2 : evalS G none s25 [some (.fz (ns.map .int)), some (.ref rc), none, none, none, none, none, none, none, none, none] h1 = some (.nx ρ, h2) := by
    unfold s25
    rw [evalS]
    have ei : evalI G none (.range1 (.bf .len [.var 1])) [some (.fz (ns.map .int)), some (.ref rc), none, none, none, none, none, none, none, none, none] h1 = .ok (.its (rangeD 0 cs.length)) h1 := by
      simp only [evalI, evalE, evalEs, List.getElem?_cons_zero, List.getElem?_cons_succ, Rs.bind, bfD, lenD, gr, List.length_map]
      rw [if_pos (by simp; omega)]
      rfl
    rw [ei]
    exact lp
  obtain ⟨h3, e3, g3⟩ := r_refused (n := 51) (h := h2)
  have g4 : (h3.new (.lst [])).get h3.sz = some (.lst (frs [])) := MH.get_new_self _ _
  obtain ⟨h5, e5, g5⟩ := r_many (n := 51) g4 (by simp) (by simp) (by simp)
  obtain ⟨h6, e6, g6⟩ := r_two (n := 51) (t1 := 3) (b1 := 6) (t2 := 0) (b2 := -5) (h := h5) (by decide) (by decide) (by decide) (by decide) (by decide) (by decide)
  refine ⟨h6, ?_⟩
  rw [cN, u, b25_eq, sq z1, sq z2]
  simp [evalSs, end25, evalS, evalE, evalEs, Rs.bind, Rs.opt, hcall, e3, tstB, Mp.truthy, e5, e6, sOf, sThen, fnEnd]
end K53
end
section
set_option Elab.async false
set_option linter.all false
set_option maxRecDepth 1000000
set_option maxHeartbeats 4000000
namespace K53
open PySem PySem.Spec PyProof.Rows L2 Mp
theorem all_mk {P : Program} {w : World} {K : PySem.W.Frag} {h : Heap} {mg : Str → Option Value} {fa0 : Addr} (X : K.In h) (G : h.Ns mainGlobals mg) (hfa : mg "law" = some (.ref fa0))
    {f0 : Addr} {od0 an0 : Option Addr} {sl0 : Array (Option Value)} {oc0 kV0 dc0 pm0 cd0 ct0 : Value}
    {f1 : Addr} {od1 an1 : Option Addr} {sl1 : Array (Option Value)} {oc1 kV1 dc1 pm1 cd1 ct1 : Value}
    {f2 : Addr} {od2 an2 : Option Addr} {sl2 : Array (Option Value)} {oc2 kV2 dc2 pm2 cd2 ct2 : Value}
    {f3 : Addr} {od3 an3 : Option Addr} {sl3 : Array (Option Value)} {oc3 kV3 dc3 pm3 cd3 ct3 : Value}
    {f4 : Addr} {od4 an4 : Option Addr} {sl4 : Array (Option Value)} {oc4 kV4 dc4 pm4 cd4 ct4 : Value}
    {f5 : Addr} {od5 an5 : Option Addr} {sl5 : Array (Option Value)} {oc5 kV5 dc5 pm5 cd5 ct5 : Value}
    {f6 : Addr} {od6 an6 : Option Addr} {sl6 : Array (Option Value)} {oc6 kV6 dc6 pm6 cd6 ct6 : Value}
    {f7 : Addr} {od7 an7 : Option Addr} {sl7 : Array (Option Value)} {oc7 kV7 dc7 pm7 cd7 ct7 : Value}
    {f8 : Addr} {od8 an8 : Option Addr} {sl8 : Array (Option Value)} {oc8 kV8 dc8 pm8 cd8 ct8 : Value}
    {f9 : Addr} {od9 an9 : Option Addr} {sl9 : Array (Option Value)} {oc9 kV9 dc9 pm9 cd9 ct9 : Value}
    {f10 : Addr} {od10 an10 : Option Addr} {sl10 : Array (Option Value)} {oc10 kV10 dc10 pm10 cd10 ct10 : Value}
    {f11 : Addr} {od11 an11 : Option Addr} {sl11 : Array (Option Value)} {oc11 kV11 dc11 pm11 cd11 ct11 : Value}
    {f12 : Addr} {od12 an12 : Option Addr} {sl12 : Array (Option Value)} {oc12 kV12 dc12 pm12 cd12 ct12 : Value}
    {f13 : Addr} {od13 an13 : Option Addr} {sl13 : Array (Option Value)} {oc13 kV13 dc13 pm13 cd13 ct13 : Value}
    {f14 : Addr} {od14 an14 : Option Addr} {sl14 : Array (Option Value)} {oc14 kV14 dc14 pm14 cd14 ct14 : Value}
    {f15 : Addr} {od15 an15 : Option Addr} {sl15 : Array (Option Value)} {oc15 kV15 dc15 pm15 cd15 ct15 : Value}
    {f16 : Addr} {od16 an16 : Option Addr} {sl16 : Array (Option Value)} {oc16 kV16 dc16 pm16 cd16 ct16 : Value}
    {f17 : Addr} {od17 an17 : Option Addr} {sl17 : Array (Option Value)} {oc17 kV17 dc17 pm17 cd17 ct17 : Value}
    {f18 : Addr} {od18 an18 : Option Addr} {sl18 : Array (Option Value)} {oc18 kV18 dc18 pm18 cd18 ct18 : Value}
    {f19 : Addr} {od19 an19 : Option Addr} {sl19 : Array (Option Value)} {oc19 kV19 dc19 pm19 cd19 ct19 : Value}
    {f20 : Addr} {od20 an20 : Option Addr} {sl20 : Array (Option Value)} {oc20 kV20 dc20 pm20 cd20 ct20 : Value}
    {f21 : Addr} {od21 an21 : Option Addr} {sl21 : Array (Option Value)} {oc21 kV21 dc21 pm21 cd21 ct21 : Value}
    {f22 : Addr} {od22 an22 : Option Addr} {sl22 : Array (Option Value)} {oc22 kV22 dc22 pm22 cd22 ct22 : Value}
    {f23 : Addr} {od23 an23 : Option Addr} {sl23 : Array (Option Value)} {oc23 kV23 dc23 pm23 cd23 ct23 : Value}
    {f24 : Addr} {od24 an24 : Option Addr} {sl24 : Array (Option Value)} {oc24 kV24 dc24 pm24 cd24 ct24 : Value}
    {f25 : Addr} {od25 an25 : Option Addr} {sl25 : Array (Option Value)} {oc25 kV25 dc25 pm25 cd25 ct25 : Value}
    {X0 : Addr}
    {g0 : Addr} {gn0 : Nat}
    {gt0_0 : Tok} {gt0_1 : Tok}
    {gd0 : Option Addr} {gsl0 : Array (Option Value)}
    (a0 : PySem.W.nsIn K mainGlobals "is_number" = some (some (.ref f0)))
    (l0 : K.lookup f0 = some ⟨oc0, od0, .func (PySem.W.fnOf "is_number" "is_number" (defArgs (top 2)) (defBody (top 2)) (defScope (top 2)) .none kV0 dc0 pm0 an0 cd0 ct0), sl0⟩)
    (c0 : PySem.W.codeIn K cd0 "is_number" = true)
    (k0 : PySem.W.keepIn K (.ref f0) = true)
    (a1 : PySem.W.nsIn K mainGlobals "tuple_of" = some (some (.ref f1)))
    (l1 : K.lookup f1 = some ⟨oc1, od1, .func (PySem.W.fnOf "tuple_of" "tuple_of" (defArgs (top 3)) (defBody (top 3)) (defScope (top 3)) .none kV1 dc1 pm1 an1 cd1 ct1), sl1⟩)
    (c1 : PySem.W.codeIn K cd1 "tuple_of" = true)
    (k1 : PySem.W.keepIn K (.ref f1) = true)
    (a2 : PySem.W.nsIn K mainGlobals "is_tuple_of" = some (some (.ref f2)))
    (l2 : K.lookup f2 = some ⟨oc2, od2, .func (PySem.W.fnOf "is_tuple_of" "is_tuple_of" (defArgs (top 4)) (defBody (top 4)) (defScope (top 4)) .none kV2 dc2 pm2 an2 cd2 ct2), sl2⟩)
    (c2 : PySem.W.codeIn K cd2 "is_tuple_of" = true)
    (k2 : PySem.W.keepIn K (.ref f2) = true)
    (a3 : PySem.W.nsIn K mainGlobals "lowest" = some (some (.ref f3)))
    (l3 : K.lookup f3 = some ⟨oc3, od3, .func (PySem.W.fnOf "lowest" "lowest" (defArgs (top 9)) (defBody (top 9)) (defScope (top 9)) .none kV3 dc3 pm3 an3 cd3 ct3), sl3⟩)
    (c3 : PySem.W.codeIn K cd3 "lowest" = true)
    (k3 : PySem.W.keepIn K (.ref f3) = true)
    (a4 : PySem.W.nsIn K mainGlobals "fraction" = some (some (.ref f4)))
    (l4 : K.lookup f4 = some ⟨oc4, od4, .func (PySem.W.fnOf "fraction" "fraction" (defArgs (top 10)) (defBody (top 10)) (defScope (top 10)) .none kV4 dc4 pm4 an4 cd4 ct4), sl4⟩)
    (c4 : PySem.W.codeIn K cd4 "fraction" = true)
    (k4 : PySem.W.keepIn K (.ref f4) = true)
    (a5 : PySem.W.nsIn K mainGlobals "is_fraction" = some (some (.ref f5)))
    (l5 : K.lookup f5 = some ⟨oc5, od5, .func (PySem.W.fnOf "is_fraction" "is_fraction" (defArgs (top 11)) (defBody (top 11)) (defScope (top 11)) .none kV5 dc5 pm5 an5 cd5 ct5), sl5⟩)
    (c5 : PySem.W.codeIn K cd5 "is_fraction" = true)
    (k5 : PySem.W.keepIn K (.ref f5) = true)
    (a6 : PySem.W.nsIn K mainGlobals "plus" = some (some (.ref f6)))
    (l6 : K.lookup f6 = some ⟨oc6, od6, .func (PySem.W.fnOf "plus" "plus" (defArgs (top 12)) (defBody (top 12)) (defScope (top 12)) .none kV6 dc6 pm6 an6 cd6 ct6), sl6⟩)
    (c6 : PySem.W.codeIn K cd6 "plus" = true)
    (k6 : PySem.W.keepIn K (.ref f6) = true)
    (a7 : PySem.W.nsIn K mainGlobals "minus" = some (some (.ref f7)))
    (l7 : K.lookup f7 = some ⟨oc7, od7, .func (PySem.W.fnOf "minus" "minus" (defArgs (top 13)) (defBody (top 13)) (defScope (top 13)) .none kV7 dc7 pm7 an7 cd7 ct7), sl7⟩)
    (c7 : PySem.W.codeIn K cd7 "minus" = true)
    (k7 : PySem.W.keepIn K (.ref f7) = true)
    (a8 : PySem.W.nsIn K mainGlobals "times" = some (some (.ref f8)))
    (l8 : K.lookup f8 = some ⟨oc8, od8, .func (PySem.W.fnOf "times" "times" (defArgs (top 14)) (defBody (top 14)) (defScope (top 14)) .none kV8 dc8 pm8 an8 cd8 ct8), sl8⟩)
    (c8 : PySem.W.codeIn K cd8 "times" = true)
    (k8 : PySem.W.keepIn K (.ref f8) = true)
    (a9 : PySem.W.nsIn K mainGlobals "over" = some (some (.ref f9)))
    (l9 : K.lookup f9 = some ⟨oc9, od9, .func (PySem.W.fnOf "over" "over" (defArgs (top 15)) (defBody (top 15)) (defScope (top 15)) .none kV9 dc9 pm9 an9 cd9 ct9), sl9⟩)
    (c9 : PySem.W.codeIn K cd9 "over" = true)
    (k9 : PySem.W.keepIn K (.ref f9) = true)
    (a10 : PySem.W.nsIn K mainGlobals "less" = some (some (.ref f10)))
    (l10 : K.lookup f10 = some ⟨oc10, od10, .func (PySem.W.fnOf "less" "less" (defArgs (top 16)) (defBody (top 16)) (defScope (top 16)) .none kV10 dc10 pm10 an10 cd10 ct10), sl10⟩)
    (c10 : PySem.W.codeIn K cd10 "less" = true)
    (k10 : PySem.W.keepIn K (.ref f10) = true)
    (a11 : PySem.W.nsIn K mainGlobals "least" = some (some (.ref f11)))
    (l11 : K.lookup f11 = some ⟨oc11, od11, .func (PySem.W.fnOf "least" "least" (defArgs (top 17)) (defBody (top 17)) (defScope (top 17)) .none kV11 dc11 pm11 an11 cd11 ct11), sl11⟩)
    (c11 : PySem.W.codeIn K cd11 "least" = true)
    (k11 : PySem.W.keepIn K (.ref f11) = true)
    (a12 : PySem.W.nsIn K mainGlobals "greatest" = some (some (.ref f12)))
    (l12 : K.lookup f12 = some ⟨oc12, od12, .func (PySem.W.fnOf "greatest" "greatest" (defArgs (top 18)) (defBody (top 18)) (defScope (top 18)) .none kV12 dc12 pm12 an12 cd12 ct12), sl12⟩)
    (c12 : PySem.W.codeIn K cd12 "greatest" = true)
    (k12 : PySem.W.keepIn K (.ref f12) = true)
    (a13 : PySem.W.nsIn K mainGlobals "sum_of" = some (some (.ref f13)))
    (l13 : K.lookup f13 = some ⟨oc13, od13, .func (PySem.W.fnOf "sum_of" "sum_of" (defArgs (top 19)) (defBody (top 19)) (defScope (top 19)) .none kV13 dc13 pm13 an13 cd13 ct13), sl13⟩)
    (c13 : PySem.W.codeIn K cd13 "sum_of" = true)
    (k13 : PySem.W.keepIn K (.ref f13) = true)
    (a14 : PySem.W.nsIn K mainGlobals "_law_box" = some (some (.ref f14)))
    (l14 : K.lookup f14 = some ⟨oc14, od14, .func (PySem.W.fnOf "_law_box" "_law_box" (defArgs (top 21)) (defBody (top 21)) (defScope (top 21)) .none kV14 dc14 pm14 an14 cd14 ct14), sl14⟩)
    (c14 : PySem.W.codeIn K cd14 "_law_box" = true)
    (k14 : PySem.W.keepIn K (.ref f14) = true)
    (a15 : PySem.W.nsIn K mainGlobals "_law_take" = some (some (.ref f15)))
    (l15 : K.lookup f15 = some ⟨oc15, od15, .func (PySem.W.fnOf "_law_take" "_law_take" (defArgs (top 22)) (defBody (top 22)) (defScope (top 22)) .none kV15 dc15 pm15 an15 cd15 ct15), sl15⟩)
    (c15 : PySem.W.codeIn K cd15 "_law_take" = true)
    (k15 : PySem.W.keepIn K (.ref f15) = true)
    (a16 : PySem.W.nsIn K mainGlobals "_law_cells" = some (some (.ref f16)))
    (l16 : K.lookup f16 = some ⟨oc16, od16, .func (PySem.W.fnOf "_law_cells" "_law_cells" (defArgs (top 23)) (defBody (top 23)) (defScope (top 23)) .none kV16 dc16 pm16 an16 cd16 ct16), sl16⟩)
    (c16 : PySem.W.codeIn K cd16 "_law_cells" = true)
    (k16 : PySem.W.keepIn K (.ref f16) = true)
    (a17 : PySem.W.nsIn K mainGlobals "_law_lists" = some (some (.ref f17)))
    (l17 : K.lookup f17 = some ⟨oc17, od17, .func (PySem.W.fnOf "_law_lists" "_law_lists" (defArgs (top 24)) (defBody (top 24)) (defScope (top 24)) .none kV17 dc17 pm17 an17 cd17 ct17), sl17⟩)
    (c17 : PySem.W.codeIn K cd17 "_law_lists" = true)
    (k17 : PySem.W.keepIn K (.ref f17) = true)
    (a18 : PySem.W.nsIn K mainGlobals "_law_same" = some (some (.ref f18)))
    (l18 : K.lookup f18 = some ⟨oc18, od18, .func (PySem.W.fnOf "_law_same" "_law_same" (defArgs (top 25)) (defBody (top 25)) (defScope (top 25)) .none kV18 dc18 pm18 an18 cd18 ct18), sl18⟩)
    (c18 : PySem.W.codeIn K cd18 "_law_same" = true)
    (k18 : PySem.W.keepIn K (.ref f18) = true)
    (a19 : PySem.W.nsIn K mainGlobals "_law_low" = some (some (.ref f19)))
    (l19 : K.lookup f19 = some ⟨oc19, od19, .func (PySem.W.fnOf "_law_low" "_law_low" (defArgs (top 26)) (defBody (top 26)) (defScope (top 26)) .none kV19 dc19 pm19 an19 cd19 ct19), sl19⟩)
    (c19 : PySem.W.codeIn K cd19 "_law_low" = true)
    (k19 : PySem.W.keepIn K (.ref f19) = true)
    (a20 : PySem.W.nsIn K mainGlobals "_law_number" = some (some (.ref f20)))
    (l20 : K.lookup f20 = some ⟨oc20, od20, .func (PySem.W.fnOf "_law_number" "_law_number" (defArgs (top 27)) (defBody (top 27)) (defScope (top 27)) .none kV20 dc20 pm20 an20 cd20 ct20), sl20⟩)
    (c20 : PySem.W.codeIn K cd20 "_law_number" = true)
    (k20 : PySem.W.keepIn K (.ref f20) = true)
    (a21 : PySem.W.nsIn K mainGlobals "_law_drawn" = some (some (.ref f21)))
    (l21 : K.lookup f21 = some ⟨oc21, od21, .func (PySem.W.fnOf "_law_drawn" "_law_drawn" (defArgs (top 28)) (defBody (top 28)) (defScope (top 28)) .none kV21 dc21 pm21 an21 cd21 ct21), sl21⟩)
    (c21 : PySem.W.codeIn K cd21 "_law_drawn" = true)
    (k21 : PySem.W.keepIn K (.ref f21) = true)
    (a22 : PySem.W.nsIn K mainGlobals "_law_two_right" = some (some (.ref f22)))
    (l22 : K.lookup f22 = some ⟨oc22, od22, .func (PySem.W.fnOf "_law_two_right" "_law_two_right" (defArgs (top 29)) (defBody (top 29)) (defScope (top 29)) .none kV22 dc22 pm22 an22 cd22 ct22), sl22⟩)
    (c22 : PySem.W.codeIn K cd22 "_law_two_right" = true)
    (k22 : PySem.W.keepIn K (.ref f22) = true)
    (a23 : PySem.W.nsIn K mainGlobals "_law_many_right" = some (some (.ref f23)))
    (l23 : K.lookup f23 = some ⟨oc23, od23, .func (PySem.W.fnOf "_law_many_right" "_law_many_right" (defArgs (top 30)) (defBody (top 30)) (defScope (top 30)) .none kV23 dc23 pm23 an23 cd23 ct23), sl23⟩)
    (c23 : PySem.W.codeIn K cd23 "_law_many_right" = true)
    (k23 : PySem.W.keepIn K (.ref f23) = true)
    (a24 : PySem.W.nsIn K mainGlobals "_law_refused" = some (some (.ref f24)))
    (l24 : K.lookup f24 = some ⟨oc24, od24, .func (PySem.W.fnOf "_law_refused" "_law_refused" (defArgs (top 31)) (defBody (top 31)) (defScope (top 31)) .none kV24 dc24 pm24 an24 cd24 ct24), sl24⟩)
    (c24 : PySem.W.codeIn K cd24 "_law_refused" = true)
    (k24 : PySem.W.keepIn K (.ref f24) = true)
    (a25 : PySem.W.nsIn K mainGlobals "law" = some (some (.ref f25)))
    (l25 : K.lookup f25 = some ⟨oc25, od25, .func (PySem.W.fnOf "law" "law" (defArgs (top 32)) (defBody (top 32)) (defScope (top 32)) .none kV25 dc25 pm25 an25 cd25 ct25), sl25⟩)
    (c25 : PySem.W.codeIn K cd25 "law" = true)
    (k25 : PySem.W.keepIn K (.ref f25) = true)
    (xa0 : PySem.W.nsIn K mainGlobals "CanNot" = some (some (.ref X0)))
    (xk0 : PySem.W.keepIn K (.ref X0) = true)
    (xt0 : PySem.W.typeIn K (.ref X0) = some (.type "type"))
    (xe0 : PySem.W.excIn K X0 [.type "ValueError", .type "Exception", .type "BaseException", .type "object"] "ValueError.__new__" = true)
    (xg0 : PySem.W.findIn K (.ref X0) "__getattribute__" = some (some (.builtin "BaseException.__getattribute__")))
    (xh0 : PySem.W.findIn K (.ref X0) "__getattr__" = some none)
    (xs0 : PySem.W.subIn K (.ref X0) (.type "BaseException") = some true)
    (xd0 : PySem.W.hasDictIn K X0 = true)
    (xc0 : PySem.W.findIn K (.ref X0) "__class__" = some (some (.builtin "object.__class__")))
    (xm0 : PySem.W.mroIn K X0 (.type "object") = some true)
    (xn : PySem.W.specialIn K (.builtin "object.__class__") "__get__" = some (some (.builtin "getset_descriptor.__get__")))
    (xz : PySem.W.takesIn K (.builtin "object.__class__") = some true)
    (y0_0 : PySem.W.exmOne K (.ref X0) (.ref X0) = some true)
    (i0_0 : PySem.W.kitOne K (.ref X0) (.type "ValueError") = some true)
    (ib0 : PySem.W.nsIn K mainGlobals "ValueError" = some none)
    (ga0 : PySem.W.nsIn K mainGlobals "NOTHING" = some (some (.ref g0)))
    (gl0 : K.lookup g0 = some ⟨.type "tuple", gd0, .seq #[.int 0 gt0_0, .int 1 gt0_1] gn0, gsl0⟩)
    (gg : PySem.W.nsIn K mainGlobals "gcd" = some (some (.builtin "math.gcd")))
    (z_abs : PySem.W.nsIn K mainGlobals "abs" = some none)
    (z_all : PySem.W.nsIn K mainGlobals "all" = some none)
    (z_any : PySem.W.nsIn K mainGlobals "any" = some none)
    (z_bool : PySem.W.nsIn K mainGlobals "bool" = some none)
    (z_dict : PySem.W.nsIn K mainGlobals "dict" = some none)
    (z_enumerate : PySem.W.nsIn K mainGlobals "enumerate" = some none)
    (z_int : PySem.W.nsIn K mainGlobals "int" = some none)
    (z_isinstance : PySem.W.nsIn K mainGlobals "isinstance" = some none)
    (z_len : PySem.W.nsIn K mainGlobals "len" = some none)
    (z_list : PySem.W.nsIn K mainGlobals "list" = some none)
    (z_max : PySem.W.nsIn K mainGlobals "max" = some none)
    (z_min : PySem.W.nsIn K mainGlobals "min" = some none)
    (z_range : PySem.W.nsIn K mainGlobals "range" = some none)
    (z_sorted : PySem.W.nsIn K mainGlobals "sorted" = some none)
    (z_str : PySem.W.nsIn K mainGlobals "str" = some none)
    (z_sum : PySem.W.nsIn K mainGlobals "sum" = some none)
    (z_tuple : PySem.W.nsIn K mainGlobals "tuple" = some none)
    (z_zip : PySem.W.nsIn K mainGlobals "zip" = some none)
    : ∃ fd : FuncData, (∀ (s : Shared) (u : Value), BindsTo s fd ⟨[u], []⟩ [("script", u)]) ∧ ∀ base : Heap, K.In base → base.Ns mainGlobals mg → FnOk P w K mg base (L2.CX P w) 60 fa0 fd ["script"] (spLawK K) := by
  have e := hfa.symm.trans (PySem.W.mg_of X G a25)
  cases e
  have F0 := fun_mk (st := top 2) l0 c0 k0
  have B0 := F0.binds (ps := ["thing"]) fun _ _ _ _ _ _ us hl => match us, hl with | [_], _ => rfl
  have F1 := fun_mk (st := top 3) l1 c1 k1
  have B1 := F1.binds (ps := ["thing"]) fun _ _ _ _ _ _ us hl => match us, hl with | [_], _ => rfl
  have F2 := fun_mk (st := top 4) l2 c2 k2
  have B2 := F2.binds (ps := ["thing", "many"]) fun _ _ _ _ _ _ us hl => match us, hl with | [_, _], _ => rfl
  have F3 := fun_mk (st := top 9) l3 c3 k3
  have B3 := F3.binds (ps := ["top", "below"]) fun _ _ _ _ _ _ us hl => match us, hl with | [_, _], _ => rfl
  have F4 := fun_mk (st := top 10) l4 c4 k4
  have B4 := F4.binds (ps := ["top", "below"]) fun _ _ _ _ _ _ us hl => match us, hl with | [_, _], _ => rfl
  have F5 := fun_mk (st := top 11) l5 c5 k5
  have B5 := F5.binds (ps := ["thing"]) fun _ _ _ _ _ _ us hl => match us, hl with | [_], _ => rfl
  have F6 := fun_mk (st := top 12) l6 c6 k6
  have B6 := F6.binds (ps := ["x", "y"]) fun _ _ _ _ _ _ us hl => match us, hl with | [_, _], _ => rfl
  have F7 := fun_mk (st := top 13) l7 c7 k7
  have B7 := F7.binds (ps := ["x", "y"]) fun _ _ _ _ _ _ us hl => match us, hl with | [_, _], _ => rfl
  have F8 := fun_mk (st := top 14) l8 c8 k8
  have B8 := F8.binds (ps := ["x", "y"]) fun _ _ _ _ _ _ us hl => match us, hl with | [_, _], _ => rfl
  have F9 := fun_mk (st := top 15) l9 c9 k9
  have B9 := F9.binds (ps := ["x", "y"]) fun _ _ _ _ _ _ us hl => match us, hl with | [_, _], _ => rfl
  have F10 := fun_mk (st := top 16) l10 c10 k10
  have B10 := F10.binds (ps := ["x", "y"]) fun _ _ _ _ _ _ us hl => match us, hl with | [_, _], _ => rfl
  have F11 := fun_mk (st := top 17) l11 c11 k11
  have B11 := F11.binds (ps := ["some"]) fun _ _ _ _ _ _ us hl => match us, hl with | [_], _ => rfl
  have F12 := fun_mk (st := top 18) l12 c12 k12
  have B12 := F12.binds (ps := ["some"]) fun _ _ _ _ _ _ us hl => match us, hl with | [_], _ => rfl
  have F13 := fun_mk (st := top 19) l13 c13 k13
  have B13 := F13.binds (ps := ["some"]) fun _ _ _ _ _ _ us hl => match us, hl with | [_], _ => rfl
  have F14 := fun_mk (st := top 21) l14 c14 k14
  have B14 := F14.binds (ps := ["script", "k"]) fun _ _ _ _ _ _ us hl => match us, hl with | [_, _], _ => rfl
  have F15 := fun_mk (st := top 22) l15 c15 k15
  have B15 := F15.binds (ps := ["urn", "below"]) fun _ _ _ _ _ _ us hl => match us, hl with | [_, _], _ => rfl
  have F16 := fun_mk (st := top 23) l16 c16 k16
  have B16 := F16.binds (ps := ["script", "many"]) fun _ _ _ _ _ _ us hl => match us, hl with | [_, _], _ => rfl
  have F17 := fun_mk (st := top 24) l17 c17 k17
  have B17 := F17.binds (ps := ["matter"]) fun _ _ _ _ _ _ us hl => match us, hl with | [_], _ => rfl
  have F18 := fun_mk (st := top 25) l18 c18 k18
  have B18 := F18.binds (ps := ["got", "due"]) fun _ _ _ _ _ _ us hl => match us, hl with | [_, _], _ => rfl
  have F19 := fun_mk (st := top 26) l19 c19 k19
  have B19 := F19.binds (ps := ["top", "below"]) fun _ _ _ _ _ _ us hl => match us, hl with | [_, _], _ => rfl
  have F20 := fun_mk (st := top 27) l20 c20 k20
  have B20 := F20.binds (ps := ["urn"]) fun _ _ _ _ _ _ us hl => match us, hl with | [_], _ => rfl
  have F21 := fun_mk (st := top 28) l21 c21 k21
  have B21 := F21.binds (ps := ["urn"]) fun _ _ _ _ _ _ us hl => match us, hl with | [_], _ => rfl
  have F22 := fun_mk (st := top 29) l22 c22 k22
  have B22 := F22.binds (ps := ["one", "two"]) fun _ _ _ _ _ _ us hl => match us, hl with | [_, _], _ => rfl
  have F23 := fun_mk (st := top 30) l23 c23 k23
  have B23 := F23.binds (ps := ["some"]) fun _ _ _ _ _ _ us hl => match us, hl with | [_], _ => rfl
  have F24 := fun_mk (st := top 31) l24 c24 k24
  have B24 := F24.binds (ps := []) fun _ _ _ _ _ _ us hl => match us, hl with | [], _ => rfl
  have F25 := fun_mk (st := top 32) l25 c25 k25
  have B25 := F25.binds (ps := ["script"]) fun _ _ _ _ _ _ us hl => match us, hl with | [_], _ => rfl
  let ps : List (Addr × FuncData) := [(f0, PySem.W.fnOf "is_number" "is_number" (defArgs (top 2)) (defBody (top 2)) (defScope (top 2)) .none kV0 dc0 pm0 an0 cd0 ct0), (f1, PySem.W.fnOf "tuple_of" "tuple_of" (defArgs (top 3)) (defBody (top 3)) (defScope (top 3)) .none kV1 dc1 pm1 an1 cd1 ct1), (f2, PySem.W.fnOf "is_tuple_of" "is_tuple_of" (defArgs (top 4)) (defBody (top 4)) (defScope (top 4)) .none kV2 dc2 pm2 an2 cd2 ct2), (f3, PySem.W.fnOf "lowest" "lowest" (defArgs (top 9)) (defBody (top 9)) (defScope (top 9)) .none kV3 dc3 pm3 an3 cd3 ct3), (f4, PySem.W.fnOf "fraction" "fraction" (defArgs (top 10)) (defBody (top 10)) (defScope (top 10)) .none kV4 dc4 pm4 an4 cd4 ct4), (f5, PySem.W.fnOf "is_fraction" "is_fraction" (defArgs (top 11)) (defBody (top 11)) (defScope (top 11)) .none kV5 dc5 pm5 an5 cd5 ct5), (f6, PySem.W.fnOf "plus" "plus" (defArgs (top 12)) (defBody (top 12)) (defScope (top 12)) .none kV6 dc6 pm6 an6 cd6 ct6), (f7, PySem.W.fnOf "minus" "minus" (defArgs (top 13)) (defBody (top 13)) (defScope (top 13)) .none kV7 dc7 pm7 an7 cd7 ct7), (f8, PySem.W.fnOf "times" "times" (defArgs (top 14)) (defBody (top 14)) (defScope (top 14)) .none kV8 dc8 pm8 an8 cd8 ct8), (f9, PySem.W.fnOf "over" "over" (defArgs (top 15)) (defBody (top 15)) (defScope (top 15)) .none kV9 dc9 pm9 an9 cd9 ct9), (f10, PySem.W.fnOf "less" "less" (defArgs (top 16)) (defBody (top 16)) (defScope (top 16)) .none kV10 dc10 pm10 an10 cd10 ct10), (f11, PySem.W.fnOf "least" "least" (defArgs (top 17)) (defBody (top 17)) (defScope (top 17)) .none kV11 dc11 pm11 an11 cd11 ct11), (f12, PySem.W.fnOf "greatest" "greatest" (defArgs (top 18)) (defBody (top 18)) (defScope (top 18)) .none kV12 dc12 pm12 an12 cd12 ct12), (f13, PySem.W.fnOf "sum_of" "sum_of" (defArgs (top 19)) (defBody (top 19)) (defScope (top 19)) .none kV13 dc13 pm13 an13 cd13 ct13), (f14, PySem.W.fnOf "_law_box" "_law_box" (defArgs (top 21)) (defBody (top 21)) (defScope (top 21)) .none kV14 dc14 pm14 an14 cd14 ct14), (f15, PySem.W.fnOf "_law_take" "_law_take" (defArgs (top 22)) (defBody (top 22)) (defScope (top 22)) .none kV15 dc15 pm15 an15 cd15 ct15), (f16, PySem.W.fnOf "_law_cells" "_law_cells" (defArgs (top 23)) (defBody (top 23)) (defScope (top 23)) .none kV16 dc16 pm16 an16 cd16 ct16), (f17, PySem.W.fnOf "_law_lists" "_law_lists" (defArgs (top 24)) (defBody (top 24)) (defScope (top 24)) .none kV17 dc17 pm17 an17 cd17 ct17), (f18, PySem.W.fnOf "_law_same" "_law_same" (defArgs (top 25)) (defBody (top 25)) (defScope (top 25)) .none kV18 dc18 pm18 an18 cd18 ct18), (f19, PySem.W.fnOf "_law_low" "_law_low" (defArgs (top 26)) (defBody (top 26)) (defScope (top 26)) .none kV19 dc19 pm19 an19 cd19 ct19), (f20, PySem.W.fnOf "_law_number" "_law_number" (defArgs (top 27)) (defBody (top 27)) (defScope (top 27)) .none kV20 dc20 pm20 an20 cd20 ct20), (f21, PySem.W.fnOf "_law_drawn" "_law_drawn" (defArgs (top 28)) (defBody (top 28)) (defScope (top 28)) .none kV21 dc21 pm21 an21 cd21 ct21), (f22, PySem.W.fnOf "_law_two_right" "_law_two_right" (defArgs (top 29)) (defBody (top 29)) (defScope (top 29)) .none kV22 dc22 pm22 an22 cd22 ct22), (f23, PySem.W.fnOf "_law_many_right" "_law_many_right" (defArgs (top 30)) (defBody (top 30)) (defScope (top 30)) .none kV23 dc23 pm23 an23 cd23 ct23), (f24, PySem.W.fnOf "_law_refused" "_law_refused" (defArgs (top 31)) (defBody (top 31)) (defScope (top 31)) .none kV24 dc24 pm24 an24 cd24 ct24), (fa0, PySem.W.fnOf "law" "law" (defArgs (top 32)) (defBody (top 32)) (defScope (top 32)) .none kV25 dc25 pm25 an25 cd25 ct25)]
  let L : LC := ⟨K, fun _ => 0, fun i => [X0].getD i 0, atL attrL, fun _ => Str.empty, Q.kts⟩
  have dk : DefsOk L Q T (faOf ps) (fdOf default ps) ds := by
    refine defsOk ?_ (by decide +kernel) rfl
    exact .cons ⟨F0, B0, 60, by decide, ck0⟩ (.cons ⟨F1, B1, 60, by decide, ck1⟩ (.cons ⟨F2, B2, 60, by decide, ck2⟩ (.cons ⟨F3, B3, 60, by decide, ck3⟩ (.cons ⟨F4, B4, 60, by decide, ck4⟩ (.cons ⟨F5, B5, 60, by decide, ck5⟩ (.cons ⟨F6, B6, 60, by decide, ck6⟩ (.cons ⟨F7, B7, 60, by decide, ck7⟩ (.cons ⟨F8, B8, 60, by decide, ck8⟩ (.cons ⟨F9, B9, 60, by decide, ck9⟩ (.cons ⟨F10, B10, 60, by decide, ck10⟩ (.cons ⟨F11, B11, 60, by decide, ck11⟩ (.cons ⟨F12, B12, 60, by decide, ck12⟩ (.cons ⟨F13, B13, 60, by decide, ck13⟩ (.cons ⟨F14, B14, 60, by decide, ck14⟩ (.cons ⟨F15, B15, 60, by decide, ck15⟩ (.cons ⟨F16, B16, 60, by decide, ck16⟩ (.cons ⟨F17, B17, 60, by decide, ck17⟩ (.cons ⟨F18, B18, 60, by decide, ck18⟩ (.cons ⟨F19, B19, 60, by decide, ck19⟩ (.cons ⟨F20, B20, 60, by decide, ck20⟩ (.cons ⟨F21, B21, 60, by decide, ck21⟩ (.cons ⟨F22, B22, 60, by decide, ck22⟩ (.cons ⟨F23, B23, 60, by decide, ck23⟩ (.cons ⟨F24, B24, 60, by decide, ck24⟩ (.cons ⟨F25, B25, 60, by decide, ck25⟩ (.nil))))))))))))))))))))))))))
  refine ⟨PySem.W.fnOf "law" "law" (defArgs (top 32)) (defBody (top 32)) (defScope (top 32)) .none kV25 dc25 pm25 an25 cd25 ct25, fun s v => .of_eq rfl, fun base _ _ => ?_⟩
  refine law_fn (L := L) (fa := faOf ps) (fd := fdOf default ps) (idx := 25) (lim := 1000000) (y := "law") ?_ dk rfl law_true
  refine facts0_mk (at' := attrL) (xl := [X0]) rfl rfl (by decide +kernel) (by decide +kernel) rfl rfl (fun p hp => nomatch hp) ?glf ?con (fun c x h => by have h : ([] : List Str)[c]? = some x := h; simp at h) (fun c m f h => nomatch h) ?blt ?xc ?xn ?xm ?xi ?gcd ?kb
  case glf => exact .cons (fun _ => ⟨PySem.W.mg_of X G a0, k0, by decide +kernel⟩) (.cons (fun _ => ⟨PySem.W.mg_of X G a1, k1, by decide +kernel⟩) (.cons (fun _ => ⟨PySem.W.mg_of X G a2, k2, by decide +kernel⟩) (.cons (fun _ => ⟨PySem.W.mg_of X G a3, k3, by decide +kernel⟩) (.cons (fun _ => ⟨PySem.W.mg_of X G a4, k4, by decide +kernel⟩) (.cons (fun _ => ⟨PySem.W.mg_of X G a5, k5, by decide +kernel⟩) (.cons (fun _ => ⟨PySem.W.mg_of X G a6, k6, by decide +kernel⟩) (.cons (fun _ => ⟨PySem.W.mg_of X G a7, k7, by decide +kernel⟩) (.cons (fun _ => ⟨PySem.W.mg_of X G a8, k8, by decide +kernel⟩) (.cons (fun _ => ⟨PySem.W.mg_of X G a9, k9, by decide +kernel⟩) (.cons (fun _ => ⟨PySem.W.mg_of X G a10, k10, by decide +kernel⟩) (.cons (fun _ => ⟨PySem.W.mg_of X G a11, k11, by decide +kernel⟩) (.cons (fun _ => ⟨PySem.W.mg_of X G a12, k12, by decide +kernel⟩) (.cons (fun _ => ⟨PySem.W.mg_of X G a13, k13, by decide +kernel⟩) (.cons (fun _ => ⟨PySem.W.mg_of X G a14, k14, by decide +kernel⟩) (.cons (fun _ => ⟨PySem.W.mg_of X G a15, k15, by decide +kernel⟩) (.cons (fun _ => ⟨PySem.W.mg_of X G a16, k16, by decide +kernel⟩) (.cons (fun _ => ⟨PySem.W.mg_of X G a17, k17, by decide +kernel⟩) (.cons (fun _ => ⟨PySem.W.mg_of X G a18, k18, by decide +kernel⟩) (.cons (fun _ => ⟨PySem.W.mg_of X G a19, k19, by decide +kernel⟩) (.cons (fun _ => ⟨PySem.W.mg_of X G a20, k20, by decide +kernel⟩) (.cons (fun _ => ⟨PySem.W.mg_of X G a21, k21, by decide +kernel⟩) (.cons (fun _ => ⟨PySem.W.mg_of X G a22, k22, by decide +kernel⟩) (.cons (fun _ => ⟨PySem.W.mg_of X G a23, k23, by decide +kernel⟩) (.cons (fun _ => ⟨PySem.W.mg_of X G a24, k24, by decide +kernel⟩) (.cons (fun _ => ⟨PySem.W.mg_of X G a25, k25, by decide +kernel⟩) (.nil))))))))))))))))))))))))))
  case con => exact .cons ⟨by decide +kernel, .ref g0, .ref g0, PySem.W.mg_of X G ga0, rfl, fun φ H => .ktup (vs := [.int 0, .int 1]) ⟨_, _, _, gl0, rfl, rfl, by rw [sizeLine_eq]; show 2 ≤ 16777216; decide, .cons ⟨_, rfl⟩ (.cons ⟨_, rfl⟩ (.nil))⟩ (.head _) (.cons (.int _) (.cons (.int _) (.nil)))⟩ (.nil)
  case blt =>
    intro x hx
    simp only [bltNames, List.mem_cons, List.not_mem_nil, or_false] at hx
    rcases hx with rfl | rfl | rfl | rfl | rfl | rfl | rfl | rfl | rfl | rfl | rfl | rfl | rfl | rfl | rfl | rfl | rfl | rfl
    · exact PySem.W.mg_none_of X G z_len
    · exact PySem.W.mg_none_of X G z_abs
    · exact PySem.W.mg_none_of X G z_int
    · exact PySem.W.mg_none_of X G z_tuple
    · exact PySem.W.mg_none_of X G z_list
    · exact PySem.W.mg_none_of X G z_sum
    · exact PySem.W.mg_none_of X G z_all
    · exact PySem.W.mg_none_of X G z_any
    · exact PySem.W.mg_none_of X G z_max
    · exact PySem.W.mg_none_of X G z_min
    · exact PySem.W.mg_none_of X G z_sorted
    · exact PySem.W.mg_none_of X G z_dict
    · exact PySem.W.mg_none_of X G z_isinstance
    · exact PySem.W.mg_none_of X G z_range
    · exact PySem.W.mg_none_of X G z_zip
    · exact PySem.W.mg_none_of X G z_enumerate
    · exact PySem.W.mg_none_of X G z_bool
    · exact PySem.W.mg_none_of X G z_str
  case xc => exact .cons ⟨by decide +kernel, PySem.W.mg_of X G xa0, xk0, ⟨xg0, xh0, xs0, xd0, xc0, xn, xz, xm0⟩, xt0⟩ (.nil)
  case xn => exact .cons (fun _ => ⟨_, _, _, _, PySem.F.excBase_ValueError, xe0⟩) (.nil)
  case xm =>
    intro p hp
    rcases List.mem_cons.mp hp with rfl | hp
    · exact y0_0
    cases hp
  case xi =>
    intro p hp x hx
    rcases List.mem_cons.mp hp with rfl | hp
    · cases hx
      exact ⟨⟨xg0, xh0, xs0, xd0, xc0, xn, xz, xm0⟩, by decide +kernel, .type "ValueError", i0_0, .inr ⟨_, rfl, PySem.W.mg_none_of X G ib0, by decide +kernel, by decide +kernel⟩⟩
    cases hp
  case gcd => exact fun z => PySem.W.mg_of X G gg
  case kb =>
    intro e he y qs hf s us ws _ h1 h2
    rcases List.mem_cons.mp he with rfl | he
    · cases hf
      match us, h1, ws, h2 with
      | [], _, [_, _], _ => exact ⟨_, rfl, .of_eq rfl⟩
    rcases List.mem_cons.mp he with rfl | he
    · cases hf
      match us, h1, ws, h2 with
      | [], _, [_, _], _ => exact ⟨_, rfl, .of_eq rfl⟩
    rcases List.mem_cons.mp he with rfl | he
    · cases hf
      match us, h1, ws, h2 with
      | [], _, [_, _], _ => exact ⟨_, rfl, .of_eq rfl⟩
    rcases List.mem_cons.mp he with rfl | he
    · cases hf
      match us, h1, ws, h2 with
      | [], _, [_], _ => exact ⟨_, rfl, .of_eq rfl⟩
    cases he
end K53
open PySem PySem.W PyProof.Rows
set_option maxRecDepth 100000 in
set_option maxHeartbeats 0 in
theorem PySem.Challenge.cw_lotsinturn_k53_whole_fractions_beside_ow_holds : PySem.Challenge.rw_lotsinturn_k53_whole_fractions_beside_ow.Holds := by
  w_on; o_law; k_head; (case hw => w_witness2)
  k_fill
  refine Mp.end_walk (l := PySem.Challenge.rw_lotsinturn_k53_whole_fractions_beside_ow) (n := 60) rfl rfl ⟨rfl, by decide, by decide⟩ (fun w h Y => PySem.W.kIn_of Y) ?F
  case F =>
    intro w mg fa h KX G hmg
    refine' K53.all_mk KX G hmg ?a0 ?l0 ?c0 ?k0 ?a1 ?l1 ?c1 ?k1 ?a2 ?l2 ?c2 ?k2 ?a3 ?l3 ?c3 ?k3 ?a4 ?l4 ?c4 ?k4 ?a5 ?l5 ?c5 ?k5 ?a6 ?l6 ?c6 ?k6 ?a7 ?l7 ?c7 ?k7 ?a8 ?l8 ?c8 ?k8 ?a9 ?l9 ?c9 ?k9 ?a10 ?l10 ?c10 ?k10 ?a11 ?l11 ?c11 ?k11 ?a12 ?l12 ?c12 ?k12 ?a13 ?l13 ?c13 ?k13 ?a14 ?l14 ?c14 ?k14 ?a15 ?l15 ?c15 ?k15 ?a16 ?l16 ?c16 ?k16 ?a17 ?l17 ?c17 ?k17 ?a18 ?l18 ?c18 ?k18 ?a19 ?l19 ?c19 ?k19 ?a20 ?l20 ?c20 ?k20 ?a21 ?l21 ?c21 ?k21 ?a22 ?l22 ?c22 ?k22 ?a23 ?l23 ?c23 ?k23 ?a24 ?l24 ?c24 ?k24 ?a25 ?l25 ?c25 ?k25 ?xa0 ?xk0 ?xt0 ?xe0 ?xg0 ?xh0 ?xs0 ?xd0 ?xc0 ?xm0 ?xn ?xz ?y0_0 ?i0_0 ?ib0 ?ga0 ?gl0 ?gg ?z_abs ?z_all ?z_any ?z_bool ?z_dict ?z_enumerate ?z_int ?z_isinstance ?z_len ?z_list ?z_max ?z_min ?z_range ?z_sorted ?z_str ?z_sum ?z_tuple ?z_zip
    (case a0 => first | k_is | kit_is | k_exc | rfl)
    (case l0 => first | k_is | kit_is | k_exc | rfl)
    (case c0 => first | k_is | kit_is | k_exc | rfl)
    (case k0 => first | k_is | kit_is | k_exc | rfl)
    (case a1 => first | k_is | kit_is | k_exc | rfl)
    (case l1 => first | k_is | kit_is | k_exc | rfl)
    (case c1 => first | k_is | kit_is | k_exc | rfl)
    (case k1 => first | k_is | kit_is | k_exc | rfl)
    (case a2 => first | k_is | kit_is | k_exc | rfl)
    (case l2 => first | k_is | kit_is | k_exc | rfl)
    (case c2 => first | k_is | kit_is | k_exc | rfl)
    (case k2 => first | k_is | kit_is | k_exc | rfl)
    (case a3 => first | k_is | kit_is | k_exc | rfl)
    (case l3 => first | k_is | kit_is | k_exc | rfl)
    (case c3 => first | k_is | kit_is | k_exc | rfl)
    (case k3 => first | k_is | kit_is | k_exc | rfl)
    (case a4 => first | k_is | kit_is | k_exc | rfl)
    (case l4 => first | k_is | kit_is | k_exc | rfl)
    (case c4 => first | k_is | kit_is | k_exc | rfl)
    (case k4 => first | k_is | kit_is | k_exc | rfl)
    (case a5 => first | k_is | kit_is | k_exc | rfl)
    (case l5 => first | k_is | kit_is | k_exc | rfl)
    (case c5 => first | k_is | kit_is | k_exc | rfl)
    (case k5 => first | k_is | kit_is | k_exc | rfl)
    (case a6 => first | k_is | kit_is | k_exc | rfl)
    (case l6 => first | k_is | kit_is | k_exc | rfl)
    (case c6 => first | k_is | kit_is | k_exc | rfl)
    (case k6 => first | k_is | kit_is | k_exc | rfl)
    (case a7 => first | k_is | kit_is | k_exc | rfl)
    (case l7 => first | k_is | kit_is | k_exc | rfl)
    (case c7 => first | k_is | kit_is | k_exc | rfl)
    (case k7 => first | k_is | kit_is | k_exc | rfl)
    (case a8 => first | k_is | kit_is | k_exc | rfl)
    (case l8 => first | k_is | kit_is | k_exc | rfl)
    (case c8 => first | k_is | kit_is | k_exc | rfl)
    (case k8 => first | k_is | kit_is | k_exc | rfl)
    (case a9 => first | k_is | kit_is | k_exc | rfl)
    (case l9 => first | k_is | kit_is | k_exc | rfl)
    (case c9 => first | k_is | kit_is | k_exc | rfl)
    (case k9 => first | k_is | kit_is | k_exc | rfl)
    (case a10 => first | k_is | kit_is | k_exc | rfl)
    (case l10 => first | k_is | kit_is | k_exc | rfl)
    (case c10 => first | k_is | kit_is | k_exc | rfl)
    (case k10 => first | k_is | kit_is | k_exc | rfl)
    (case a11 => first | k_is | kit_is | k_exc | rfl)
    (case l11 => first | k_is | kit_is | k_exc | rfl)
    (case c11 => first | k_is | kit_is | k_exc | rfl)
    (case k11 => first | k_is | kit_is | k_exc | rfl)
    (case a12 => first | k_is | kit_is | k_exc | rfl)
    (case l12 => first | k_is | kit_is | k_exc | rfl)
    (case c12 => first | k_is | kit_is | k_exc | rfl)
    (case k12 => first | k_is | kit_is | k_exc | rfl)
    (case a13 => first | k_is | kit_is | k_exc | rfl)
    (case l13 => first | k_is | kit_is | k_exc | rfl)
    (case c13 => first | k_is | kit_is | k_exc | rfl)
    (case k13 => first | k_is | kit_is | k_exc | rfl)
    (case a14 => first | k_is | kit_is | k_exc | rfl)
    (case l14 => first | k_is | kit_is | k_exc | rfl)
    (case c14 => first | k_is | kit_is | k_exc | rfl)
    (case k14 => first | k_is | kit_is | k_exc | rfl)
    (case a15 => first | k_is | kit_is | k_exc | rfl)
    (case l15 => first | k_is | kit_is | k_exc | rfl)
    (case c15 => first | k_is | kit_is | k_exc | rfl)
    (case k15 => first | k_is | kit_is | k_exc | rfl)
    (case a16 => first | k_is | kit_is | k_exc | rfl)
    (case l16 => first | k_is | kit_is | k_exc | rfl)
    (case c16 => first | k_is | kit_is | k_exc | rfl)
    (case k16 => first | k_is | kit_is | k_exc | rfl)
    (case a17 => first | k_is | kit_is | k_exc | rfl)
    (case l17 => first | k_is | kit_is | k_exc | rfl)
    (case c17 => first | k_is | kit_is | k_exc | rfl)
    (case k17 => first | k_is | kit_is | k_exc | rfl)
    (case a18 => first | k_is | kit_is | k_exc | rfl)
    (case l18 => first | k_is | kit_is | k_exc | rfl)
    (case c18 => first | k_is | kit_is | k_exc | rfl)
    (case k18 => first | k_is | kit_is | k_exc | rfl)
    (case a19 => first | k_is | kit_is | k_exc | rfl)
    (case l19 => first | k_is | kit_is | k_exc | rfl)
    (case c19 => first | k_is | kit_is | k_exc | rfl)
    (case k19 => first | k_is | kit_is | k_exc | rfl)
    (case a20 => first | k_is | kit_is | k_exc | rfl)
    (case l20 => first | k_is | kit_is | k_exc | rfl)
    (case c20 => first | k_is | kit_is | k_exc | rfl)
    (case k20 => first | k_is | kit_is | k_exc | rfl)
    (case a21 => first | k_is | kit_is | k_exc | rfl)
    (case l21 => first | k_is | kit_is | k_exc | rfl)
    (case c21 => first | k_is | kit_is | k_exc | rfl)
    (case k21 => first | k_is | kit_is | k_exc | rfl)
    (case a22 => first | k_is | kit_is | k_exc | rfl)
    (case l22 => first | k_is | kit_is | k_exc | rfl)
    (case c22 => first | k_is | kit_is | k_exc | rfl)
    (case k22 => first | k_is | kit_is | k_exc | rfl)
    (case a23 => first | k_is | kit_is | k_exc | rfl)
    (case l23 => first | k_is | kit_is | k_exc | rfl)
    (case c23 => first | k_is | kit_is | k_exc | rfl)
    (case k23 => first | k_is | kit_is | k_exc | rfl)
    (case a24 => first | k_is | kit_is | k_exc | rfl)
    (case l24 => first | k_is | kit_is | k_exc | rfl)
    (case c24 => first | k_is | kit_is | k_exc | rfl)
    (case k24 => first | k_is | kit_is | k_exc | rfl)
    (case a25 => first | k_is | kit_is | k_exc | rfl)
    (case l25 => first | k_is | kit_is | k_exc | rfl)
    (case c25 => first | k_is | kit_is | k_exc | rfl)
    (case k25 => first | k_is | kit_is | k_exc | rfl)
    (case xa0 => first | k_is | kit_is | k_exc | rfl)
    (case xk0 => first | k_is | kit_is | k_exc | rfl)
    (case xt0 => first | k_is | kit_is | k_exc | rfl)
    (case xe0 => first | k_is | kit_is | k_exc | rfl)
    (case xg0 => first | k_is | kit_is | k_exc | rfl)
    (case xh0 => first | k_is | kit_is | k_exc | rfl)
    (case xs0 => first | k_is | kit_is | k_exc | rfl)
    (case xd0 => first | k_is | kit_is | k_exc | rfl)
    (case xc0 => first | k_is | kit_is | k_exc | rfl)
    (case xm0 => first | k_is | kit_is | k_exc | rfl)
    (case xn => first | k_is | kit_is | k_exc | rfl)
    (case xz => first | k_is | kit_is | k_exc | rfl)
    (case y0_0 => first | k_is | kit_is | k_exc | rfl)
    (case i0_0 => first | k_is | kit_is | k_exc | rfl)
    (case ib0 => first | k_is | kit_is | k_exc | rfl)
    (case ga0 => first | k_is | kit_is | k_exc | rfl)
    (case gl0 => first | k_is | kit_is | k_exc | rfl)
    (case gg => first | k_is | kit_is | k_exc | rfl)
    (case z_abs => first | k_is | kit_is | k_exc | rfl)
    (case z_all => first | k_is | kit_is | k_exc | rfl)
    (case z_any => first | k_is | kit_is | k_exc | rfl)
    (case z_bool => first | k_is | kit_is | k_exc | rfl)
    (case z_dict => first | k_is | kit_is | k_exc | rfl)
    (case z_enumerate => first | k_is | kit_is | k_exc | rfl)
    (case z_int => first | k_is | kit_is | k_exc | rfl)
    (case z_isinstance => first | k_is | kit_is | k_exc | rfl)
    (case z_len => first | k_is | kit_is | k_exc | rfl)
    (case z_list => first | k_is | kit_is | k_exc | rfl)
    (case z_max => first | k_is | kit_is | k_exc | rfl)
    (case z_min => first | k_is | kit_is | k_exc | rfl)
    (case z_range => first | k_is | kit_is | k_exc | rfl)
    (case z_sorted => first | k_is | kit_is | k_exc | rfl)
    (case z_str => first | k_is | kit_is | k_exc | rfl)
    (case z_sum => first | k_is | kit_is | k_exc | rfl)
    (case z_tuple => first | k_is | kit_is | k_exc | rfl)
    (case z_zip => first | k_is | kit_is | k_exc | rfl)
end
