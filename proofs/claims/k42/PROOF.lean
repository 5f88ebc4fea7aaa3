import PyProof.Rows.All
import Wide.All
import OpenK.AllK
import Wide.FinOn
import HandS.ForMost
import HandS.Deep
import HandS.TupAny
import HandS.Zip
import HandS.Style
import HandS.Defaults
import HandS.HeadHook1
import HandS.HeadHook2
import HandS.HeadEnd
import HandS.Ends
import HandS.HeadHook4
import HandS.Head0
import HandS.Head1
import HandS.Head2
import KE.KStateDown
import Lean
import PySem.Challenge.RW_lapseseats_k42_seats_split
/-! IpA: values, a small syntax, an evaluator. Plain Lean. -/
set_option autoImplicit false
namespace Ip

/-- a value: trees for what never changes, ref i for the cell i -/
inductive D where
  | non
  | bl (b : Bool)
  | int (i : Int)
  | str (s : List Nat)
  | tup (xs : List D)
  | fl (xs : List D)
  | sc (xs : List D)
  | ins (c : Nat) (fs : List (Nat × D))
  | ref (i : Nat)
  | cls (c : Nat)
  | rp (d : D)
deriving Inhabited

inductive Cell where
  | lst (xs : List D)
  | ins (c : Nat) (fs : List (Nat × D))
  | dic (kvs : List (D × D))
deriving Inhabited

abbrev Store := List Cell
abbrev Env := List (Option D)

/-! ### all refs lie below n -/
mutual
def closed (n : Nat) : D → Bool
  | .ref i => Nat.blt i n
  | .tup xs => closedL n xs
  | .fl xs => closedL n xs
  | .sc xs => closedL n xs
  | .ins _ fs => closedF n fs
  | _ => true
def closedL (n : Nat) : List D → Bool
  | [] => true
  | x :: xs => closed n x && closedL n xs
def closedF (n : Nat) : List (Nat × D) → Bool
  | [] => true
  | (_, x) :: xs => closed n x && closedF n xs
end

/-! ### the same data -/
mutual
def sameD : D → D → Bool
  | .non, .non => true
  | .bl a, .bl b => a == b
  | .int i, .int j => i == j
  | .str s, .str t => s == t
  | .tup xs, .tup ys => sameL xs ys
  | .fl xs, .fl ys => sameL xs ys
  | .sc xs, .sc ys => sameL xs ys
  | .ins c fs, .ins d gs => c == d && sameF fs gs
  | .ref i, .ref j => i == j
  | .cls i, .cls j => i == j
  | .rp a, .rp b => sameD a b
  | _, _ => false
def sameL : List D → List D → Bool
  | [], [] => true
  | x :: xs, y :: ys => sameD x y && sameL xs ys
  | _, _ => false
def sameF : List (Nat × D) → List (Nat × D) → Bool
  | [], [] => true
  | (k, x) :: xs, (l, y) :: ys => (k == l) && (sameD x y && sameF xs ys)
  | _, _ => false
end

/-! ### results -/
inductive R (α : Type) where
  | ok (a : α) (S : Store)
  | exc (c : Nat) (fs : List (Nat × D)) (S : Store)
  | fail

def R.bind {α β : Type} (r : R α) (f : α → Store → R β) : R β :=
  match r with
  | .ok a S => f a S
  | .exc c fs S => .exc c fs S
  | .fail => .fail

def R.of {α : Type} (o : Option α) (S : Store) : R α := match o with
  | some a => .ok a S
  | none => .fail

/-! ### data through the cells -/
def mapO {α β : Type} (f : α → Option β) : List α → Option (List β)
  | [] => some []
  | x :: xs => match f x with
    | some y => (mapO f xs).map (y :: ·)
    | none => none

/-- plain signs -/
def okS (s : List Nat) : Bool := s.all fun c => Nat.blt c 1114112
/-- data without cells: a list that stands in a cell becomes a fl -/
def deep (S : Store) : Nat → D → Option D
  | 0, _ => none
  | n + 1, d => match d with
    | .non => some .non
    | .bl b => some (.bl b)
    | .int i => some (.int i)
    | .str s => if okS s then some (.str s) else none
    | .tup xs => (mapO (deep S n) xs).map .tup
    | .fl xs => (mapO (deep S n) xs).map .fl
    | .sc xs => (mapO (deep S n) xs).map .fl
    | .ref i => match S[i]? with
      | some (.lst xs) => (mapO (deep S n) xs).map .fl
      | _ => none
    | _ => none

mutual
def eqv : D → D → Bool
  | .non, .non => true
  | .bl a, .bl b => a == b
  | .int i, .int j => i == j
  | .bl a, .int j => (if a then 1 else 0) == j
  | .int i, .bl b => i == (if b then 1 else 0)
  | .str s, .str t => s == t
  | .tup xs, .tup ys => eqvL xs ys
  | .fl xs, .fl ys => eqvL xs ys
  | _, _ => false
def eqvL : List D → List D → Bool
  | [], [] => true
  | x :: xs, y :: ys => eqv x y && eqvL xs ys
  | _, _ => false
end

-- what repr may show
mutual
def okRp : D → Bool
  | .int i => decide (i.natAbs < 10 ^ 40)
  | .tup xs => okRpL xs
  | .fl xs => okRpL xs
  | _ => true
def okRpL : List D → Bool
  | [] => true
  | x :: xs => okRp x && okRpL xs
end
mutual
def bulk : D → Nat
  | .str s => s.length
  | .tup xs => bulkL xs
  | .fl xs => bulkL xs
  | _ => 0
def bulkL : List D → Nat
  | [] => 0
  | x :: xs => bulk x + 1 + bulkL xs
end
def rpD (d : D) : Option D := if okRp d && decide (bulk d ≤ 300000) then some (.rp d) else none

/-- how deep data may be -/
def deepest : Nat := 20

/-- the items of a list or tuple -/
def items (S : Store) : D → Option (List D)
  | .tup xs => some xs
  | .fl xs => some xs
  | .sc xs => some xs
  | .ref i => match S[i]? with
    | some (.lst xs) => some xs
    | _ => none
  | _ => none

/-- the items of a list -/
def itemsL (S : Store) : D → Option (List D)
  | .fl xs => some xs
  | .sc xs => some xs
  | .ref i => match S[i]? with
    | some (.lst xs) => some xs
    | _ => none
  | _ => none

/-- the items of a list that may be written, or is frozen -/
def itemsW (S : Store) : D → Option (List D)
  | .fl xs => some xs
  | .ref i => match S[i]? with
    | some (.lst xs) => some xs
    | _ => none
  | _ => none

/-! ### operators -/
inductive Op where
  | add | sub | mul | fdiv | mod | pow
inductive Cm where
  | eq | ne | lt | le | gt | ge | is | isnt | mem | nmem

def small (i : Int) : Bool := decide (-(2 ^ 64) < i) && decide (i < 2 ^ 64)

/-- an index, of any sign -/
def ixOf (n : Nat) (i : Int) : Option Nat := if 0 ≤ i then (if i < n then some i.toNat else none) else if -(n : Int) ≤ i then some (i + n).toNat else none

def binD (o : Op) (x y : D) (S : Store) : R D := match o with
  | .add => match x, y with
    | .int i, .int j => .ok (.int (i + j)) S
    | .str s, .str t => if s.length + t.length ≤ 100000 then .ok (.str (s ++ t)) S else .fail
    | .tup xs, .tup ys => if xs.length + ys.length ≤ 100000 then .ok (.tup (xs ++ ys)) S else .fail
    | x, y => match itemsW S x, itemsW S y with
      | some xs, some ys => if xs.length + ys.length ≤ 100000 then .ok (.fl (xs ++ ys)) S else .fail
      | _, _ => .fail
  | .sub => match x, y with
    | .int i, .int j => .ok (.int (i - j)) S
    | _, _ => .fail
  | .mul => match x, y with
    | .int i, .int j => if small i || small j then .ok (.int (i * j)) S else .fail
    | _, .int k => match itemsW S x with
      | some xs => if decide (-(2 ^ 63) ≤ k) && (decide (k < 2 ^ 63) && decide (xs.length * k.toNat ≤ 100000)) then .ok (.fl (List.replicate k.toNat xs).flatten) S else .fail
      | _ => .fail
    | _, _ => .fail
  | .fdiv => match x, y with
    | .int i, .int j => if decide (0 < j) && decide (j < 1073741824) then .ok (.int (i / j)) S else .fail
    | _, _ => .fail
  | .mod => match x, y with
    | .int i, .int j => if 0 < j then .ok (.int (i % j)) S else .fail
    | _, _ => .fail
  | .pow => match x, y with
    | .int i, .int j => if decide (0 ≤ j) && (decide (j ≤ 1000000) && decide (i.natAbs < 2 ^ 64)) then .ok (.int (i ^ j.toNat)) S else .fail
    | _, _ => .fail

def isScal : D → Bool
  | .non => true
  | .bl _ => true
  | .int _ => true
  | .str _ => true
  | _ => false

/-- == -/
def eqD (x y : D) (S : Store) : Option Bool := match x, y with
  | .rp a, .rp b => if sameD a b then some true else none
  | .str a, .str b => some (a == b)
  | x, y => match deep S deepest x, deep S deepest y with
    | some a, some b => some (eqv a b)
    | _, _ => none

def memD (x y : D) (S : Store) : Option Bool := match y with
  | .ref i => match S[i]? with
    | some (.lst ys) => match deep S deepest x, mapO (deep S deepest) ys with
      | some a, some bs => some (bs.any fun b => eqv b a)
      | _, _ => none
    | _ => none
  | .fl ys => match deep S deepest x, mapO (deep S deepest) ys with
    | some a, some bs => some (bs.any fun b => eqv b a)
    | _, _ => none
  | .tup ys => if isScal x && ys.all isScal then some (ys.any fun b => eqv b x) else none
  | _ => none

def isNon : D → Bool
  | .non => true
  | _ => false

def cmpD (o : Cm) (x y : D) (S : Store) : Option Bool := match o with
  | .eq => eqD x y S
  | .ne => (eqD x y S).map not
  | .lt => match x, y with
    | .int i, .int j => some (decide (i < j))
    | _, _ => none
  | .le => match x, y with
    | .int i, .int j => some (decide (i ≤ j))
    | _, _ => none
  | .gt => match x, y with
    | .int i, .int j => some (decide (j < i))
    | _, _ => none
  | .ge => match x, y with
    | .int i, .int j => some (decide (j ≤ i))
    | _, _ => none
  | .is => match x, y with
    | x, .non => some (isNon x)
    | .bl a, .bl b => some (a == b)
    | _, _ => none
  | .isnt => match x, y with
    | x, .non => some (!isNon x)
    | .bl a, .bl b => some (!(a == b))
    | _, _ => none
  | .mem => memD x y S
  | .nmem => (memD x y S).map not

/-- truth -/
def truD (x : D) (_ : Store) : Option Bool := match x with
  | .bl b => some b
  | _ => none

def subD (x i : D) (S : Store) : Option D := match i with
  | .int k => match items S x with
    | some xs => match ixOf xs.length k with
      | some j => xs[j]?
      | none => none
    | none => none
  | _ => none

/-- the clipped end of a slice -/
def clipD (n d : Nat) : D → Option Nat
  | .non => some d
  | .int v => some (if v < 0 then (v + (n : Int)).toNat else min v.toNat n)
  | _ => none
def cutL {α : Type} (xs : List α) (a b : Nat) : List α := (xs.drop a).take (b - a)
def slcD (x lo hi : D) (S : Store) : Option D := match x with
  | .tup xs => match clipD xs.length 0 lo, clipD xs.length xs.length hi with
    | some a, some b => some (.tup (cutL xs a b))
    | _, _ => none
  | x => match itemsL S x with
    | some xs => match clipD xs.length 0 lo, clipD xs.length xs.length hi with
      | some a, some b => some (.fl (cutL xs a b))
      | _, _ => none
    | none => none

def fget (f : Nat) : List (Nat × D) → Option D
  | [] => none
  | (k, x) :: r => if k == f then some x else fget f r
def fput (f : Nat) (v : D) : List (Nat × D) → List (Nat × D)
  | [] => [(f, v)]
  | (k, x) :: r => if k == f then (f, v) :: r else (k, x) :: fput f v r

def attD (x : D) (f : Nat) (S : Store) : Option D := match x with
  | .ins _ fs => fget f fs
  | .ref i => match S[i]? with
    | some (.ins _ fs) => fget f fs
    | _ => none
  | _ => none

def clsOf (x : D) (S : Store) : Option Nat := match x with
  | .ins c _ => some c
  | .ref i => match S[i]? with
    | some (.ins c _) => some c
    | _ => none
  | _ => none

/-- built-ins by their name -/
inductive Bi where
  | len | int | abs | max2 | min2 | max1 | min1 | sum | tuple | list | repr | anyB | allB | sorted

def asI : D → Option Int
  | .int i => some i
  | _ => none
def asB : D → Option Bool
  | .bl i => some i
  | _ => none
def intsOf (xs : List D) : Option (List Int) := mapO asI xs
def blsOf (xs : List D) : Option (List Bool) := mapO asB xs

def maxL : List Int → Option Int
  | [] => none
  | i :: r => some (r.foldl (fun a b => if a < b then b else a) i)
def minL : List Int → Option Int
  | [] => none
  | i :: r => some (r.foldl (fun a b => if b < a then b else a) i)

def insI (i : Int) : List Int → List Int
  | [] => [i]
  | j :: r => if i ≤ j then i :: j :: r else j :: insI i r
def sortI : List Int → List Int
  | [] => []
  | i :: r => insI i (sortI r)

def biD (b : Bi) (vs : List D) (S : Store) : Option D := match b with
  | .len => match vs with
    | [x] => match items S x with
      | some xs => some (.int xs.length)
      | none => none
    | _ => none
  | .int => match vs with
    | [.int i] => some (.int i)
    | [.bl k] => some (.int (if k then 1 else 0))
    | _ => none
  | .abs => match vs with
    | [.int i] => some (.int (if i < 0 then -i else i))
    | _ => none
  | .max2 => match vs with
    | [.int i, .int j] => some (.int (if j > i then j else i))
    | _ => none
  | .min2 => match vs with
    | [.int i, .int j] => some (.int (if j < i then j else i))
    | _ => none
  | .max1 => match vs with
    | [x] => match (itemsL S x).bind intsOf with
      | some ns => (maxL ns).map .int
      | none => none
    | _ => none
  | .min1 => match vs with
    | [x] => match (itemsL S x).bind intsOf with
      | some ns => (minL ns).map .int
      | none => none
    | _ => none
  | .sum => match vs with
    | [x] => match (itemsL S x).bind intsOf with
      | some ns => some (.int ns.sum)
      | none => none
    | _ => none
  | .tuple => match vs with
    | [.tup ys] => some (.tup ys)
    | [x] => (itemsL S x).map .tup
    | _ => none
  | .list => match vs with
    | [x] => (items S x).map .fl
    | _ => none
  | .repr => match vs with
    | [x] => (deep S deepest x).bind rpD
    | _ => none
  | .anyB => match vs with
    | [x] => match (itemsL S x).bind blsOf with
      | some bs => some (.bl (bs.any id))
      | none => none
    | _ => none
  | .allB => match vs with
    | [x] => match (itemsL S x).bind blsOf with
      | some bs => some (.bl (bs.all id))
      | none => none
    | _ => none
  | .sorted => match vs with
    | [x] => match (itemsL S x).bind intsOf with
      | some ns => if ns.length < 64 then some (.fl ((sortI ns).map .int)) else none
      | none => none
    | _ => none

/-- methods of built-in types that change their object, or read it -/
inductive Bm where
  | append | pop0 | pop1 | extend

/-- a cell is changed: what is put into an elder one names no younger one -/
def put (base : Nat) (i : Nat) (c : Cell) (d : D) (S : Store) : Option Store :=
  if Nat.ble base i || closed (i + 1) d then some (S.set i c) else none

/-- what the method is called on -/
def bmTy (_ : Bm) (x : D) (S : Store) : Bool := (itemsL S x).isSome
def bmD (base : Nat) (b : Bm) (x : D) (vs : List D) (S : Store) : R D := match b with
  | .append => match x, vs with
    | .ref i, [d] => match S[i]? with
      | some (.lst xs) => if xs.length < 100000 then (match put base i (.lst (xs ++ [d])) d S with
        | some S' => .ok .non S'
        | none => .fail) else .fail
      | _ => .fail
    | _, _ => .fail
  | .pop0 => match x, vs with
    | .ref i, [] => match S[i]? with
      | some (.lst xs) => match xs[xs.length - 1]? with
        | some y => .ok y (S.set i (.lst xs.dropLast))
        | none => .fail
      | _ => .fail
    | _, _ => .fail
  | .pop1 => match x, vs with
    | .ref i, [.int k] => match S[i]? with
      | some (.lst xs) => if decide (-(2 ^ 63) ≤ k) && decide (k < 2 ^ 63) then (match ixOf xs.length k with
        | some j => match xs[j]? with
          | some y => .ok y (S.set i (.lst (xs.eraseIdx j)))
          | none => .fail
        | none => .fail) else .fail
      | _ => .fail
    | _, _ => .fail
  | .extend => match x, vs with
    | .ref i, [d] => match S[i]?, itemsW S d with
      | some (.lst xs), some ys => if xs.length + ys.length ≤ 100000 then (match put base i (.lst (xs ++ ys)) (.fl ys) S with
        | some S' => .ok .non S'
        | none => .fail) else .fail
      | _, _ => .fail
    | _, _ => .fail

/-! ### syntax -/
/-- targets of loops: names, tuples of names -/
inductive Tg where
  | nm (i : Nat)
  | tp (is : List Nat)

mutual
inductive Ex where
  | nev
  | var (i : Nat)
  | lit (d : D)
  | gl (g : Nat) (d : D)
  | bin (o : Op) (a b : Ex)
  | neg (a : Ex)
  | cmp (o : Cm) (a b : Ex)
  | chn (o p : Cm) (a b c : Ex)
  | and (es : Exs)
  | or (es : Exs)
  | not (a : Ex)
  | ite (c a b : Ex)
  | tup (es : Exs)
  | lst (k : Bool) (es : Exs)
  | comp (k : Bool) (elt : Ex) (t : Tg) (it : Iter) (cs : Exs)
  | sub (a i : Ex)
  | slc (a lo hi : Ex)
  | rev (k : Bool) (a : Ex)
  | att (a : Ex) (f : Nat)
  | call (f : Nat) (es : Exs)
  | new (c : Nat) (es : Exs)
  | met (a : Ex) (m : Nat) (es : Exs)
  | bi (b : Bi) (k : Bool) (es : Exs)
  | bm (b : Bm) (a : Ex) (es : Exs)
inductive Exs where
  | nil
  | cons (star : Bool) (e : Ex) (es : Exs)
inductive Iter where
  | seq (e : Ex)
  | rng1 (e : Ex)
  | rng2 (a b : Ex)
  | enum (e : Ex)
  | zip (a b : Ex)
end

inductive Ta where
  | nm (i : Nat)
  | tp (ts : List Nat)
  | sub (a i : Ex)
  | att (a : Ex) (f : Nat)

mutual
inductive Sm where
  | nev
  | pas
  | asg (t : Ta) (e : Ex)
  | par (is : List Nat) (es : Exs)
  | ex (e : Ex)
  | ret (e : Ex)
  | retN
  | iff (c : Ex) (a b : Sms)
  | for (t : Tg) (it : Iter) (b : Sms)
  | whl (c : Ex) (b : Sms)
  | brk
  | cnt
  | rai (c : Nat) (es : Exs)
inductive Sms where
  | nil
  | cons (s : Sm) (r : Sms)
end

/-! ### the evaluator -/
structure Ec where
  call : Nat → List D → Store → R D
  meth : Nat → Nat → Option Nat
  init : Nat → Option Nat
  frz : Nat → Bool
  base : Nat
  fuel : Nat

/-- a new list: a cell, or never changed -/
def newL (k : Bool) (xs : List D) (S : Store) : R D :=
  if k then .ok (.ref S.length) (S ++ [.lst xs]) else .ok (.fl xs) S

def lock (d : D) (S0 S : Store) : Bool := match d with
  | .ref i => match S0[i]?, S[i]? with
    | some (.lst xs), some (.lst ys) => sameL xs ys
    | _, _ => false
  | _ => true

/-- what is walked: the items, and what must stay as it is -/
structure Wk where
  xs : List D
  lk : List D
def lockAll (ds : List D) (S0 S : Store) : Bool := ds.all fun d => lock d S0 S

def rngL (lo : Int) (n : Nat) : List D := (List.range n).map fun k => D.int (lo + (k : Nat))
def big62 (i : Int) : Bool := decide (-(2 ^ 62) ≤ i) && decide (i < 2 ^ 62)

def zipL : List D → List D → List D
  | x :: xs, y :: ys => .tup [x, y] :: zipL xs ys
  | _, _ => []
def enumL : Nat → List D → List D
  | _, [] => []
  | i, x :: xs => .tup [.int (i : Nat), x] :: enumL (i + 1) xs

/-- a target is stored -/
def setAll : List Nat → List D → Env → Env
  | i :: is, d :: ds, ρ => setAll is ds (ρ.set i (some d))
  | _, _, ρ => ρ
def tgD (t : Tg) (d : D) (ρ : Env) (S : Store) : Option Env := match t with
  | .nm i => some (ρ.set i (some d))
  | .tp is => match d with
    | .tup xs => if xs.length == is.length then some (setAll is xs ρ) else none
    | _ => none

def compL (f : D → Store → R (Option D)) (lk : Store → Bool) : List D → Store → R (List D)
  | [], S => .ok [] S
  | x :: xs, S => match f x S with
    | .ok o S1 => if lk S1 then (match compL f lk xs S1 with
      | .ok ys S2 => .ok (match o with
        | some y => y :: ys
        | none => ys) S2
      | _ => .fail) else .fail
    | _ => .fail

def initD (cx : Ec) (c : Nat) (vs : List D) (S : Store) : R D :=
  match cx.init c with
  | some f => (cx.call f (.ref S.length :: vs) (S ++ [.ins c []])).bind fun _ S1 =>
    if cx.frz c then (match S1[S.length]? with
      | some (.ins d fs) => if d == c && closedF S.length fs then .ok (.ins c fs) (S1.take S.length) else .fail
      | _ => .fail)
    else .ok (.ref S.length) S1
  | none => .fail

/-- a minus -/
def negD (x : D) (S : Store) : R D := match x with
  | .int i => .ok (.int (-i)) S
  | _ => .fail
/-- an end of a slice; b: none is written -/
def isNonL : Ex → Bool
  | .lit .non => true
  | _ => false
def endD (b : Bool) (x : D) (S : Store) : R D := match x with
  | .int i => .ok (.int i) S
  | .non => if b then .ok .non S else .fail
  | _ => .fail
mutual
def evE (cx : Ec) : Ex → Env → Store → R D
  | .nev, _, _ => .fail
  | .var i, ρ, S => match ρ[i]? with
    | some (some d) => .ok d S
    | _ => .fail
  | .lit d, _, S => .ok d S
  | .gl _ d, _, S => .ok d S
  | .bin o a b, ρ, S => (evE cx a ρ S).bind fun x S1 => (evE cx b ρ S1).bind fun y S2 => binD o x y S2
  | .neg a, ρ, S => (evE cx a ρ S).bind fun x S1 => negD x S1
  | .cmp o a b, ρ, S => (evE cx a ρ S).bind fun x S1 => (evE cx b ρ S1).bind fun y S2 => R.of ((cmpD o x y S2).map .bl) S2
  | .chn o p a b c, ρ, S => (evE cx a ρ S).bind fun x S1 => (evE cx b ρ S1).bind fun y S2 => (R.of (cmpD o x y S2) S2).bind fun k S3 =>
    if k then (evE cx c ρ S3).bind fun z S4 => R.of ((cmpD p y z S4).map .bl) S4 else .ok (.bl false) S3
  | .and es, ρ, S => evAnd cx es ρ S
  | .or es, ρ, S => evOr cx es ρ S
  | .not a, ρ, S => (evE cx a ρ S).bind fun x S1 => (R.of (truD x S1) S1).bind fun k S2 => .ok (.bl (!k)) S2
  | .ite c a b, ρ, S => (evE cx c ρ S).bind fun x S1 => (R.of (truD x S1) S1).bind fun k S2 => if k then evE cx a ρ S2 else evE cx b ρ S2
  | .tup es, ρ, S => (evEs cx es ρ S).bind fun xs S1 => if xs.length ≤ 100000 then .ok (.tup xs) S1 else .fail
  | .lst k es, ρ, S => (evEs cx es ρ S).bind fun xs S1 => if xs.length ≤ 100000 then newL k xs S1 else .fail
  | .comp k elt t it cs, ρ, S => (evIt cx it ρ S).bind fun w S1 =>
    (compL (fun x S2 => match tgD t x ρ S2 with
      | some ρ' => (evCs cx cs ρ' S2).bind fun q S3 => if q then (evE cx elt ρ' S3).bind fun y S4 => .ok (some y) S4 else .ok none S3
      | none => .fail) (lockAll w.lk S1) w.xs S1).bind fun ys S2 => if w.xs.length ≤ 100000 then newL k ys S2 else .fail
  | .sub a i, ρ, S => (evE cx a ρ S).bind fun x S1 => (evE cx i ρ S1).bind fun y S2 => R.of (subD x y S2) S2
  | .slc a lo hi, ρ, S => (evE cx a ρ S).bind fun x S1 => ((evE cx lo ρ S1).bind (endD (isNonL lo))).bind fun y S2 => ((evE cx hi ρ S2).bind (endD (isNonL hi))).bind fun z S3 => R.of (slcD x y z S3) S3
  | .rev k a, ρ, S => (evE cx a ρ S).bind fun x S1 => match itemsL S1 x with
    | some xs => newL k xs.reverse S1
    | none => .fail
  | .att a f, ρ, S => (evE cx a ρ S).bind fun x S1 => R.of (attD x f S1) S1
  | .call f es, ρ, S => (evEs cx es ρ S).bind fun xs S1 => cx.call f xs S1
  | .new c es, ρ, S => (evEs cx es ρ S).bind fun xs S1 => initD cx c xs S1
  | .met a m es, ρ, S => (evE cx a ρ S).bind fun x S1 => match clsOf x S1 with
    | some c => match cx.meth c m with
      | some f => (evEs cx es ρ S1).bind fun xs S2 => cx.call f (x :: xs) S2
      | none => .fail
    | none => .fail
  | .bi b k es, ρ, S => (evEs cx es ρ S).bind fun xs S1 => match biD b xs S1 with
    | some (.fl ys) => newL k ys S1
    | some d => .ok d S1
    | none => .fail
  | .bm b a es, ρ, S => (evE cx a ρ S).bind fun x S1 => if bmTy b x S1 then (evEs cx es ρ S1).bind fun xs S2 => bmD cx.base b x xs S2 else .fail
def evEs (cx : Ec) : Exs → Env → Store → R (List D)
  | .nil, _, S => .ok [] S
  | .cons st e es, ρ, S => (evE cx e ρ S).bind fun x S1 =>
    if st then .fail else (evEs cx es ρ S1).bind fun xs S2 => .ok (x :: xs) S2
def evAnd (cx : Ec) : Exs → Env → Store → R D
  | .nil, _, _ => .fail
  | .cons _ e es, ρ, S => match es with
    | .nil => evE cx e ρ S
    | .cons .. => (evE cx e ρ S).bind fun x S1 => (R.of (truD x S1) S1).bind fun k S2 => if k then evAnd cx es ρ S2 else .ok (.bl false) S2
def evOr (cx : Ec) : Exs → Env → Store → R D
  | .nil, _, _ => .fail
  | .cons _ e es, ρ, S => match es with
    | .nil => evE cx e ρ S
    | .cons .. => (evE cx e ρ S).bind fun x S1 => (R.of (truD x S1) S1).bind fun k S2 => if k then .ok (.bl true) S2 else evOr cx es ρ S2
def evCs (cx : Ec) : Exs → Env → Store → R Bool
  | .nil, _, S => .ok true S
  | .cons _ e es, ρ, S => (evE cx e ρ S).bind fun x S1 => (R.of (truD x S1) S1).bind fun k S2 => if k then evCs cx es ρ S2 else .ok false S2
def evIt (cx : Ec) : Iter → Env → Store → R Wk
  | .seq e, ρ, S => (evE cx e ρ S).bind fun x S1 => match x with
    | .tup xs => .ok ⟨xs, [.tup xs]⟩ S1
    | x => match itemsL S1 x with
      | some xs => .ok ⟨xs, [x]⟩ S1
      | none => .fail
  | .rng1 e, ρ, S => (evE cx e ρ S).bind fun x S1 => match x with
    | .int j => if big62 j then .ok ⟨rngL 0 j.toNat, []⟩ S1 else .fail
    | _ => .fail
  | .rng2 a b, ρ, S => (evE cx a ρ S).bind fun x S1 => (evE cx b ρ S1).bind fun y S2 => match x, y with
    | .int i, .int j => if big62 i && big62 j then .ok ⟨rngL i (j - i).toNat, []⟩ S2 else .fail
    | _, _ => .fail
  | .enum e, ρ, S => (evE cx e ρ S).bind fun x S1 => match itemsL S1 x with
    | some xs => .ok ⟨enumL 0 xs, [x]⟩ S1
    | none => .fail
  | .zip a b, ρ, S => (evE cx a ρ S).bind fun x S1 => (evE cx b ρ S1).bind fun y S2 => match x, y with
    | .tup xs, .tup ys => .ok ⟨zipL xs ys, [.tup xs, .tup ys]⟩ S2
    | x, y => match itemsL S2 x, itemsL S2 y with
      | some xs, some ys => .ok ⟨zipL xs ys, [x, y]⟩ S2
      | _, _ => .fail
end

/-- how a statement ends -/
inductive O where
  | nx (ρ : Env) (S : Store)
  | rt (d : D) (S : Store)
  | bk (ρ : Env) (S : Store)
  | ct (ρ : Env) (S : Store)
  | exc (c : Nat) (fs : List (Nat × D)) (ρ : Env) (S : Store)
  | fail

def R.then {α : Type} (r : R α) (ρ : Env) (f : α → Store → O) : O := match r with
  | .ok a S => f a S
  | .exc c fs S => .exc c fs ρ S
  | .fail => .fail
def O.then (o : O) (f : Env → Store → O) : O := match o with
  | .nx ρ S => f ρ S
  | .rt d S => .rt d S
  | .bk ρ S => .bk ρ S
  | .ct ρ S => .ct ρ S
  | .exc c fs ρ S => .exc c fs ρ S
  | .fail => .fail

def forL (body : D → Env → Store → O) (lk : Store → Bool) : List D → Env → Store → O
  | [], ρ, S => .nx ρ S
  | x :: xs, ρ, S => match body x ρ S with
    | .nx ρ' S' => if lk S' then forL body lk xs ρ' S' else .fail
    | .ct ρ' S' => if lk S' then forL body lk xs ρ' S' else .fail
    | .bk ρ' S' => .nx ρ' S'
    | .rt d S' => .rt d S'
    | .exc c fs ρ' S' => .exc c fs ρ' S'
    | .fail => .fail

def whlL (test : Env → Store → R Bool) (body : Env → Store → O) : Nat → Env → Store → O
  | 0, _, _ => .fail
  | n + 1, ρ, S => match test ρ S with
    | .ok true S1 => match body ρ S1 with
      | .nx ρ' S' => whlL test body n ρ' S'
      | .ct ρ' S' => whlL test body n ρ' S'
      | .bk ρ' S' => .nx ρ' S'
      | .rt d S' => .rt d S'
      | .exc c fs ρ' S' => .exc c fs ρ' S'
      | .fail => .fail
    | .ok false S1 => .nx ρ S1
    | .exc c fs S1 => .exc c fs ρ S1
    | .fail => .fail

def evT (cx : Ec) (c : Ex) (ρ : Env) (S : Store) : R Bool := (evE cx c ρ S).bind fun x S1 => R.of (truD x S1) S1

/-- an attribute is stored -/
def attS (base : Nat) (x : D) (f : Nat) (v : D) (S : Store) : Option Store := match x with
  | .ref i => match S[i]? with
    | some (.ins c fs) => if fs.length < 900 then put base i (.ins c (fput f v fs)) v S else none
    | _ => none
  | _ => none

/-- an item is stored -/
def subS (base : Nat) (x k v : D) (S : Store) : Option Store := match x, k with
  | .ref i, .int n => match S[i]? with
    | some (.lst xs) => match ixOf xs.length n with
      | some j => put base i (.lst (xs.set j v)) v S
      | none => none
    | _ => none
  | _, _ => none

def taD (cx : Ec) (t : Ta) (v : D) (ρ : Env) (S : Store) : O := match t with
  | .nm i => .nx (ρ.set i (some v)) S
  | .tp is => match v with
    | .tup xs => if xs.length == is.length then .nx (setAll is xs ρ) S else .fail
    | _ => .fail
  | .sub a i => (evE cx a ρ S).then ρ fun x S1 => (evE cx i ρ S1).then ρ fun k S2 => match subS cx.base x k v S2 with
    | some S3 => .nx ρ S3
    | none => .fail
  | .att a f => (evE cx a ρ S).then ρ fun x S1 => match attS cx.base x f v S1 with
    | some S2 => .nx ρ S2
    | none => .fail

mutual
def evS (cx : Ec) : Sm → Env → Store → O
  | .nev, _, _ => .fail
  | .pas, ρ, S => .nx ρ S
  | .asg t e, ρ, S => (evE cx e ρ S).then ρ fun x S1 => taD cx t x ρ S1
  | .par is es, ρ, S => (evEs cx es ρ S).then ρ fun xs S1 => if xs.length == is.length then .nx (setAll is xs ρ) S1 else .fail
  | .ex e, ρ, S => (evE cx e ρ S).then ρ fun _ S1 => .nx ρ S1
  | .ret e, ρ, S => (evE cx e ρ S).then ρ fun x S1 => .rt x S1
  | .retN, _, S => .rt .non S
  | .iff c a b, ρ, S => (evT cx c ρ S).then ρ fun k S1 => if k then evSs cx a ρ S1 else evSs cx b ρ S1
  | .for t it b, ρ, S => (evIt cx it ρ S).then ρ fun w S1 => forL (fun x ρ' S' => match tgD t x ρ' S' with
      | some ρ2 => evSs cx b ρ2 S'
      | none => .fail) (lockAll w.lk S1) w.xs ρ S1
  | .whl c b, ρ, S => whlL (evT cx c) (evSs cx b) cx.fuel ρ S
  | .brk, ρ, S => .bk ρ S
  | .cnt, ρ, S => .ct ρ S
  | .rai _ _, _, _ => .fail
def evSs (cx : Ec) : Sms → Env → Store → O
  | .nil, ρ, S => .nx ρ S
  | .cons s r, ρ, S => (evS cx s ρ S).then fun ρ' S' => evSs cx r ρ' S'
end

/-! ### a program -/
structure Fn where
  np : Nat
  ns : Nat
  body : Sms

structure Prog where
  fns : List (Nat × Fn)
  meth : List ((Nat × Nat) × Nat)
  init : List (Nat × Nat)
  frz : List Nat

def nget {α : Type} (k : Nat) : List (Nat × α) → Option α
  | [] => none
  | (l, x) :: r => if l == k then some x else nget k r
def mget (a b : Nat) : List ((Nat × Nat) × Nat) → Option Nat
  | [] => none
  | ((c, d), x) :: r => if c == a && d == b then some x else mget a b r

def fin (n : Nat) (d : D) (S : Store) : R D := if closed n d then .ok d (S.take n) else .ok d S
def finO (n : Nat) : O → R D
  | .nx _ S => fin n .non S
  | .rt d S => fin n d S
  | .exc c fs _ S => if closedF n fs then .exc c fs (S.take n) else .exc c fs S
  | _ => .fail

def startE (ns : Nat) (vs : List D) : Env := vs.map some ++ List.replicate (ns - vs.length) none

def cxOf (P : Prog) (call : Nat → List D → Store → R D) (base : Nat) : Ec where
  call := call
  meth := fun c m => mget c m P.meth
  init := fun c => nget c P.init
  frz := fun c => P.frz.contains c
  base := base
  fuel := 1000000000000

def run (P : Prog) : Nat → Nat → List D → Store → R D
  | 0, _, _, _ => .fail
  | n + 1, f, vs, S => match nget f P.fns with
    | some F => if vs.length == F.np then finO S.length (evSs (cxOf P (run P n) S.length) F.body (startE F.ns vs) S) else .fail
    | none => .fail

end Ip

set_option Elab.async false
set_option linter.all false
set_option maxRecDepth 100000
set_option maxHeartbeats 1000000
set_option autoImplicit false
/-! IpC1: what a value of the evaluator stands for; readings made of evaluations. -/
namespace Ip
open PySem PySem.Spec PyProof.Rows L2

/-- the text that runs: what the numbers of classes and names stand for -/
structure Tx where
  P : Program
  w : World
  K : PySem.W.Frag
  mg : PySem.Str → Option Value
  base : Heap
  cA : Nat → Addr
  nm : Nat → PySem.Str

def toS (s : List Nat) : PySem.Str := ⟨s.toArray⟩

mutual
def toP : D → Option PyData
  | .non => some .none
  | .bl b => some (.bool b)
  | .int i => some (.int i)
  | .str s => some (.str (toS s))
  | .tup xs => (toPs xs).map .tuple
  | .fl xs => (toPs xs).map .list
  | _ => none
def toPs : List D → Option (List PyData)
  | [] => some []
  | x :: xs => match toP x, toPs xs with
    | some y, some ys => some (y :: ys)
    | _, _ => none
end

mutual
def RV (T : Tx) (G : Hp) (al : Nat → Addr) (n : Nat) : D → V → Prop
  | .non, v => v = .non
  | .bl b, v => v = .bl b
  | .int i, v => v = .int i
  | .str s, v => v = .str (toS s)
  | .tup xs, v => ∃ a vs, v = .ref a ∧ SqT T.K G a vs ∧ RVs T G al n xs vs
  | .fl xs, v => ∃ a vs, v = .ref a ∧ G a = some (.lst vs) ∧ RVs T G al n xs vs
  | .sc xs, v => ∃ a vs, v = .ref a ∧ SqL T.K G a vs ∧ RVs T G al n xs vs
  | .ins c fs, v => ∃ a dx fv, v = .ref a ∧ G a = some (.ins (T.cA c) dx fv) ∧ RFs T G al n fs fv
  | .ref i, v => i < n ∧ v = .ref (al i)
  | .cls c, v => v = .ref (T.cA c)
  | .rp d, v => ∃ p : PyData, toP d = some p ∧ v = .str p.shown
def RVs (T : Tx) (G : Hp) (al : Nat → Addr) (n : Nat) : List D → List V → Prop
  | [], vs => vs = []
  | x :: xs, vs => ∃ v r, vs = v :: r ∧ RV T G al n x v ∧ RVs T G al n xs r
def RFs (T : Tx) (G : Hp) (al : Nat → Addr) (n : Nat) : List (Nat × D) → List (PySem.Str × V) → Prop
  | [], vs => vs = []
  | (k, x) :: xs, vs => ∃ v r, vs = (T.nm k, v) :: r ∧ RV T G al n x v ∧ RFs T G al n xs r
end

/-- more is known: more is frozen, more cells; what was stands -/
structure Ext (G : Hp) (al : Nat → Addr) (n : Nat) (G' : Hp) (al' : Nat → Addr) (n' : Nat) : Prop where
  le : n ≤ n'
  G : ∀ a o, G a = some o → G' a = some o
  al : ∀ i, i < n → al' i = al i

theorem Ext.refl {G : Hp} {al : Nat → Addr} {n : Nat} : Ext G al n G al n := ⟨Nat.le_refl _, fun _ _ h => h, fun _ _ => rfl⟩
theorem Ext.trans {G G1 G2 : Hp} {al al1 al2 : Nat → Addr} {n n1 n2 : Nat} (a : Ext G al n G1 al1 n1) (b : Ext G1 al1 n1 G2 al2 n2) : Ext G al n G2 al2 n2 :=
  ⟨Nat.le_trans a.le b.le, fun c o h => b.G c o (a.G c o h), fun i h => (b.al i (Nat.lt_of_lt_of_le h a.le)).trans (a.al i h)⟩
theorem Ext.down {G G' : Hp} {al al' : Nat → Addr} {n m : Nat} (a : Ext G al n G' al' m) : Ext G al n G' al' n := ⟨Nat.le_refl _, a.G, a.al⟩

theorem sqT_up {K : PySem.W.Frag} {G G' : Hp} {a : Addr} {vs : List V} (h : SqT K G a vs) (e : ∀ a o, G a = some o → G' a = some o) : SqT K G' a vs := by
  rcases h with (h | ⟨o, h⟩) | h
  · exact .inl (.inl (e _ _ h))
  · exact .inl (.inr ⟨o, e _ _ h⟩)
  · exact .inr h
theorem sqL_up {K : PySem.W.Frag} {G G' : Hp} {a : Addr} {vs : List V} (h : SqL K G a vs) (e : ∀ a o, G a = some o → G' a = some o) : SqL K G' a vs := by
  rcases h with (h | ⟨o, h⟩) | h
  · exact .inl (.inl (e _ _ h))
  · exact .inl (.inr ⟨o, e _ _ h⟩)
  · exact .inr h

section
variable {T : Tx} {G G' : Hp} {al al' : Nat → Addr} {n n' : Nat}
mutual
theorem RV.up (e : Ext G al n G' al' n') : ∀ (d : D) (v : V), RV T G al n d v → RV T G' al' n' d v
  | .non, _, h => by simp only [RV] at h ⊢; exact h
  | .bl _, _, h => by simp only [RV] at h ⊢; exact h
  | .int _, _, h => by simp only [RV] at h ⊢; exact h
  | .str _, _, h => by simp only [RV] at h ⊢; exact h
  | .tup xs, _, h => by
    simp only [RV] at h ⊢
    obtain ⟨a, vs, h1, h2, h3⟩ := h
    exact ⟨a, vs, h1, sqT_up h2 e.G, RVs.up e xs vs h3⟩
  | .fl xs, _, h => by
    simp only [RV] at h ⊢
    obtain ⟨a, vs, h1, h2, h3⟩ := h
    exact ⟨a, vs, h1, e.G _ _ h2, RVs.up e xs vs h3⟩
  | .sc xs, _, h => by
    simp only [RV] at h ⊢
    obtain ⟨a, vs, h1, h2, h3⟩ := h
    exact ⟨a, vs, h1, sqL_up h2 e.G, RVs.up e xs vs h3⟩
  | .ins c fs, _, h => by
    simp only [RV] at h ⊢
    obtain ⟨a, dx, vs, h1, h2, h3⟩ := h
    exact ⟨a, dx, vs, h1, e.G _ _ h2, RFs.up e fs vs h3⟩
  | .ref i, _, h => by
    simp only [RV] at h ⊢
    exact ⟨Nat.lt_of_lt_of_le h.1 e.le, by rw [h.2, e.al i h.1]⟩
  | .cls _, _, h => by simp only [RV] at h ⊢; exact h
  | .rp _, _, h => by simp only [RV] at h ⊢; exact h
theorem RVs.up (e : Ext G al n G' al' n') : ∀ (ds : List D) (vs : List V), RVs T G al n ds vs → RVs T G' al' n' ds vs
  | [], _, h => by simp only [RVs] at h ⊢; exact h
  | x :: xs, _, h => by
    simp only [RVs] at h ⊢
    obtain ⟨v, r, h1, h2, h3⟩ := h
    exact ⟨v, r, h1, RV.up e x v h2, RVs.up e xs r h3⟩
theorem RFs.up (e : Ext G al n G' al' n') : ∀ (ds : List (Nat × D)) (vs : List (PySem.Str × V)), RFs T G al n ds vs → RFs T G' al' n' ds vs
  | [], _, h => by simp only [RFs] at h ⊢; exact h
  | (k, x) :: xs, _, h => by
    simp only [RFs] at h ⊢
    obtain ⟨v, r, h1, h2, h3⟩ := h
    exact ⟨v, r, h1, RV.up e x v h2, RFs.up e xs r h3⟩
end
-- what names cells below m alone is known by these
mutual
theorem RV.low {m : Nat} : ∀ (d : D) (v : V), RV T G al n d v → closed m d = true → RV T G al m d v
  | .non, _, h, _ => by simp only [RV] at h ⊢; exact h
  | .bl _, _, h, _ => by simp only [RV] at h ⊢; exact h
  | .int _, _, h, _ => by simp only [RV] at h ⊢; exact h
  | .str _, _, h, _ => by simp only [RV] at h ⊢; exact h
  | .tup xs, _, h, c => by
    simp only [RV] at h ⊢
    simp only [closed] at c
    obtain ⟨a, vs, h1, h2, h3⟩ := h
    exact ⟨a, vs, h1, h2, RVs.low xs vs h3 c⟩
  | .fl xs, _, h, c => by
    simp only [RV] at h ⊢
    simp only [closed] at c
    obtain ⟨a, vs, h1, h2, h3⟩ := h
    exact ⟨a, vs, h1, h2, RVs.low xs vs h3 c⟩
  | .sc xs, _, h, c => by
    simp only [RV] at h ⊢
    simp only [closed] at c
    obtain ⟨a, vs, h1, h2, h3⟩ := h
    exact ⟨a, vs, h1, h2, RVs.low xs vs h3 c⟩
  | .ins _ fs, _, h, c => by
    simp only [RV] at h ⊢
    simp only [closed] at c
    obtain ⟨a, dx, vs, h1, h2, h3⟩ := h
    exact ⟨a, dx, vs, h1, h2, RFs.low fs vs h3 c⟩
  | .ref i, _, h, c => by
    simp only [RV] at h ⊢
    simp only [closed] at c
    exact ⟨Nat.le_of_ble_eq_true c, h.2⟩
  | .cls _, _, h, _ => by simp only [RV] at h ⊢; exact h
  | .rp _, _, h, _ => by simp only [RV] at h ⊢; exact h
theorem RVs.low {m : Nat} : ∀ (ds : List D) (vs : List V), RVs T G al n ds vs → closedL m ds = true → RVs T G al m ds vs
  | [], _, h, _ => by simp only [RVs] at h ⊢; exact h
  | x :: xs, _, h, c => by
    simp only [RVs] at h ⊢
    simp only [closedL, Bool.and_eq_true] at c
    obtain ⟨v, r, h1, h2, h3⟩ := h
    exact ⟨v, r, h1, RV.low x v h2 c.1, RVs.low xs r h3 c.2⟩
theorem RFs.low {m : Nat} : ∀ (ds : List (Nat × D)) (vs : List (PySem.Str × V)), RFs T G al n ds vs → closedF m ds = true → RFs T G al m ds vs
  | [], _, h, _ => by simp only [RFs] at h ⊢; exact h
  | (k, x) :: xs, _, h, c => by
    simp only [RFs] at h ⊢
    simp only [closedF, Bool.and_eq_true] at c
    obtain ⟨v, r, h1, h2, h3⟩ := h
    exact ⟨v, r, h1, RV.low x v h2 c.1, RFs.low xs r h3 c.2⟩
end
-- a value names cells that are there
mutual
theorem RV.closed : ∀ (d : D) (v : V), RV T G al n d v → Ip.closed n d = true
  | .non, _, _ => rfl
  | .bl _, _, _ => rfl
  | .int _, _, _ => rfl
  | .str _, _, _ => rfl
  | .tup xs, _, h => by
    simp only [RV] at h
    obtain ⟨a, vs, h1, h2, h3⟩ := h
    simp only [Ip.closed]
    exact RVs.closed xs vs h3
  | .fl xs, _, h => by
    simp only [RV] at h
    obtain ⟨a, vs, h1, h2, h3⟩ := h
    simp only [Ip.closed]
    exact RVs.closed xs vs h3
  | .sc xs, _, h => by
    simp only [RV] at h
    obtain ⟨a, vs, h1, h2, h3⟩ := h
    simp only [Ip.closed]
    exact RVs.closed xs vs h3
  | .ins _ fs, _, h => by
    simp only [RV] at h
    obtain ⟨a, dx, vs, h1, h2, h3⟩ := h
    simp only [Ip.closed]
    exact RFs.closed fs vs h3
  | .ref i, _, h => by
    simp only [RV] at h
    simp only [Ip.closed]
    exact Nat.ble_eq_true_of_le h.1
  | .cls _, _, _ => rfl
  | .rp _, _, _ => rfl
theorem RVs.closed : ∀ (ds : List D) (vs : List V), RVs T G al n ds vs → closedL n ds = true
  | [], _, _ => rfl
  | x :: xs, _, h => by
    simp only [RVs] at h
    obtain ⟨v, r, h1, h2, h3⟩ := h
    simp only [closedL, Bool.and_eq_true]
    exact ⟨RV.closed x v h2, RVs.closed xs r h3⟩
theorem RFs.closed : ∀ (ds : List (Nat × D)) (vs : List (PySem.Str × V)), RFs T G al n ds vs → closedF n ds = true
  | [], _, _ => rfl
  | (k, x) :: xs, _, h => by
    simp only [RFs] at h
    obtain ⟨v, r, h1, h2, h3⟩ := h
    simp only [closedF, Bool.and_eq_true]
    exact ⟨RV.closed x v h2, RFs.closed xs r h3⟩
end
end

mutual
theorem closed_mono {n m : Nat} (h : n ≤ m) : ∀ d : D, closed n d = true → closed m d = true
  | .non, _ => rfl
  | .bl _, _ => rfl
  | .int _, _ => rfl
  | .str _, _ => rfl
  | .tup xs, c => by simp only [closed] at c ⊢; exact closedL_mono h xs c
  | .fl xs, c => by simp only [closed] at c ⊢; exact closedL_mono h xs c
  | .sc xs, c => by simp only [closed] at c ⊢; exact closedL_mono h xs c
  | .ins _ fs, c => by simp only [closed] at c ⊢; exact closedF_mono h fs c
  | .ref i, c => by
    simp only [closed] at c ⊢
    exact Nat.ble_eq_true_of_le (Nat.lt_of_lt_of_le (Nat.le_of_ble_eq_true c) h)
  | .cls _, _ => rfl
  | .rp _, _ => rfl
theorem closedL_mono {n m : Nat} (h : n ≤ m) : ∀ ds : List D, closedL n ds = true → closedL m ds = true
  | [], _ => rfl
  | x :: xs, c => by
    simp only [closedL, Bool.and_eq_true] at c ⊢
    exact ⟨closed_mono h x c.1, closedL_mono h xs c.2⟩
theorem closedF_mono {n m : Nat} (h : n ≤ m) : ∀ ds : List (Nat × D), closedF n ds = true → closedF m ds = true
  | [], _ => rfl
  | (k, x) :: xs, c => by
    simp only [closedF, Bool.and_eq_true] at c ⊢
    exact ⟨closed_mono h x c.1, closedF_mono h xs c.2⟩
end

/-! ### cells -/
def closedC (n : Nat) : Cell → Bool
  | .lst xs => closedL n xs
  | .ins _ fs => closedF n fs
  | .dic kvs => kvs.all fun p => closed n p.1 && closed n p.2

/-- a key of a dict -/
def RK : D → Key → Prop
  | .int i, .inl j => i = j
  | .str s, .inr x => x = toS s
  | _, _ => False
def RC (T : Tx) (G : Hp) (al : Nat → Addr) (n : Nat) : Cell → HO → Prop
  | .lst xs, o => ∃ vs, o = .lst vs ∧ RVs T G al n xs vs
  | .ins c fs, o => ∃ dx fv, o = .ins (T.cA c) dx fv ∧ RFs T G al n fs fv
  | .dic kvs, o => ∃ kv : List (Key × V), o = .dK kv ∧ Paired (fun (p : D × D) (q : Key × V) => RK p.1 q.1 ∧ RV T G al n p.2 q.2) kvs kv

section
variable {T : Tx} {G G' : Hp} {al al' : Nat → Addr} {n n' : Nat}
theorem RC.up (e : Ext G al n G' al' n') {c : Cell} {o : HO} (h : RC T G al n c o) : RC T G' al' n' c o := by
  cases c with
  | lst xs =>
    obtain ⟨vs, h1, h2⟩ := h
    exact ⟨vs, h1, RVs.up e xs vs h2⟩
  | ins k fs =>
    obtain ⟨dx, fv, h1, h2⟩ := h
    exact ⟨dx, fv, h1, RFs.up e fs fv h2⟩
  | dic kvs =>
    obtain ⟨kv, h1, h2⟩ := h
    exact ⟨kv, h1, Paired.mapP h2 fun p q z => ⟨z.1, RV.up e _ _ z.2⟩⟩
end

/-- the base numbers that frames lean on -/
abbrev Bas := Nat → Prop

/-- the cells, the frozen part and the heap -/
structure Sim (T : Tx) (B : Bas) (F G : Hp) (al : Nat → Addr) (S : Store) (H : Hp) : Prop where
  le : ∀ a o, G a = some o → H a = some o
  inj : ∀ i j, i < S.length → j < S.length → al i = al j → i = j
  nG : ∀ i, i < S.length → G (al i) = none
  cell : ∀ i c, S[i]? = some c → ∃ o, H (al i) = some o ∧ RC T G al S.length c o
  bas : ∀ n, B n → n ≤ S.length ∧ ∀ i c, i < n → S[i]? = some c → closedC n c = true
  fo : ∀ a o, F a = some o → H a = some o ∧ G a = none
  fc : ∀ i, i < S.length → F (al i) = none

/-- the frame's names -/
def RE (T : Tx) (G : Hp) (al : Nat → Addr) (n : Nat) (ρ : Env) (σ : L2.St) : Prop :=
  ρ.length = σ.length ∧ ∀ (i : Nat) (d : D), ρ[i]? = some (some d) → ∃ v, σ[i]? = some (some v) ∧ RV T G al n d v
theorem RE.up {T : Tx} {G G' : Hp} {al al' : Nat → Addr} {n n' : Nat} (e : Ext G al n G' al' n') {ρ : Env} {σ : L2.St} (h : RE T G al n ρ σ) : RE T G' al' n' ρ σ :=
  ⟨h.1, fun i d q => let ⟨v, h1, h2⟩ := h.2 i d q; ⟨v, h1, RV.up e _ _ h2⟩⟩

/-! ### readings -/
/-- what stands behind an evaluation -/
def Post {α β : Type} (T : Tx) (B : Bas) (F : Hp) (Rr : Hp → (Nat → Addr) → Nat → α → β → Prop) (G : Hp) (al : Nat → Addr) (n : Nat) (r : R α) (Q : β → Hp → Prop) : Prop :=
  match r with
  | .ok d S' => ∀ G' al' H' v, Ext G al n G' al' S'.length → Sim T B F G' al' S' H' → Rr G' al' S'.length d v → Q v H'
  | _ => False

theorem Post.mono {α β : Type} {T : Tx} {B : Bas} {F : Hp} {Rr : Hp → (Nat → Addr) → Nat → α → β → Prop} {G : Hp} {al : Nat → Addr} {n : Nat} {r : R α} {Q Q' : β → Hp → Prop} (h : Post T B F Rr G al n r Q)
    (k : ∀ v H, Q v H → Q' v H) : Post T B F Rr G al n r Q' := by
  cases r with
  | ok d S' => exact fun G' al' H' v e s q => k _ _ (h G' al' H' v e s q)
  | exc _ _ _ => exact h
  | fail => exact h
theorem Post.up {α β : Type} {T : Tx} {B : Bas} {F : Hp} {Rr : Hp → (Nat → Addr) → Nat → α → β → Prop} {G G1 : Hp} {al al1 : Nat → Addr} {n n1 : Nat} {r : R α} {Q : β → Hp → Prop} (h : Post T B F Rr G al n r Q)
    (e : Ext G al n G1 al1 n1) : Post T B F Rr G1 al1 n1 r Q := by
  cases r with
  | ok d S' => exact fun G' al' H' v e' s q => h G' al' H' v (e.trans e') s q
  | exc _ _ _ => exact h
  | fail => exact h
/-- two evaluations, one behind the other -/
theorem Post.bind {α β γ δ : Type} {T : Tx} {B : Bas} {F : Hp} {Rr : Hp → (Nat → Addr) → Nat → α → β → Prop} {Rs : Hp → (Nat → Addr) → Nat → γ → δ → Prop} {G : Hp} {al : Nat → Addr} {n : Nat} {r : R α} {k : α → Store → R γ}
    {Q : δ → Hp → Prop} {Q1 : β → Hp → Prop} (h : Post T B F Rs G al n (r.bind k) Q)
    (f : ∀ d S1 G1 al1 H1 v, Ext G al n G1 al1 S1.length → Sim T B F G1 al1 S1 H1 → Rr G1 al1 S1.length d v → Post T B F Rs G1 al1 S1.length (k d S1) Q → Q1 v H1) : Post T B F Rr G al n r Q1 := by
  cases r with
  | ok d S' => exact fun G' al' H' v e s q => f d S' G' al' H' v e s q (Post.up (show Post T B F Rs G al n (k d S') Q from h) e)
  | exc _ _ _ => exact h
  | fail => exact h
theorem Post.ok {α β : Type} {T : Tx} {B : Bas} {F : Hp} {Rr : Hp → (Nat → Addr) → Nat → α → β → Prop} {G : Hp} {al : Nat → Addr} {d : α} {S : Store} {Q : β → Hp → Prop} {H : Hp} {v : β} (h : Post T B F Rr G al S.length (.ok d S) Q)
    (s : Sim T B F G al S H) (q : Rr G al S.length d v) : Q v H := h G al H v Ext.refl s q

/-- the reading of an evaluation -/
def rd {α β : Type} (T : Tx) (B : Bas) (Rr : Hp → (Nat → Addr) → Nat → α → β → Prop) (f : Env → Store → R α) : L2.St → Hp → (β → Hp → Prop) → Prop := fun σ H Q =>
  ∃ (F G : Hp) (al : Nat → Addr) (ρ : Env) (S : Store), Sim T B F G al S H ∧ RE T G al S.length ρ σ ∧ Post T B F Rr G al S.length (f ρ S) Q

abbrev rdE (T : Tx) (B : Bas) (f : Env → Store → R D) : TE := rd T B (RV T) f
abbrev rdA (T : Tx) (B : Bas) (f : Env → Store → R (List D)) : TA := rd T B (RVs T) f
/-- a bool is itself -/
def RB (_ : Hp) (_ : Nat → Addr) (_ : Nat) (b c : Bool) : Prop := c = b
abbrev rdT (T : Tx) (B : Bas) (f : Env → Store → R Bool) : TT := rd T B RB f

section
variable {T : Tx} {B : Bas}
/-- a part, and what comes behind it -/
theorem rd_bind {α β γ δ : Type} {Rr : Hp → (Nat → Addr) → Nat → α → β → Prop} {Rs : Hp → (Nat → Addr) → Nat → γ → δ → Prop} {f : Env → Store → R α} {k : Env → α → Store → R γ} {σ : L2.St} {H : Hp} {Q : δ → Hp → Prop} {Q1 : β → Hp → Prop}
    (h : rd T B Rs (fun ρ S => (f ρ S).bind (k ρ)) σ H Q)
    (g : ∀ F G al ρ S d v H1, Sim T B F G al S H1 → RE T G al S.length ρ σ → Rr G al S.length d v → Post T B F Rs G al S.length (k ρ d S) Q → Q1 v H1) : rd T B Rr f σ H Q1 := by
  obtain ⟨F, G, al, ρ, S, s, e, p⟩ := h
  exact ⟨F, G, al, ρ, S, s, e, Post.bind p fun d S1 G1 al1 H1 v x s1 r1 p1 => g F G1 al1 ρ S1 d v H1 s1 (e.up x) r1 p1⟩
theorem rd_of {F : Hp} {α β : Type} {Rr : Hp → (Nat → Addr) → Nat → α → β → Prop} {f : Env → Store → R α} {σ : L2.St} {H : Hp} {Q : β → Hp → Prop} {G : Hp} {al : Nat → Addr} {ρ : Env} {S : Store}
    (s : Sim T B F G al S H) (e : RE T G al S.length ρ σ) (p : Post T B F Rr G al S.length (f ρ S) Q) : rd T B Rr f σ H Q := ⟨F, G, al, ρ, S, s, e, p⟩
end

theorem pe_imp {X : Cx} {e : Expr} {t t' : TE} (h : PE X e t) (k : ∀ σ H Q, t' σ H Q → t σ H Q) : PE X e t' := ⟨fun pins s σ H Q I q => h.run pins s σ H Q I (k σ H Q q)⟩
theorem pt_imp {X : Cx} {e : Expr} {t t' : TT} (h : PT X e t) (k : ∀ σ H Q, t' σ H Q → t σ H Q) : PT X e t' := ⟨fun pins s σ H Q I q => h.run pins s σ H Q I (k σ H Q q)⟩
theorem pw_imp {X : Cx} {e : Expr} {t t' : TT} (h : PW X e t) (k : ∀ σ H Q, t' σ H Q → t σ H Q) : PW X e t' := ⟨fun wh pins s σ H Q I q => h.run wh pins s σ H Q I (k σ H Q q)⟩
theorem pa_imp {X : Cx} {e : List Expr} {t t' : TA} (h : PA X e t) (k : ∀ σ H Q, t' σ H Q → t σ H Q) : PA X e t' := ⟨fun pos pins s σ H Q I q => h.run pos pins s σ H Q I (k σ H Q q)⟩
theorem ps_imp {X : Cx} {e : Stmt} {t t' : TS} (h : PS X e t) (k : ∀ D σ H, t' D σ H → t D σ H) : PS X e t' := ⟨fun pins s σ H D I q => h.run pins s σ H D I (k D σ H q)⟩
theorem pss_imp {X : Cx} {e : List Stmt} {t t' : TS} (h : PSs X e t) (k : ∀ D σ H, t' D σ H → t D σ H) : PSs X e t' := ⟨fun pins s σ H D I q => h.run pins s σ H D I (k D σ H q)⟩

/-! ### new things -/
section
variable {T : Tx} {B : Bas} {F : Hp} {G : Hp} {al : Nat → Addr} {S : Store} {H : Hp}
theorem Sim.Gnone (s : Sim T B F G al S H) {p : Addr} (hp : H p = none) : G p = none := by
  cases q : G p with
  | none => rfl
  | some o => rw [s.le p o q] at hp; cases hp
theorem Sim.alne (s : Sim T B F G al S H) {p : Addr} (hp : H p = none) {i : Nat} (hi : i < S.length) : al i ≠ p := by
  intro e
  obtain ⟨c, hc⟩ : ∃ c, S[i]? = some c := ⟨S[i], by simp [hi]⟩
  obtain ⟨o, ho, _⟩ := s.cell i c hc
  rw [e, hp] at ho
  cases ho
/-- a new frozen object -/
theorem Sim.ice (s : Sim T B F G al S H) {p : Addr} (hp : H p = none) (o : HO) : Ext G al S.length (upd G p o) al S.length ∧ Sim T B F (upd G p o) al S (upd H p o) := by
  have e : Ext G al S.length (upd G p o) al S.length := ⟨Nat.le_refl _, fun a u q => by rw [upd_ne (ne_of_none q (s.Gnone hp))]; exact q, fun _ _ => rfl⟩
  refine ⟨e, ⟨fun a u q => ?_, s.inj, fun i hi => ?_, fun i c hc => ?_, s.bas, fun a u q => ?_, s.fc⟩⟩
  · by_cases ha : a = p
    · subst ha; rw [upd_same] at q ⊢; exact q
    · rw [upd_ne ha] at q ⊢; exact s.le a u q
  · rw [upd_ne (s.alne hp hi)]; exact s.nG i hi
  · obtain ⟨o', h1, h2⟩ := s.cell i c hc
    exact ⟨o', by rw [upd_ne (ne_of_none h1 hp)]; exact h1, h2.up e⟩
  · obtain ⟨h1, h2⟩ := s.fo a u q
    rw [upd_ne (ne_of_none h1 hp), upd_ne (ne_of_none h1 hp)]
    exact ⟨h1, h2⟩
/-- a new cell -/
theorem Sim.cellNew (s : Sim T B F G al S H) {p : Addr} (hp : H p = none) {c : Cell} {o : HO} (r : RC T G al S.length c o) :
    ∃ al', al' S.length = p ∧ Ext G al S.length G al' (S ++ [c]).length ∧ Sim T B F G al' (S ++ [c]) (upd H p o) := by
  refine ⟨fun i => if i = S.length then p else al i, by simp, ?_⟩
  have e : Ext G al S.length G (fun i => if i = S.length then p else al i) (S ++ [c]).length := ⟨by simp, fun _ _ q => q, fun i hi => by simp [Nat.ne_of_lt hi]⟩
  refine ⟨e, ⟨fun a u q => ?_, fun i j hi hj q => ?_, fun i hi => ?_, fun i d hd => ?_, fun n hn => ?_, fun a u q => ?_, fun i hi => ?_⟩⟩
  · rw [upd_ne (fun z => by rw [z, s.Gnone hp] at q; cases q)]
    exact s.le a u q
  · simp only [List.length_append, List.length_singleton] at hi hj
    by_cases h1 : i = S.length <;> by_cases h2 : j = S.length
    · omega
    · simp only [h1, h2, if_true, if_false] at q
      exact absurd q.symm (s.alne hp (by omega))
    · simp only [h1, h2, if_true, if_false] at q
      exact absurd q (s.alne hp (by omega))
    · simp only [h1, h2, if_false] at q
      exact s.inj i j (by omega) (by omega) q
  · simp only [List.length_append, List.length_singleton] at hi
    by_cases h1 : i = S.length
    · simp only [h1, if_true]; exact s.Gnone hp
    · simp only [h1, if_false]; exact s.nG i (by omega)
  · by_cases h1 : i = S.length
    · subst h1
      simp only [List.getElem?_append_right (Nat.le_refl _), Nat.sub_self, List.getElem?_cons_zero, Option.some.injEq] at hd
      subst hd
      exact ⟨o, by simp [upd_same], r.up e⟩
    · have hi : i < S.length := by
        have := (List.getElem?_eq_some_iff.mp hd).1
        simp only [List.length_append, List.length_singleton] at this
        omega
      rw [List.getElem?_append_left hi] at hd
      obtain ⟨o', q1, q2⟩ := s.cell i d hd
      exact ⟨o', by simp only [h1, if_false]; rw [upd_ne (ne_of_none q1 hp)]; exact q1, q2.up e⟩
  · obtain ⟨h1, h2⟩ := s.bas n hn
    refine ⟨by simp only [List.length_append, List.length_singleton]; omega, fun i d hi hd => ?_⟩
    rw [List.getElem?_append_left (by omega)] at hd
    exact h2 i d hi hd
  · obtain ⟨h1, h2⟩ := s.fo a u q
    rw [upd_ne (ne_of_none h1 hp)]
    exact ⟨h1, h2⟩
  · simp only [List.length_append, List.length_singleton] at hi
    by_cases h1 : i = S.length
    · simp only [h1, if_true]
      cases q : F p with
      | none => rfl
      | some o => rw [(s.fo p o q).1] at hp; cases hp
    · simp only [h1, if_false]; exact s.fc i (by omega)
/-- a cell is written -/
theorem Sim.put (s : Sim T B F G al S H) {i : Nat} {c : Cell} {o : HO} (hi : i < S.length) (r : RC T G al S.length c o) (hb : ∀ n, B n → i < n → closedC n c = true) : Sim T B F G al (S.set i c) (upd H (al i) o) := by
  have hl : (S.set i c).length = S.length := List.length_set
  refine ⟨fun a u q => ?_, fun j k hj hk q => s.inj j k (hl ▸ hj) (hl ▸ hk) q, fun j hj => s.nG j (hl ▸ hj), fun j d hd => ?_, fun n hn => ?_, fun a u q => ?_, fun j hj => s.fc j (hl ▸ hj)⟩
  · rw [upd_ne (fun z => by rw [z, s.nG i hi] at q; cases q)]
    exact s.le a u q
  · rw [hl]
    by_cases h1 : j = i
    · subst h1
      rw [List.getElem?_set_self hi] at hd
      cases hd
      exact ⟨o, upd_same, r⟩
    · rw [List.getElem?_set_ne (Ne.symm h1)] at hd
      obtain ⟨o', q1, q2⟩ := s.cell j d hd
      have hj : j < S.length := (List.getElem?_eq_some_iff.mp hd).1
      exact ⟨o', by rw [upd_ne (fun z => h1 (s.inj j i hj hi z))]; exact q1, q2⟩
  · obtain ⟨h1, h2⟩ := s.bas n hn
    refine ⟨by rw [hl]; exact h1, fun j d hj hd => ?_⟩
    by_cases e : j = i
    · subst e
      rw [List.getElem?_set_self hi] at hd
      cases hd
      exact hb n hn hj
    · rw [List.getElem?_set_ne (Ne.symm e)] at hd
      exact h2 j d hj hd
  · obtain ⟨h1, h2⟩ := s.fo a u q
    rw [upd_ne (fun z => by rw [z, s.fc i hi] at q; cases q)]
    exact ⟨h1, h2⟩
/-- the youngest cells are forgotten -/
theorem Sim.take (s : Sim T B F G al S H) {n : Nat} (hB : B n) (hmax : ∀ m, B m → m ≤ n) : Sim T B F G al (S.take n) H ∧ (S.take n).length = n := by
  obtain ⟨h1, h2⟩ := s.bas n hB
  have hl : (S.take n).length = n := by rw [List.length_take]; omega
  refine ⟨⟨s.le, fun i j hi hj => s.inj i j (by omega) (by omega), fun i hi => s.nG i (by omega), fun i c hc => ?_, fun m hm => ?_, s.fo, fun i hi => s.fc i (by omega)⟩, hl⟩
  · have hi : i < n := by have := (List.getElem?_eq_some_iff.mp hc).1; omega
    rw [List.getElem?_take_of_lt hi] at hc
    obtain ⟨o, q1, q2⟩ := s.cell i c hc
    refine ⟨o, q1, ?_⟩
    have q3 := h2 i c hi hc
    rw [hl]
    cases c with
    | lst xs =>
      obtain ⟨vs, z1, z2⟩ := q2
      exact ⟨vs, z1, RVs.low xs vs z2 q3⟩
    | ins k fs =>
      obtain ⟨dx, fv, z1, z2⟩ := q2
      exact ⟨dx, fv, z1, RFs.low fs fv z2 q3⟩
    | dic kvs =>
      obtain ⟨kv, z1, z2⟩ := q2
      refine ⟨kv, z1, ?_⟩
      simp only [closedC] at q3
      clear z1 q1 hc
      induction z2 with
      | nil => exact .nil
      | cons p r ih =>
        simp only [List.all_cons, Bool.and_eq_true] at q3
        exact .cons ⟨p.1, RV.low _ _ p.2 q3.1.2⟩ (ih q3.2)
  · have hmn := hmax m hm
    obtain ⟨z1, z2⟩ := s.bas m hm
    refine ⟨by omega, fun i c hi hc => ?_⟩
    rw [List.getElem?_take_of_lt (by omega)] at hc
    exact z2 i c hi hc
end
end Ip

set_option Elab.async false
set_option linter.all false
set_option maxRecDepth 100000
set_option maxHeartbeats 1000000
set_option autoImplicit false
/-! IpC2: operators, built-ins: what they give is what the machine's rules give. -/
namespace Ip
open PySem PySem.Spec PyProof.Rows L2

theorem small_line {n : Nat} (h : n ≤ 100000) : n ≤ sizeLine := by rw [sizeLine_eq]; omega
theorem small_line' {n : Nat} (h : n < 100000) : n < sizeLine := by rw [sizeLine_eq]; omega

section
variable {T : Tx} {G : Hp} {al : Nat → Addr} {n : Nat}
theorem RVs.len : ∀ {ds : List D} {vs : List V}, RVs T G al n ds vs → ds.length = vs.length
  | [], _, h => by simp only [RVs] at h; subst h; rfl
  | x :: xs, _, h => by
    simp only [RVs] at h
    obtain ⟨v, r, rfl, h2, h3⟩ := h
    simp only [List.length_cons, RVs.len h3]
theorem RVs.get : ∀ {ds : List D} {vs : List V} {i : Nat} {d : D}, RVs T G al n ds vs → ds[i]? = some d → ∃ v, vs[i]? = some v ∧ RV T G al n d v
  | [], _, _, _, _, e => by simp at e
  | x :: xs, _, 0, d, h, e => by
    simp only [RVs] at h
    obtain ⟨v, r, rfl, h2, h3⟩ := h
    simp at e
    subst e
    exact ⟨v, rfl, h2⟩
  | x :: xs, _, i + 1, d, h, e => by
    simp only [RVs] at h
    obtain ⟨v, r, rfl, h2, h3⟩ := h
    simp at e
    obtain ⟨u, q1, q2⟩ := RVs.get h3 e
    exact ⟨u, by simpa using q1, q2⟩
theorem RVs.cons {d : D} {ds : List D} {v : V} {vs : List V} (h : RV T G al n d v) (hs : RVs T G al n ds vs) : RVs T G al n (d :: ds) (v :: vs) := by
  simp only [RVs]
  exact ⟨v, vs, rfl, h, hs⟩
theorem RVs.nil : RVs T G al n [] [] := by simp only [RVs]
theorem RVs.app : ∀ {ds es : List D} {vs ws : List V}, RVs T G al n ds vs → RVs T G al n es ws → RVs T G al n (ds ++ es) (vs ++ ws)
  | [], _, _, _, h, k => by simp only [RVs] at h; subst h; exact k
  | x :: xs, _, _, _, h, k => by
    simp only [RVs] at h
    obtain ⟨v, r, rfl, h2, h3⟩ := h
    exact RVs.cons h2 (RVs.app h3 k)
theorem RVs.drop : ∀ {ds : List D} {vs : List V} (i : Nat), RVs T G al n ds vs → RVs T G al n (ds.drop i) (vs.drop i)
  | _, _, 0, h => h
  | [], _, i + 1, h => by simp only [RVs] at h; subst h; exact RVs.nil
  | x :: xs, _, i + 1, h => by
    simp only [RVs] at h
    obtain ⟨v, r, rfl, h2, h3⟩ := h
    exact RVs.drop i h3
theorem RVs.take : ∀ {ds : List D} {vs : List V} (i : Nat), RVs T G al n ds vs → RVs T G al n (ds.take i) (vs.take i)
  | _, _, 0, h => RVs.nil
  | [], _, i + 1, h => by simp only [RVs] at h; subst h; exact RVs.nil
  | x :: xs, _, i + 1, h => by
    simp only [RVs] at h
    obtain ⟨v, r, rfl, h2, h3⟩ := h
    exact RVs.cons h2 (RVs.take i h3)
theorem RVs.set {d : D} {v : V} (k : RV T G al n d v) : ∀ {ds : List D} {vs : List V} (i : Nat), RVs T G al n ds vs → RVs T G al n (ds.set i d) (vs.set i v)
  | [], _, i, h => by simp only [RVs] at h; subst h; exact RVs.nil
  | x :: xs, _, 0, h => by
    simp only [RVs] at h
    obtain ⟨w, r, rfl, h2, h3⟩ := h
    exact RVs.cons k h3
  | x :: xs, _, i + 1, h => by
    simp only [RVs] at h
    obtain ⟨w, r, rfl, h2, h3⟩ := h
    exact RVs.cons h2 (RVs.set k i h3)
theorem RVs.rev : ∀ {ds : List D} {vs : List V}, RVs T G al n ds vs → RVs T G al n ds.reverse vs.reverse
  | [], _, h => by simp only [RVs] at h; subst h; exact RVs.nil
  | x :: xs, _, h => by
    simp only [RVs] at h
    obtain ⟨v, r, rfl, h2, h3⟩ := h
    rw [List.reverse_cons, List.reverse_cons]
    exact RVs.app (RVs.rev h3) (RVs.cons h2 RVs.nil)
theorem RVs.dropLast {ds : List D} {vs : List V} (h : RVs T G al n ds vs) : RVs T G al n ds.dropLast vs.dropLast := by
  rw [List.dropLast_eq_take, List.dropLast_eq_take, ← h.len]
  exact h.take _
theorem RVs.erase {ds : List D} {vs : List V} (i : Nat) (h : RVs T G al n ds vs) : RVs T G al n (ds.eraseIdx i) (vs.eraseIdx i) := by
  rw [List.eraseIdx_eq_take_drop_succ, List.eraseIdx_eq_take_drop_succ]
  exact RVs.app (h.take _) (h.drop _)
theorem RVs.rep {ds : List D} {vs : List V} (h : RVs T G al n ds vs) : ∀ k : Nat, RVs T G al n (List.replicate k ds).flatten (List.replicate k vs).flatten
  | 0 => RVs.nil
  | k + 1 => by
    rw [List.replicate_succ, List.replicate_succ, List.flatten_cons, List.flatten_cons]
    exact RVs.app h (RVs.rep h k)
theorem RVs.ints : ∀ {ns : List Int} {vs : List V}, RVs T G al n (ns.map D.int) vs → vs = ns.map V.int
  | [], _, h => by simp only [List.map_nil, RVs] at h; exact h
  | i :: r, _, h => by
    simp only [List.map_cons, RVs, RV] at h
    obtain ⟨v, s, rfl, rfl, h3⟩ := h
    rw [RVs.ints h3, List.map_cons]
theorem RVs.bls : ∀ {ns : List Bool} {vs : List V}, RVs T G al n (ns.map D.bl) vs → vs = ns.map V.bl
  | [], _, h => by simp only [List.map_nil, RVs] at h; exact h
  | i :: r, _, h => by
    simp only [List.map_cons, RVs, RV] at h
    obtain ⟨v, s, rfl, rfl, h3⟩ := h
    rw [RVs.bls h3, List.map_cons]
theorem RVs.of_ints : ∀ ns : List Int, RVs T G al n (ns.map D.int) (ns.map V.int)
  | [] => RVs.nil
  | i :: r => RVs.cons (by simp only [RV]) (RVs.of_ints r)
end

theorem mapO_cons {α β : Type} {f : α → Option β} {x : α} {xs : List α} {ys : List β} (h : mapO f (x :: xs) = some ys) : ∃ y r, ys = y :: r ∧ f x = some y ∧ mapO f xs = some r := by
  unfold mapO at h
  cases q : f x with
  | none => rw [q] at h; cases h
  | some y =>
    rw [q] at h
    dsimp only at h
    cases q2 : mapO f xs with
    | none => rw [q2] at h; cases h
    | some r =>
      rw [q2] at h
      cases h
      exact ⟨y, r, rfl, rfl, rfl⟩
theorem ints_of : ∀ {xs : List D} {ns : List Int}, intsOf xs = some ns → xs = ns.map D.int
  | [], ns, h => by
    cases h
    rfl
  | x :: xs, ns, h => by
    obtain ⟨i, r, rfl, h1, h2⟩ := mapO_cons h
    cases x with
    | int j =>
      cases h1
      rw [ints_of (xs := xs) h2, List.map_cons]
    | _ => cases h1
theorem bls_of : ∀ {xs : List D} {ns : List Bool}, blsOf xs = some ns → xs = ns.map D.bl
  | [], ns, h => by
    cases h
    rfl
  | x :: xs, ns, h => by
    obtain ⟨i, r, rfl, h1, h2⟩ := mapO_cons h
    cases x with
    | bl j =>
      cases h1
      rw [bls_of (xs := xs) h2, List.map_cons]
    | _ => cases h1

section
variable {T : Tx} {B : Bas} {F : Hp} {G : Hp} {al : Nat → Addr} {S : Store} {H : Hp}
theorem itemsW_ok (s : Sim T B F G al S H) {x : D} {v : V} (r : RV T G al S.length x v) {xs : List D} (h : itemsW S x = some xs) : ∃ a vs, v = .ref a ∧ H a = some (.lst vs) ∧ RVs T G al S.length xs vs := by
  cases x with
  | fl ys =>
    cases h
    simp only [RV] at r
    obtain ⟨a, vs, h1, h2, h3⟩ := r
    exact ⟨a, vs, h1, s.le _ _ h2, h3⟩
  | ref i =>
    simp only [RV] at r
    unfold itemsW at h
    dsimp only at h
    cases q : S[i]? with
    | none => rw [q] at h; cases h
    | some c =>
      rw [q] at h
      cases c with
      | lst ys =>
        cases h
        obtain ⟨o, h1, vs, rfl, h3⟩ := s.cell i _ q
        exact ⟨_, vs, r.2, h1, h3⟩
      | ins _ _ => cases h
      | dic _ => cases h
  | _ => cases h
theorem itemsL_ok (s : Sim T B F G al S H) {x : D} {v : V} (r : RV T G al S.length x v) {xs : List D} (h : itemsL S x = some xs) : ∃ a vs, v = .ref a ∧ SqL T.K H a vs ∧ RVs T G al S.length xs vs := by
  cases x with
  | fl ys =>
    obtain ⟨a, vs, h1, h2, h3⟩ := itemsW_ok s r (xs := xs) h
    exact ⟨a, vs, h1, SqL.of h2, h3⟩
  | sc ys =>
    cases h
    simp only [RV] at r
    obtain ⟨a, vs, h1, h2, h3⟩ := r
    exact ⟨a, vs, h1, sqL_up h2 s.le, h3⟩
  | ref i =>
    obtain ⟨a, vs, h1, h2, h3⟩ := itemsW_ok s r (xs := xs) h
    exact ⟨a, vs, h1, SqL.of h2, h3⟩
  | _ => cases h
theorem items_ok (s : Sim T B F G al S H) {x : D} {v : V} (r : RV T G al S.length x v) {xs : List D} (h : items S x = some xs) : ∃ a vs, v = .ref a ∧ (SqL T.K H a vs ∨ SqT T.K H a vs) ∧ RVs T G al S.length xs vs := by
  cases x with
  | tup ys =>
    cases h
    simp only [RV] at r
    obtain ⟨a, vs, h1, h2, h3⟩ := r
    exact ⟨a, vs, h1, .inr (sqT_up h2 s.le), h3⟩
  | fl ys =>
    obtain ⟨a, vs, h1, h2, h3⟩ := itemsL_ok s r (xs := xs) h
    exact ⟨a, vs, h1, .inl h2, h3⟩
  | sc ys =>
    obtain ⟨a, vs, h1, h2, h3⟩ := itemsL_ok s r (xs := xs) h
    exact ⟨a, vs, h1, .inl h2, h3⟩
  | ref i =>
    obtain ⟨a, vs, h1, h2, h3⟩ := itemsL_ok s r (xs := xs) h
    exact ⟨a, vs, h1, .inl h2, h3⟩
  | _ => cases h

/-- a new frozen list, tuple is given out -/
theorem Post.newF (s : Sim T B F G al S H) {xs : List D} {vs : List V} {Q : VK} (h : Post T B F (RV T) G al S.length (.ok (.fl xs) S) Q) (r : RVs T G al S.length xs vs) {p : Addr} (hp : H p = none) : Q (.ref p) (upd H p (.lst vs)) := by
  obtain ⟨e, s'⟩ := s.ice hp (.lst vs)
  refine h _ _ _ _ e s' ?_
  simp only [RV]
  exact ⟨p, vs, rfl, upd_same, RVs.up e _ _ r⟩
theorem Post.newT (s : Sim T B F G al S H) {xs : List D} {vs : List V} {Q : VK} (h : Post T B F (RV T) G al S.length (.ok (.tup xs) S) Q) (r : RVs T G al S.length xs vs) {p : Addr} (hp : H p = none) : Q (.ref p) (upd H p (.tup vs)) := by
  obtain ⟨e, s'⟩ := s.ice hp (.tup vs)
  refine h _ _ _ _ e s' ?_
  simp only [RV]
  exact ⟨p, vs, rfl, SqT.of upd_same, RVs.up e _ _ r⟩
theorem Post.newL (s : Sim T B F G al S H) {k : Bool} {xs : List D} {vs : List V} {Q : VK} (h : Post T B F (RV T) G al S.length (newL k xs S) Q) (r : RVs T G al S.length xs vs) {p : Addr} (hp : H p = none) : Q (.ref p) (upd H p (.lst vs)) := by
  cases k with
  | false => exact Post.newF s h r hp
  | true =>
    obtain ⟨al', h1, e, s'⟩ := s.cellNew hp (c := .lst xs) (o := .lst vs) ⟨vs, rfl, r⟩
    refine h _ _ _ _ e s' ?_
    simp only [RV]
    exact ⟨by simp, by rw [h1]⟩
end

/-! ### data -/
theorem toPs_len : ∀ {xs : List D} {ps : List PyData}, toPs xs = some ps → ps.length = xs.length
  | [], ps, h => by simp only [toPs, Option.some.injEq] at h; subst h; rfl
  | x :: xs, ps, h => by
    simp only [toPs] at h
    cases q1 : toP x with
    | none => rw [q1] at h; cases h
    | some p =>
      cases q2 : toPs xs with
      | none => rw [q1, q2] at h; cases h
      | some r =>
        rw [q1, q2] at h
        cases h
        simp only [List.length_cons, toPs_len q2]
theorem toPs_cons {x : D} {xs : List D} {ps : List PyData} (h : toPs (x :: xs) = some ps) : ∃ p r, ps = p :: r ∧ toP x = some p ∧ toPs xs = some r := by
  simp only [toPs] at h
  cases q1 : toP x with
  | none => rw [q1] at h; cases h
  | some p =>
    cases q2 : toPs xs with
    | none => rw [q1, q2] at h; cases h
    | some r =>
      rw [q1, q2] at h
      cases h
      exact ⟨p, r, rfl, rfl, rfl⟩
theorem toP_map {α : Type} {o : Option α} {f : α → PyData} {p : PyData} (h : o.map f = some p) : ∃ a, o = some a ∧ p = f a := by
  cases o with
  | none => cases h
  | some a => cases h; exact ⟨a, rfl, rfl⟩
theorem toS_inj {s t : List Nat} : (toS s == toS t) = (s == t) := by
  have e : (toS s = toS t) ↔ s = t := by
    unfold toS
    constructor
    · intro h
      injection h with h
      simpa using h
    · intro h
      rw [h]
  by_cases h : s = t
  · rw [h]; simp
  · have h2 : ¬ toS s = toS t := fun z => h (e.mp z)
    rw [beq_eq_false_iff_ne.mpr h2, beq_eq_false_iff_ne.mpr h]

mutual
theorem eqv_toP : ∀ (a b : D) (p q : PyData), toP a = some p → toP b = some q → PyData.eqv p q = eqv a b
  | .non, b, p, q, h1, h2 => by
    simp only [toP, Option.some.injEq] at h1
    subst h1
    cases b <;> simp only [toP] at h2 <;> first | (cases h2; done) | (cases h2; rfl) | (obtain ⟨r, _, rfl⟩ := toP_map h2; rfl)
  | .bl x, b, p, q, h1, h2 => by
    simp only [toP, Option.some.injEq] at h1
    subst h1
    cases b <;> simp only [toP] at h2 <;> first | (cases h2; done) | (cases h2; rfl) | (obtain ⟨r, _, rfl⟩ := toP_map h2; rfl)
  | .int x, b, p, q, h1, h2 => by
    simp only [toP, Option.some.injEq] at h1
    subst h1
    cases b <;> simp only [toP] at h2 <;> first | (cases h2; done) | (cases h2; rfl) | (obtain ⟨r, _, rfl⟩ := toP_map h2; rfl)
  | .str x, b, p, q, h1, h2 => by
    simp only [toP, Option.some.injEq] at h1
    subst h1
    cases b <;> simp only [toP] at h2 <;> first | (cases h2; done) | (cases h2; rfl) | (cases h2; exact toS_inj) | (obtain ⟨r, _, rfl⟩ := toP_map h2; rfl)
  | .tup xs, b, p, q, h1, h2 => by
    simp only [toP] at h1
    obtain ⟨ps, e1, rfl⟩ := toP_map h1
    cases b <;> simp only [toP] at h2 <;> first | (cases h2; done) | (cases h2; rfl) | (obtain ⟨r, e2, rfl⟩ := toP_map h2; first | exact eqvL_toPs xs _ ps r e1 e2 | rfl)
  | .fl xs, b, p, q, h1, h2 => by
    simp only [toP] at h1
    obtain ⟨ps, e1, rfl⟩ := toP_map h1
    cases b <;> simp only [toP] at h2 <;> first | (cases h2; done) | (cases h2; rfl) | (obtain ⟨r, e2, rfl⟩ := toP_map h2; first | exact eqvL_toPs xs _ ps r e1 e2 | rfl)
  | .sc _, _, _, _, h1, _ => by simp only [toP] at h1; cases h1
  | .ins _ _, _, _, _, h1, _ => by simp only [toP] at h1; cases h1
  | .ref _, _, _, _, h1, _ => by simp only [toP] at h1; cases h1
  | .cls _, _, _, _, h1, _ => by simp only [toP] at h1; cases h1
  | .rp _, _, _, _, h1, _ => by simp only [toP] at h1; cases h1
theorem eqvL_toPs : ∀ (a b : List D) (p q : List PyData), toPs a = some p → toPs b = some q → PyData.eqvAll p q = eqvL a b
  | [], b, p, q, h1, h2 => by
    simp only [toPs, Option.some.injEq] at h1
    subst h1
    cases b with
    | nil =>
      simp only [toPs, Option.some.injEq] at h2
      subst h2
      rfl
    | cons y ys =>
      obtain ⟨u, r, rfl, _, _⟩ := toPs_cons h2
      rfl
  | x :: xs, b, p, q, h1, h2 => by
    obtain ⟨u, r, rfl, k1, k2⟩ := toPs_cons h1
    cases b with
    | nil =>
      simp only [toPs, Option.some.injEq] at h2
      subst h2
      rfl
    | cons y ys =>
      obtain ⟨u', r', rfl, k1', k2'⟩ := toPs_cons h2
      rw [PyData.eqvAll, eqvL, eqv_toP x y u u' k1 k1', eqvL_toPs xs ys r r' k2 k2']
end

section
variable {T : Tx} {B : Bas} {F : Hp} {G : Hp} {al : Nat → Addr} {S : Store} {H : Hp}
/-- data as the machine's rules read it -/
def IsD (T : Tx) (H : Hp) (k : Nat) (d : D) (v : V) : Prop := ∃ p, toP d = some p ∧ Dp T.K H v p ∧ p.canLay0 = true ∧ p.depth ≤ k
theorem deepL_ok {k : Nat} (f : ∀ (d : D) (v : V) (d' : D), RV T G al S.length d v → deep S k d = some d' → IsD T H k d' v) :
    ∀ (xs : List D) (vs : List V) (ys : List D), RVs T G al S.length xs vs → mapO (deep S k) xs = some ys → ∃ ps, toPs ys = some ps ∧ DpAll T.K H vs ps ∧ PyData.canLayAll0 ps = true ∧ PyData.depthAll ps ≤ k
  | [], vs, ys, r, h => by
    simp only [RVs] at r
    subst r
    cases h
    exact ⟨[], by simp only [toPs], .nil, rfl, Nat.zero_le _⟩
  | x :: xs, vs, ys, r, h => by
    simp only [RVs] at r
    obtain ⟨v, w, rfl, r1, r2⟩ := r
    obtain ⟨y, z, rfl, h1, h2⟩ := mapO_cons h
    obtain ⟨p, e1, e2, e3, e4⟩ := f x v y r1 h1
    obtain ⟨ps, q1, q2, q3, q4⟩ := deepL_ok f xs w z r2 h2
    refine ⟨p :: ps, by simp only [toPs, e1, q1], .cons e2 q2, by simp only [PyData.canLayAll0, e3, q3, Bool.and_self], ?_⟩
    simp only [PyData.depthAll]
    omega
theorem deep_ok (s : Sim T B F G al S H) : ∀ (k : Nat) (d : D) (v : V) (d' : D), RV T G al S.length d v → deep S k d = some d' → IsD T H k d' v
  | 0, _, _, _, _, h => by cases h
  | k + 1, d, v, d', r, h => by
    have L := deepL_ok (T := T) (G := G) (al := al) (S := S) (H := H) (k := k) (deep_ok s k)
    have lst : ∀ {a : Addr} {vs : List V} {xs ys : List D}, v = .ref a → SqL T.K H a vs → RVs T G al S.length xs vs → mapO (deep S k) xs = some ys → d' = .fl ys → IsD T H (k + 1) d' v := by
      intro a vs xs ys e1 e2 e3 e4 e5
      subst e1 e5
      obtain ⟨ps, q1, q2, q3, q4⟩ := L xs vs ys e3 e4
      refine ⟨.list ps, by simp only [toP, q1, Option.map_some], .lst e2 q2, by simp only [PyData.canLay0]; exact q3, ?_⟩
      rw [PyData.depth]
      exact Nat.succ_le_succ q4
    cases d with
    | non =>
      simp only [deep, Option.some.injEq] at h
      subst h
      simp only [RV] at r
      subst r
      exact ⟨.none, by simp only [toP], .non, rfl, Nat.zero_le _⟩
    | bl b =>
      simp only [deep, Option.some.injEq] at h
      subst h
      simp only [RV] at r
      subst r
      exact ⟨.bool b, by simp only [toP], .bl b, rfl, Nat.zero_le _⟩
    | int i =>
      simp only [deep, Option.some.injEq] at h
      subst h
      simp only [RV] at r
      subst r
      exact ⟨.int i, by simp only [toP], .int i, rfl, Nat.zero_le _⟩
    | str x =>
      simp only [deep] at h
      split at h
      · rename_i hx
        cases h
        simp only [RV] at r
        subst r
        refine ⟨.str (toS x), by simp only [toP], .str _, ?_, Nat.zero_le _⟩
        simp only [PyData.canLay0, PyData.strOk, toS]
        simp only [okS, List.all_eq_true] at hx
        simp only [List.all_toArray, List.all_eq_true, decide_eq_true_eq]
        exact fun c hc => Nat.le_of_ble_eq_true (hx c hc)
      · cases h
    | tup xs =>
      simp only [deep] at h
      simp only [RV] at r
      obtain ⟨a, vs, rfl, h2, h3⟩ := r
      cases q : mapO (deep S k) xs with
      | none => rw [q] at h; cases h
      | some ys =>
        rw [q] at h
        cases h
        obtain ⟨ps, q1, q2, q3, q4⟩ := L xs vs ys h3 q
        refine ⟨.tuple ps, by simp only [toP, q1, Option.map_some], .tup (sqT_up h2 s.le) q2, by simp only [PyData.canLay0]; exact q3, ?_⟩
        rw [PyData.depth]
        exact Nat.succ_le_succ q4
    | fl xs =>
      simp only [deep] at h
      cases q : mapO (deep S k) xs with
      | none => rw [q] at h; cases h
      | some ys =>
        rw [q] at h
        cases h
        obtain ⟨a, vs, e1, e2, e3⟩ := itemsL_ok s r (xs := xs) rfl
        exact lst e1 e2 e3 q rfl
    | sc xs =>
      simp only [deep] at h
      cases q : mapO (deep S k) xs with
      | none => rw [q] at h; cases h
      | some ys =>
        rw [q] at h
        cases h
        obtain ⟨a, vs, e1, e2, e3⟩ := itemsL_ok s r (xs := xs) rfl
        exact lst e1 e2 e3 q rfl
    | ref i =>
      simp only [deep] at h
      cases qc : S[i]? with
      | none => rw [qc] at h; cases h
      | some c =>
        rw [qc] at h
        cases c with
        | lst xs =>
          dsimp only at h
          cases q : mapO (deep S k) xs with
          | none => rw [q] at h; cases h
          | some ys =>
            rw [q] at h
            cases h
            obtain ⟨a, vs, e1, e2, e3⟩ := itemsL_ok s r (xs := xs) (by simp only [itemsL, qc])
            exact lst e1 e2 e3 q rfl
        | ins _ _ => cases h
        | dic _ => cases h
    | ins _ _ => cases h
    | cls _ => cases h
    | rp _ => cases h
end
theorem IsD.shaped {T : Tx} {H : Hp} {d : D} {v : V} {k : Nat} (h : IsD T H k d v) (hk : k ≤ 64) : ∃ p, toP d = some p ∧ Dp T.K H v p ∧ SeqAt.shaped p = true := by
  obtain ⟨p, h1, h2, h3, h4⟩ := h
  refine ⟨p, h1, h2, ?_⟩
  unfold SeqAt.shaped
  rw [h3, Bool.true_and]
  exact decide_eq_true (by omega)
end Ip

set_option Elab.async false
set_option linter.all false
set_option maxRecDepth 100000
set_option maxHeartbeats 1000000
set_option autoImplicit false
/-! IpC3: operators and comparisons by values. -/
namespace Ip
open PySem PySem.Spec PyProof.Rows L2

def opOf : Op → Operator
  | .add => .Add
  | .sub => .Sub
  | .mul => .Mult
  | .fdiv => .FloorDiv
  | .mod => .Mod
  | .pow => .Pow
def rAddS : R2 := fun x y H Q => ∃ i j, x = .str i ∧ y = .str j ∧ i.length + j.length ≤ sizeLine ∧ Q (.str (i ++ j)) H
def binR (K : PySem.W.Frag) : Op → R2
  | .add => fun x y H Q => rI0 (fun i j => .int (i + j)) x y H Q ∨ (rAddS x y H Q ∨ (rCatA K x y H Q ∨ rCat x y H Q))
  | .sub => rI0 fun i j => .int (i - j)
  | .mul => fun x y H Q => rI CMul (fun i j => .int (i * j)) x y H Q ∨ rRep x y H Q
  | .fdiv => rI CDiv fun i j => .int (i / j)
  | .mod => rI (fun _ j => 0 < j) fun i j => .int (i % j)
  | .pow => rI CPow fun i j => .int (i ^ j.toNat)
theorem op_bin {X : L2.Cx} (o : Op) : OpR X (binaryOp (opOf o)) (binR X.K o) := by
  cases o with
  | add => exact op_add.or (OpR.or op_add_str (op_catA.or op_cat))
  | sub => exact op_sub
  | mul => exact op_mul.or op_rep
  | fdiv => exact op_fdiv
  | mod => exact op_mod
  | pow => exact op_pow

section
variable {T : Tx} {B : Bas} {F : Hp} {G : Hp} {al : Nat → Addr} {S : Store} {H : Hp}
theorem rv_int {n : Nat} {i : Int} {v : V} (r : RV T G al n (.int i) v) : v = .int i := by
  simp only [RV] at r
  exact r
theorem rv_bl {n : Nat} {i : Bool} {v : V} (r : RV T G al n (.bl i) v) : v = .bl i := by
  simp only [RV] at r
  exact r
theorem rv_str {n : Nat} {i : List Nat} {v : V} (r : RV T G al n (.str i) v) : v = .str (toS i) := by
  simp only [RV] at r
  exact r
theorem rv_non {n : Nat} {v : V} (r : RV T G al n .non v) : v = .non := by
  simp only [RV] at r
  exact r
theorem mk_int {n : Nat} {i : Int} : RV T G al n (.int i) (.int i) := by simp only [RV]
theorem mk_bl {n : Nat} {i : Bool} : RV T G al n (.bl i) (.bl i) := by simp only [RV]
theorem mk_non {n : Nat} : RV T G al n .non .non := by simp only [RV]
theorem mk_str {n : Nat} {i : List Nat} : RV T G al n (.str i) (.str (toS i)) := by simp only [RV]
theorem toS_app (s t : List Nat) : toS s ++ toS t = toS (s ++ t) := by
  show (⟨(s.toArray ++ t.toArray)⟩ : PySem.Str) = ⟨(s ++ t).toArray⟩
  rw [List.append_toArray]
theorem small_ok {i : Int} (h : small i = true) : -(2 ^ 64) < i ∧ i < 2 ^ 64 := by
  simp only [small, Bool.and_eq_true, decide_eq_true_eq] at h
  exact h
theorem post_fail {α β : Type} {Rr : Hp → (Nat → Addr) → Nat → α → β → Prop} {n : Nat} {Q : β → Hp → Prop} (h : Post T B F Rr G al n R.fail Q) : False := h

theorem bin_ok (o : Op) {x y : D} {v w : V} {Q : VK} (s : Sim T B F G al S H) (r : RV T G al S.length x v) (q : RV T G al S.length y w) (h : Post T B F (RV T) G al S.length (binD o x y S) Q) : binR T.K o v w H Q := by
  cases o with
  | add =>
    simp only [binD] at h
    split at h
    · exact .inl ⟨_, _, rv_int r, rv_int q, h.ok s mk_int⟩
    · split at h
      · rename_i hz
        refine .inr (.inl ⟨_, _, rv_str r, rv_str q, ?_, ?_⟩)
        · show (_ : List Nat).toArray.size + (_ : List Nat).toArray.size ≤ sizeLine
          simp only [List.size_toArray]
          exact small_line hz
        · rw [toS_app]
          exact h.ok s mk_str
      · exact (post_fail h).elim
    · split at h
      · rename_i xs ys hz
        have r0 := r
        have q0 := q
        simp only [RV] at r q
        obtain ⟨a, vs, rfl, ha, hr⟩ := r
        obtain ⟨b, ws, rfl, hb, hq⟩ := q
        have e1 := hr.len
        have e2 := hq.len
        refine .inr (.inr (.inl ⟨a, b, vs, ws, rfl, rfl, sqT_up ha s.le, sqT_up hb s.le, by rw [← e1, ← e2]; exact small_line hz, fun z => ?_, fun _ z => ?_, fun _ _ p hp => ?_⟩))
        · subst z
          have e3 : xs = [] := List.length_eq_zero_iff.mp e1
          subst e3
          exact h.ok s q0
        · subst z
          have e3 : ys = [] := List.length_eq_zero_iff.mp e2
          subst e3
          rw [List.append_nil] at h
          exact h.ok s r0
        · exact Post.newT s h (hr.app hq) hp
      · exact (post_fail h).elim
    · split at h
      · rename_i xs ys h1 h2
        split at h
        · rename_i hz
          obtain ⟨a, vs, rfl, ha, hr⟩ := itemsW_ok s r h1
          obtain ⟨b, ws, rfl, hb, hq⟩ := itemsW_ok s q h2
          exact .inr (.inr (.inr ⟨a, b, vs, ws, rfl, rfl, ha, hb, by rw [← hr.len, ← hq.len]; exact small_line hz, fun p hp => Post.newF s h (hr.app hq) hp⟩))
        · exact (post_fail h).elim
      · exact (post_fail h).elim
  | sub =>
    simp only [binD] at h
    split at h
    · exact ⟨_, _, rv_int r, rv_int q, h.ok s mk_int⟩
    · exact (post_fail h).elim
  | mul =>
    simp only [binD] at h
    split at h
    · split at h
      · rename_i hz
        refine .inl ⟨_, _, rv_int r, rv_int q, ?_, h.ok s mk_int⟩
        simp only [Bool.or_eq_true] at hz
        rcases hz with hz | hz
        · exact .inl (small_ok hz)
        · exact .inr (small_ok hz)
      · exact (post_fail h).elim
    · split at h
      · rename_i h1
        split at h
        · rename_i hz
          obtain ⟨a, vs, rfl, ha, hr⟩ := itemsW_ok s r h1
          simp only [Bool.and_eq_true, decide_eq_true_eq] at hz
          exact .inr ⟨a, _, vs, rfl, rv_int q, ha, hz.1, hz.2.1, by rw [← hr.len]; exact small_line hz.2.2, fun p hp => Post.newF s h (hr.rep _) hp⟩
        · exact (post_fail h).elim
      · exact (post_fail h).elim
    · exact (post_fail h).elim
  | fdiv =>
    simp only [binD] at h
    split at h
    · split at h
      · rename_i hz
        simp only [Bool.and_eq_true, decide_eq_true_eq] at hz
        exact ⟨_, _, rv_int r, rv_int q, hz, h.ok s mk_int⟩
      · exact (post_fail h).elim
    · exact (post_fail h).elim
  | mod =>
    simp only [binD] at h
    split at h
    · split at h
      · rename_i hz
        exact ⟨_, _, rv_int r, rv_int q, hz, h.ok s mk_int⟩
      · exact (post_fail h).elim
    · exact (post_fail h).elim
  | pow =>
    simp only [binD] at h
    split at h
    · split at h
      · rename_i hz
        simp only [Bool.and_eq_true, decide_eq_true_eq] at hz
        exact ⟨_, _, rv_int r, rv_int q, hz, h.ok s mk_int⟩
      · exact (post_fail h).elim
    · exact (post_fail h).elim
end

/-! ### comparisons -/
mutual
theorem sameD_eq : ∀ a b : D, sameD a b = true → a = b
  | .non, b, h => by cases b <;> first | rfl | cases h
  | .bl x, b, h => by
    cases b <;> first | (cases h; done) | skip
    rw [eq_of_beq (show (x == _) = true from h)]
  | .int x, b, h => by
    cases b <;> first | (cases h; done) | skip
    rw [eq_of_beq (show (x == _) = true from h)]
  | .str x, b, h => by
    cases b <;> first | (cases h; done) | skip
    rw [eq_of_beq (show (x == _) = true from h)]
  | .tup xs, b, h => by
    cases b <;> first | (cases h; done) | skip
    rw [sameL_eq xs _ (by simpa only [sameD] using h)]
  | .fl xs, b, h => by
    cases b <;> first | (cases h; done) | skip
    rw [sameL_eq xs _ (by simpa only [sameD] using h)]
  | .sc xs, b, h => by
    cases b <;> first | (cases h; done) | skip
    rw [sameL_eq xs _ (by simpa only [sameD] using h)]
  | .ins c fs, b, h => by
    cases b <;> first | (cases h; done) | skip
    simp only [sameD, Bool.and_eq_true] at h
    rw [eq_of_beq h.1, sameF_eq fs _ h.2]
  | .ref x, b, h => by
    cases b <;> first | (cases h; done) | skip
    rw [eq_of_beq (show (x == _) = true from h)]
  | .cls x, b, h => by
    cases b <;> first | (cases h; done) | skip
    rw [eq_of_beq (show (x == _) = true from h)]
  | .rp x, b, h => by
    cases b <;> first | (cases h; done) | skip
    rw [sameD_eq x _ (by simpa only [sameD] using h)]
theorem sameL_eq : ∀ a b : List D, sameL a b = true → a = b
  | [], b, h => by cases b <;> first | rfl | cases h
  | x :: xs, b, h => by
    cases b with
    | nil => cases h
    | cons y ys =>
      simp only [sameL, Bool.and_eq_true] at h
      rw [sameD_eq x y h.1, sameL_eq xs ys h.2]
theorem sameF_eq : ∀ a b : List (Nat × D), sameF a b = true → a = b
  | [], b, h => by cases b <;> first | rfl | cases h
  | (k, x) :: xs, b, h => by
    cases b with
    | nil => cases h
    | cons y ys =>
      obtain ⟨l, y⟩ := y
      simp only [sameF, Bool.and_eq_true] at h
      rw [eq_of_beq h.1, sameD_eq x y h.2.1, sameF_eq xs ys h.2.2]
end

mutual
theorem sameD_refl : ∀ a : D, sameD a a = true
  | .non => rfl
  | .bl x => by simp only [sameD, beq_self_eq_true]
  | .int x => by simp only [sameD, beq_self_eq_true]
  | .str x => by simp only [sameD, beq_self_eq_true]
  | .tup xs => by simp only [sameD]; exact sameL_refl xs
  | .fl xs => by simp only [sameD]; exact sameL_refl xs
  | .sc xs => by simp only [sameD]; exact sameL_refl xs
  | .ins c fs => by simp only [sameD, beq_self_eq_true, Bool.true_and]; exact sameF_refl fs
  | .ref x => by simp only [sameD, beq_self_eq_true]
  | .cls x => by simp only [sameD, beq_self_eq_true]
  | .rp x => by simp only [sameD]; exact sameD_refl x
theorem sameL_refl : ∀ a : List D, sameL a a = true
  | [] => rfl
  | x :: xs => by simp only [sameL, sameD_refl x, sameL_refl xs, Bool.and_self]
theorem sameF_refl : ∀ a : List (Nat × D), sameF a a = true
  | [] => rfl
  | (k, x) :: xs => by simp only [sameF, beq_self_eq_true, sameD_refl x, sameF_refl xs, Bool.and_self]
end

def cmOf : Cm → CmpOp
  | .eq => .Eq
  | .ne => .NotEq
  | .lt => .Lt
  | .le => .LtE
  | .gt => .Gt
  | .ge => .GtE
  | .is => .Is
  | .isnt => .IsNot
  | .mem => .In
  | .nmem => .NotIn
def rIsN : R2 := fun x y H Q => y = .non ∧ Q (.bl (decide (x = .non))) H
def rNotN : R2 := fun x y H Q => y = .non ∧ Q (.bl (!decide (x = .non))) H
def cmR (K : PySem.W.Frag) : Cm → R2
  | .eq => fun x y H Q => rEq x y H Q ∨ rEqD K x y H Q
  | .ne => fun x y H Q => rNe x y H Q ∨ rNeD K x y H Q
  | .lt => rI0 fun i j => .bl (decide (i < j))
  | .le => rI0 fun i j => .bl (decide (i ≤ j))
  | .gt => rI0 fun i j => .bl (decide (j < i))
  | .ge => rI0 fun i j => .bl (decide (j ≤ i))
  | .is => fun x y H Q => rIsN x y H Q ∨ rIsB x y H Q
  | .isnt => fun x y H Q => rNotN x y H Q ∨ rNotB x y H Q
  | .mem => fun x y H Q => rIn K false x y H Q ∨ rInD K x y H Q
  | .nmem => fun x y H Q => rIn K true x y H Q ∨ rNotInD K x y H Q
theorem op_cm {X : L2.Cx} (hu : X.A.units + 65 < cLine) (o : Cm) : OpR X (compareOp (cmOf o)) (cmR X.K o) := by
  have hu' : X.A.units + 64 < cLine := by omega
  cases o with
  | eq => exact op_eq.or (op_eqD hu')
  | ne => exact op_ne.or (op_neD hu')
  | lt => exact op_lt
  | le => exact op_le
  | gt => exact op_gt
  | ge => exact op_ge
  | is => exact OpR.or op_isN op_isBl
  | isnt => exact OpR.or op_notN op_notBl
  | mem => exact op_in_seq.or (op_inD hu)
  | nmem => exact op_notIn_seq.or (op_notInD hu)

section
variable {T : Tx} {B : Bas} {F : Hp} {G : Hp} {al : Nat → Addr} {S : Store} {H : Hp}
theorem post_of {α β : Type} {Rr : Hp → (Nat → Addr) → Nat → α → β → Prop} {n : Nat} {o : Option α} {Q : β → Hp → Prop} (h : Post T B F Rr G al n (R.of o S) Q) : ∃ a, o = some a ∧ Post T B F Rr G al n (.ok a S) Q := by
  cases o with
  | none => exact h.elim
  | some a => exact ⟨a, rfl, h⟩
/-- what == tells, and where from -/
theorem eq_ok {x y : D} {v w : V} {b : Bool} (s : Sim T B F G al S H) (r : RV T G al S.length x v) (q : RV T G al S.length y w) (h : eqD x y S = some b) :
    (scal v w = true ∧ decide (v = w) = b) ∨ ∃ p p', Dp T.K H v p ∧ Dp T.K H w p' ∧ SeqAt.shaped p = true ∧ SeqAt.shaped p' = true ∧ PyData.eqv p p' = b := by
  have gen : ∀ (x y : D) (v w : V), RV T G al S.length x v → RV T G al S.length y w → (match deep S deepest x, deep S deepest y with
    | some a, some b => some (eqv a b)
    | _, _ => none) = some b → ∃ p p', Dp T.K H v p ∧ Dp T.K H w p' ∧ SeqAt.shaped p = true ∧ SeqAt.shaped p' = true ∧ PyData.eqv p p' = b := by
    intro x y v w r q h
    split at h
    · rename_i a c h1 h2
      cases h
      obtain ⟨p, e1, d1, z1⟩ := (deep_ok s deepest x v a r h1).shaped (by decide)
      obtain ⟨p', e2, d2, z2⟩ := (deep_ok s deepest y w c q h2).shaped (by decide)
      exact ⟨p, p', d1, d2, z1, z2, eqv_toP a c p p' e1 e2⟩
    · cases h
  unfold eqD at h
  split at h
  · split at h
    · rename_i hs
      cases h
      rw [sameD_eq _ _ hs] at r
      simp only [RV] at r q
      obtain ⟨p, e1, rfl⟩ := r
      obtain ⟨p', e2, rfl⟩ := q
      rw [e1] at e2
      cases e2
      exact .inl ⟨rfl, by simp⟩
    · cases h
  · cases h
    rw [rv_str r, rv_str q]
    exact .inl ⟨rfl, by rw [dec_str]; exact toS_inj⟩
  · exact .inr (gen _ _ _ _ r q h)

theorem isNon_ok {n : Nat} {x : D} {v : V} (r : RV T G al n x v) : decide (v = V.non) = isNon x := by
  cases x <;> simp only [RV] at r <;> first
    | (subst r; rfl)
    | (obtain ⟨a, b, e, _⟩ := r; subst e; rfl)
    | (obtain ⟨a, e⟩ := r; subst e; rfl)
    | (obtain ⟨a, b, c, e, _⟩ := r; subst e; rfl)
    | (obtain ⟨a, b, e⟩ := r; subst e; rfl)

theorem scal_flat {n : Nat} {x : D} {v : V} (r : RV T G al n x v) (h : isScal x = true) : flatV v = true := by
  cases x <;> first | (cases h; done) | skip
  · rw [rv_non r]; rfl
  · rw [rv_bl r]; rfl
  · rw [rv_int r]; rfl
  · rw [rv_str r]; rfl
theorem eqv_eqV {n : Nat} {x y : D} {v w : V} (r : RV T G al n x v) (q : RV T G al n y w) (h : isScal x = true) (k : isScal y = true) : eqV v w = eqv x y := by
  cases x <;> first | (cases h; done) | skip
  all_goals cases y <;> first | (cases k; done) | skip
  all_goals simp only [RV] at r q
  all_goals subst r q
  all_goals first | rfl | exact toS_inj
theorem flat_all {n : Nat} {x : D} {v : V} (r : RV T G al n x v) (h : isScal x = true) : ∀ {ys : List D} {ws : List V}, RVs T G al n ys ws → ys.all isScal = true → ws.all flatV = true ∧ inV v ws = ys.any fun b => eqv b x
  | [], ws, q, _ => by
    simp only [RVs] at q
    subst q
    exact ⟨rfl, rfl⟩
  | y :: ys, ws, q, k => by
    simp only [RVs] at q
    obtain ⟨w, u, rfl, q1, q2⟩ := q
    simp only [List.all_cons, Bool.and_eq_true] at k
    obtain ⟨z1, z2⟩ := flat_all r h q2 k.2
    refine ⟨by simp only [List.all_cons, scal_flat q1 k.1, z1, Bool.and_self], ?_⟩
    show (eqV w v || inV v u) = _
    rw [z2, eqv_eqV q1 r k.1 h, List.any_cons]
theorem any_toPs {a : D} {p : PyData} (e : toP a = some p) : ∀ {bs : List D} {ps : List PyData}, toPs bs = some ps → (ps.any fun z => PyData.eqv z p) = bs.any fun b => eqv b a
  | [], ps, h => by
    simp only [toPs, Option.some.injEq] at h
    subst h
    rfl
  | b :: bs, ps, h => by
    obtain ⟨u, r, rfl, h1, h2⟩ := toPs_cons h
    rw [List.any_cons, List.any_cons, any_toPs e h2, eqv_toP b a u p h1 e]
theorem mem_ok {x y : D} {v w : V} {b : Bool} (s : Sim T B F G al S H) (r : RV T G al S.length x v) (q : RV T G al S.length y w) (h : memD x y S = some b) :
    (∃ p xs, w = .ref p ∧ (SqL T.K H p xs ∨ SqT T.K H p xs) ∧ flatV v = true ∧ xs.all flatV = true ∧ inV v xs = b) ∨
      ∃ d ds, Dp T.K H v d ∧ Dp T.K H w (.list ds) ∧ SeqAt.shaped d = true ∧ SeqAt.shaped (.list ds) = true ∧ (ds.any fun z => PyData.eqv z d) = b := by
  have gen : ∀ (ys : List D) (a : Addr) (ws : List V), w = .ref a → SqL T.K H a ws → RVs T G al S.length ys ws → (match deep S deepest x, mapO (deep S deepest) ys with
    | some a, some bs => some (bs.any fun b => eqv b a)
    | _, _ => none) = some b → ∃ d ds, Dp T.K H v d ∧ Dp T.K H w (.list ds) ∧ SeqAt.shaped d = true ∧ SeqAt.shaped (.list ds) = true ∧ (ds.any fun z => PyData.eqv z d) = b := by
    intro ys a ws e1 e2 e3 h
    split at h
    · rename_i c bs h1 h2
      cases h
      obtain ⟨p, k1, d1, z1⟩ := (deep_ok s deepest x v c r h1).shaped (by decide)
      obtain ⟨ps, l1, l2, l3, l4⟩ := deepL_ok (deep_ok s deepest) ys ws bs e3 h2
      refine ⟨p, ps, d1, by rw [e1]; exact .lst e2 l2, z1, ?_, any_toPs k1 l1⟩
      unfold SeqAt.shaped
      rw [Bool.and_eq_true]
      refine ⟨by simp only [PyData.canLay0]; exact l3, decide_eq_true ?_⟩
      rw [PyData.depth]
      have : deepest = 20 := rfl
      omega
    · cases h
  unfold memD at h
  split at h
  · split at h
    · rename_i i _ ys hi
      obtain ⟨a, ws, e1, e2, e3⟩ := itemsL_ok s q (xs := ys) (by simp only [itemsL, hi])
      exact .inr (gen ys a ws e1 e2 e3 h)
    · cases h
  · rename_i ys
    obtain ⟨a, ws, e1, e2, e3⟩ := itemsL_ok s q (xs := ys) rfl
    exact .inr (gen ys a ws e1 e2 e3 h)
  · split at h
    · rename_i hz
      cases h
      simp only [Bool.and_eq_true] at hz
      simp only [RV] at q
      obtain ⟨a, ws, rfl, ha, hq⟩ := q
      obtain ⟨z1, z2⟩ := flat_all r hz.1 hq hz.2
      exact .inl ⟨a, ws, rfl, .inr (sqT_up ha s.le), scal_flat r hz.1, z1, z2⟩
    · cases h
  · cases h

theorem cm_ok (o : Cm) {x y : D} {v w : V} {b : Bool} {Q : VK} (s : Sim T B F G al S H) (r : RV T G al S.length x v) (q : RV T G al S.length y w) (h : cmpD o x y S = some b) (k : Q (.bl b) H) : cmR T.K o v w H Q := by
  cases o with
  | eq =>
    rcases eq_ok s r q h with ⟨h1, h2⟩ | ⟨p, p', d1, d2, z1, z2, e⟩
    · exact .inl ⟨h1, by rw [h2]; exact k⟩
    · exact .inr ⟨p, p', d1, d2, z1, z2, by rw [e]; exact k⟩
  | ne =>
    simp only [cmpD] at h
    cases he : eqD x y S with
    | none => rw [he] at h; cases h
    | some c =>
      rw [he] at h
      cases h
      rcases eq_ok s r q he with ⟨h1, h2⟩ | ⟨p, p', d1, d2, z1, z2, e⟩
      · exact .inl ⟨h1, by rw [h2]; exact k⟩
      · exact .inr ⟨p, p', d1, d2, z1, z2, by rw [e]; exact k⟩
  | lt =>
    simp only [cmpD] at h
    split at h
    · cases h; exact ⟨_, _, rv_int r, rv_int q, k⟩
    · cases h
  | le =>
    simp only [cmpD] at h
    split at h
    · cases h; exact ⟨_, _, rv_int r, rv_int q, k⟩
    · cases h
  | gt =>
    simp only [cmpD] at h
    split at h
    · cases h; exact ⟨_, _, rv_int r, rv_int q, k⟩
    · cases h
  | ge =>
    simp only [cmpD] at h
    split at h
    · cases h; exact ⟨_, _, rv_int r, rv_int q, k⟩
    · cases h
  | is =>
    simp only [cmpD] at h
    split at h
    · cases h
      exact .inl ⟨rv_non q, by rw [isNon_ok r]; exact k⟩
    · cases h
      rename_i a c
      refine .inr ⟨a, c, rv_bl r, rv_bl q, ?_⟩
      rw [show decide (a = c) = (a == c) by cases a <;> cases c <;> rfl]
      exact k
    · cases h
  | isnt =>
    simp only [cmpD] at h
    split at h
    · cases h
      exact .inl ⟨rv_non q, by rw [isNon_ok r]; exact k⟩
    · cases h
      rename_i a c
      refine .inr ⟨a, c, rv_bl r, rv_bl q, ?_⟩
      rw [show decide (a = c) = (a == c) by cases a <;> cases c <;> rfl]
      exact k
    · cases h
  | mem =>
    rcases mem_ok s r q h with ⟨p, xs, e1, e2, e3, e4, e5⟩ | ⟨d, ds, d1, d2, z1, z2, e⟩
    · exact .inl ⟨p, xs, e1, e2, e3, e4, by rw [if_neg Bool.false_ne_true, e5]; exact k⟩
    · exact .inr ⟨d, ds, d1, d2, z1, z2, by rw [e]; exact k⟩
  | nmem =>
    simp only [cmpD] at h
    cases he : memD x y S with
    | none => rw [he] at h; cases h
    | some c =>
      rw [he] at h
      cases h
      rcases mem_ok s r q he with ⟨p, xs, e1, e2, e3, e4, e5⟩ | ⟨d, ds, d1, d2, z1, z2, e⟩
      · exact .inl ⟨p, xs, e1, e2, e3, e4, by rw [if_pos rfl, e5]; exact k⟩
      · exact .inr ⟨d, ds, d1, d2, z1, z2, by rw [e]; exact k⟩
end
end Ip

set_option Elab.async false
set_option linter.all false
set_option maxRecDepth 100000
set_option maxHeartbeats 1000000
set_option autoImplicit false
/-! IpC4: subscripts, slices, built-ins. -/
namespace Ip
open PySem PySem.Spec PyProof.Rows L2

/-! ### subscripts -/
section
variable {T : Tx} {B : Bas} {F : Hp} {G : Hp} {al : Nat → Addr} {S : Store} {H : Hp}
theorem ixOf_ixN (n : Nat) (i : Int) : ixOf n i = ixN n i := rfl
theorem sub_ok {x y d : D} {v w : V} {Q : VK} (s : Sim T B F G al S H) (r : RV T G al S.length x v) (q : RV T G al S.length y w) (h : subD x y S = some d) (k : ∀ u, RV T G al S.length d u → Q u H) : rIx T.K v w H Q := by
  unfold subD at h
  split at h
  · rename_i z0 kk
    split at h
    · rename_i xs hx
      split at h
      · rename_i j hj
        obtain ⟨a, vs, rfl, ha, hv⟩ := items_ok s r hx
        obtain ⟨u, e1, e2⟩ := hv.get h
        have e3 : atI vs kk = some u := by
          unfold atI
          rw [← hv.len, ← ixOf_ixN, hj]
          exact e1
        rcases ha with ha | ha
        · exact .inl ⟨a, vs, _, u, rfl, rv_int q, ha, e3, k u e2⟩
        · exact .inr (.inl ⟨a, vs, _, u, rfl, rv_int q, ha, e3, k u e2⟩)
      · cases h
    · cases h
  · cases h

def rSl (K : PySem.W.Frag) : V → Option Int → Option Int → Hp → VK → Prop := fun x lo hi H Q => rSlA K x lo hi H Q ∨ rSlL K x lo hi H Q
theorem op_sl {X : L2.Cx} : SlR X (rSl X.K) := SlR.or sl_tupA sl_list
/-- an end of a slice -/
def RO (d : D) (o : Option Int) : Prop := match d with
  | .non => o = none
  | .int i => o = some i
  | _ => False
theorem clip_ok {n m a : Nat} {d : D} {o : Option Int} (r : RO d o) (h : clipD n m d = some a) : HT.sIx n m o = a := by
  cases d with
  | non =>
    cases r
    cases h
    rfl
  | int i =>
    cases r
    cases h
    rfl
  | _ => cases h
theorem slc_ok {x lo hi d : D} {v : V} {o1 o2 : Option Int} {Q : VK} (s : Sim T B F G al S H) (r : RV T G al S.length x v) (q1 : RO lo o1) (q2 : RO hi o2) (h : slcD x lo hi S = some d)
    (k : Post T B F (RV T) G al S.length (.ok d S) Q) : rSl T.K v o1 o2 H Q := by
  unfold slcD at h
  split at h
  · rename_i xs
    split at h
    · rename_i a b h1 h2
      cases h
      have r0 := r
      simp only [RV] at r
      obtain ⟨p, vs, rfl, ha, hv⟩ := r
      have e1 := clip_ok q1 h1
      have e2 := clip_ok q2 h2
      have el := hv.len
      refine .inl ⟨p, vs, rfl, sqT_up ha s.le, fun hw => ?_, fun _ p' hp => ?_⟩
      · rw [← el, e1, e2] at hw
        obtain ⟨rfl, rfl⟩ := hw
        have : cutL xs 0 xs.length = xs := by
          unfold cutL
          simp
        rw [this] at k
        exact k.ok s r0
      · have : cutV vs o1 o2 = (vs.drop a).take (b - a) := by
          unfold cutV
          rw [← el, e1, e2]
        rw [this]
        exact Post.newT s k ((hv.drop a).take (b - a)) hp
    · cases h
  · split at h
    · rename_i xs hx
      split at h
      · rename_i a b h1 h2
        cases h
        obtain ⟨p, vs, rfl, ha, hv⟩ := itemsL_ok s r hx
        have e1 := clip_ok q1 h1
        have e2 := clip_ok q2 h2
        have el := hv.len
        refine .inr ⟨p, vs, rfl, ha, fun p' hp => ?_⟩
        have : cutV vs o1 o2 = (vs.drop a).take (b - a) := by
          unfold cutV
          rw [← el, e1, e2]
        rw [this]
        exact Post.newF s k ((hv.drop a).take (b - a)) hp
      · cases h
    · cases h
end

/-! ### built-ins -/
def biN : Bi → String
  | .len => "len"
  | .int => "int"
  | .abs => "abs"
  | .max2 => "max"
  | .min2 => "min"
  | .max1 => "max"
  | .min1 => "min"
  | .sum => "sum"
  | .tuple => "tuple"
  | .list => "list"
  | .repr => "repr"
  | .anyB => "any"
  | .allB => "all"
  | .sorted => "sorted"
/-- a class, or a function -/
def biT : Bi → Bool
  | .int => true
  | .tuple => true
  | .list => true
  | _ => false
def biV (b : Bi) : Value := if biT b then .type (biN b) else .builtin (biN b)

def rRepr (K : PySem.W.Frag) : List V → Hp → VK → Prop := fun xs H Q => ∃ x p, xs = [x] ∧ Dp K H x p ∧ p.showable = true ∧ p.hasDict = false ∧ p.depth ≤ 60 ∧ p.shown.length ≤ sizeLine ∧ Q (.str p.shown) H
theorem call_repr {X : L2.Cx} (hg : X.A.guards = some []) (hu : X.A.units + 65 < cLine) : CallR X (.builtin "repr") (rRepr X.K) := by
  intro pins s σ H xs us Q I r h
  obtain ⟨x, p, rfl, hd, hs, hh, hp, hz, q⟩ := h
  obtain ⟨u, rfl, ru⟩ := vals1 r
  obtain ⟨as, rr⟩ := Dp.reads I p x u hd ru
  cases hd with
  | non =>
    cases ru
    exact PySem.P.repr_of_none ⟨.str "None", H, I.tok _, ⟨_, rfl⟩, q⟩
  | bl b =>
    cases ru
    exact PySem.P.repr_of_bool ⟨.str (if b then "True" else "False"), H, I.tok _, ⟨_, rfl⟩, q⟩
  | int i =>
    obtain ⟨t, rfl⟩ := ru
    exact PySem.P.repr_of_int (by simpa only [PyData.showable, decide_eq_true_eq] using hs) ⟨.str (toString i), H, I.tok _, ⟨_, rfl⟩, q⟩
  | str z =>
    obtain ⟨t, rfl⟩ := ru
    exact PySem.P.repr_of_str ⟨.str (reprText z), H, I.tok _, ⟨_, rfl⟩, q⟩ hz
  | lst h1 h2 =>
    cases ru
    exact repr_of_reads' rr hs (fun e => by rw [hh] at e; cases e) hg (by omega) (fun _ _ e => e) (fun h' t tk hk => ⟨.str _, H, I.kept (t' := tk) hk, ⟨_, rfl⟩, q⟩) hz
  | tup h1 h2 =>
    cases ru
    exact repr_of_reads' rr hs (fun e => by rw [hh] at e; cases e) hg (by omega) (fun _ _ e => e) (fun h' t tk hk => ⟨.str _, H, I.kept (t' := tk) hk, ⟨_, rfl⟩, q⟩) hz

def biR (K : PySem.W.Frag) : Bi → List V → Hp → VK → Prop
  | .len => fun xs H Q => ∃ p ys, xs = [.ref p] ∧ (SqL K H p ys ∨ SqT K H p ys) ∧ Q (.int ys.length) H
  | .int => fun xs H Q => (∃ i, xs = [.int i] ∧ Q (.int i) H) ∨ ∃ k, xs = [.bl k] ∧ Q (.int (if k then 1 else 0)) H
  | .abs => fun xs H Q => ∃ i, xs = [.int i] ∧ Q (.int (if i < 0 then -i else i)) H
  | .max2 => fun xs H Q => ∃ i j, xs = [.int i, .int j] ∧ Q (.int (if j > i then j else i)) H
  | .min2 => fun xs H Q => ∃ i j, xs = [.int i, .int j] ∧ Q (.int (if j < i then j else i)) H
  | .max1 => rMax K
  | .min1 => rMin K
  | .sum => rSum K
  | .tuple => fun xs H Q => ∃ p ys, xs = [.ref p] ∧ ((SqL K H p ys ∧ ∀ l, H l = none → Q (.ref l) (upd H l (.tup ys))) ∨ (SqT K H p ys ∧ Q (.ref p) H))
  | .list => fun xs H Q => ∃ p ys, xs = [.ref p] ∧ (SqL K H p ys ∨ SqT K H p ys) ∧ ∀ l, H l = none → Q (.ref l) (upd H l (.lst ys))
  | .repr => rRepr K
  | .anyB => rAny K
  | .allB => rAll K
  | .sorted => rSorted K
theorem call_bi {X : L2.Cx} (hc : X.calm = true) (hg : X.A.guards = some []) (hu : X.A.units + 65 < cLine) (b : Bi) : CallR X (biV b) (biR X.K b) := by
  cases b with
  | len => exact call_len_seq
  | int => exact call_int1
  | abs => exact call_abs
  | max2 => exact call_max2 hc
  | min2 => exact call_min2 hc
  | max1 => exact cr_max hc
  | min1 => exact cr_min hc
  | sum => exact cr_sum hc
  | tuple => exact call_tuple_of
  | list => exact call_list_of
  | repr => exact call_repr hg hu
  | anyB => exact cr_any hc
  | allB => exact cr_all hc
  | sorted => exact cr_sorted

/-! ### sums, greatest, least, sorted -/
theorem max_fold : ∀ (r : List Int) (i : Int), (r.foldl (fun a b => if a < b then b else a) i = i ∨ r.foldl (fun a b => if a < b then b else a) i ∈ r) ∧ i ≤ r.foldl (fun a b => if a < b then b else a) i ∧ ∀ y ∈ r, y ≤ r.foldl (fun a b => if a < b then b else a) i
  | [], i => ⟨.inl rfl, Int.le_refl _, fun _ h => nomatch h⟩
  | j :: r, i => by
    simp only [List.foldl_cons]
    obtain ⟨h1, h2, h3⟩ := max_fold r (if i < j then j else i)
    refine ⟨?_, ?_, fun y hy => ?_⟩
    · rcases h1 with h1 | h1
      · rw [h1]
        by_cases c : i < j
        · rw [if_pos c]; exact .inr List.mem_cons_self
        · rw [if_neg c]; exact .inl rfl
      · exact .inr (List.mem_cons_of_mem _ h1)
    · refine Int.le_trans ?_ h2
      by_cases c : i < j
      · rw [if_pos c]; omega
      · rw [if_neg c]; omega
    · rcases List.mem_cons.mp hy with e | hy
      · refine Int.le_trans ?_ h2
        subst e
        by_cases c : i < y
        · rw [if_pos c]; omega
        · rw [if_neg c]; omega
      · exact h3 y hy
theorem min_fold : ∀ (r : List Int) (i : Int), (r.foldl (fun a b => if b < a then b else a) i = i ∨ r.foldl (fun a b => if b < a then b else a) i ∈ r) ∧ r.foldl (fun a b => if b < a then b else a) i ≤ i ∧ ∀ y ∈ r, r.foldl (fun a b => if b < a then b else a) i ≤ y
  | [], i => ⟨.inl rfl, Int.le_refl _, fun _ h => nomatch h⟩
  | j :: r, i => by
    simp only [List.foldl_cons]
    obtain ⟨h1, h2, h3⟩ := min_fold r (if j < i then j else i)
    refine ⟨?_, ?_, fun y hy => ?_⟩
    · rcases h1 with h1 | h1
      · rw [h1]
        by_cases c : j < i
        · rw [if_pos c]; exact .inr List.mem_cons_self
        · rw [if_neg c]; exact .inl rfl
      · exact .inr (List.mem_cons_of_mem _ h1)
    · refine Int.le_trans h2 ?_
      by_cases c : j < i
      · rw [if_pos c]; omega
      · rw [if_neg c]; omega
    · rcases List.mem_cons.mp hy with e | hy
      · refine Int.le_trans h2 ?_
        subst e
        by_cases c : y < i
        · rw [if_pos c]; omega
        · rw [if_neg c]; omega
      · exact h3 y hy
theorem maxL_ok {ns : List Int} {m : Int} (h : maxL ns = some m) : m ∈ ns ∧ ∀ y ∈ ns, y ≤ m := by
  cases ns with
  | nil => cases h
  | cons i r =>
    cases h
    obtain ⟨h1, h2, h3⟩ := max_fold r i
    refine ⟨?_, fun y hy => ?_⟩
    · rcases h1 with h1 | h1
      · rw [h1]; exact List.mem_cons_self
      · exact List.mem_cons_of_mem _ h1
    · rcases List.mem_cons.mp hy with e | hy
      · rw [e]; exact h2
      · exact h3 y hy
theorem minL_ok {ns : List Int} {m : Int} (h : minL ns = some m) : m ∈ ns ∧ ∀ y ∈ ns, m ≤ y := by
  cases ns with
  | nil => cases h
  | cons i r =>
    cases h
    obtain ⟨h1, h2, h3⟩ := min_fold r i
    refine ⟨?_, fun y hy => ?_⟩
    · rcases h1 with h1 | h1
      · rw [h1]; exact List.mem_cons_self
      · exact List.mem_cons_of_mem _ h1
    · rcases List.mem_cons.mp hy with e | hy
      · rw [e]; exact h2
      · exact h3 y hy
theorem insI_perm (i : Int) : ∀ r : List Int, (insI i r).Perm (i :: r)
  | [] => List.Perm.refl _
  | j :: r => by
    unfold insI
    by_cases c : i ≤ j
    · rw [if_pos c]
    · rw [if_neg c]
      exact ((insI_perm i r).cons j).trans (List.Perm.swap i j r)
theorem sortI_perm : ∀ r : List Int, (sortI r).Perm r
  | [] => List.Perm.refl _
  | i :: r => (insI_perm i _).trans ((sortI_perm r).cons i)
theorem insI_sorted (i : Int) : ∀ r : List Int, r.Pairwise (· ≤ ·) → (insI i r).Pairwise (· ≤ ·)
  | [], _ => by simp [insI]
  | j :: r, h => by
    unfold insI
    have h1 := List.pairwise_cons.mp h
    by_cases c : i ≤ j
    · rw [if_pos c]
      refine List.pairwise_cons.mpr ⟨fun y hy => ?_, h⟩
      rcases List.mem_cons.mp hy with e | hy
      · rw [e]; exact c
      · exact Int.le_trans c (h1.1 y hy)
    · rw [if_neg c]
      refine List.pairwise_cons.mpr ⟨fun y hy => ?_, insI_sorted i r h1.2⟩
      rcases List.mem_cons.mp ((insI_perm i r).mem_iff.mp hy) with e | hy
      · rw [e]; omega
      · exact h1.1 y hy
theorem sortI_sorted : ∀ r : List Int, (sortI r).Pairwise (· ≤ ·)
  | [] => List.Pairwise.nil
  | i :: r => insI_sorted i _ (sortI_sorted r)
theorem sorted_one {xs ys : List Int} (p : xs.Perm ys) (h1 : xs.Pairwise (· ≤ ·)) (h2 : ys.Pairwise (· ≤ ·)) : xs = ys :=
  p.eq_of_pairwise (fun a b _ _ h k => Int.le_antisymm h k) h1 h2

theorem toString_len {i : Int} (h : i.natAbs < 10 ^ 40) : (Str.ofString (toString i)).length ≤ 41 := by
  rw [PySem.ofString_length]
  exact int_text_length_le10 (by decide) h
mutual
theorem short_ok : ∀ (d : D) (p : PyData), toP d = some p → p.canLay0 = true → okRp d = true → p.leavesShort 41 = true ∧ p.showable = true ∧ p.bulk = bulk d
  | .non, p, h, _, _ => by
    simp only [toP, Option.some.injEq] at h
    subst h
    exact ⟨rfl, rfl, rfl⟩
  | .bl _, p, h, _, _ => by
    simp only [toP, Option.some.injEq] at h
    subst h
    exact ⟨rfl, rfl, rfl⟩
  | .int i, p, h, _, k => by
    simp only [toP, Option.some.injEq] at h
    subst h
    simp only [okRp, decide_eq_true_eq] at k
    refine ⟨?_, ?_, rfl⟩
    · exact decide_eq_true (toString_len k)
    · simp only [PyData.showable]
      refine decide_eq_true ?_
      by_cases e : i.natAbs = 0
      · rw [e]; decide
      · have h2 : i.natAbs.log2 < 200 := (Nat.log2_lt e).mpr (Nat.lt_trans k (by decide))
        omega
  | .str x, p, h, c, _ => by
    simp only [toP, Option.some.injEq] at h
    subst h
    refine ⟨?_, rfl, ?_⟩
    · simp only [PyData.leavesShort, List.all_eq_true, decide_eq_true_eq]
      simp only [PyData.canLay0, PyData.strOk, Array.all_eq_true', decide_eq_true_eq] at c
      intro z hz
      exact Nat.lt_trans (c z (by simpa using hz)) (by decide)
    · simp only [PyData.bulk, bulk, toS, List.size_toArray]
  | .tup xs, p, h, c, k => by
    simp only [toP] at h
    obtain ⟨ps, e, rfl⟩ := toP_map h
    obtain ⟨h1, h2, h3⟩ := shortL_ok xs ps e (by simpa only [PyData.canLay0] using c) (by simpa only [okRp] using k)
    exact ⟨by simpa only [PyData.leavesShort] using h1, by simpa only [PyData.showable] using h2, by simpa only [PyData.bulk, bulk] using h3⟩
  | .fl xs, p, h, c, k => by
    simp only [toP] at h
    obtain ⟨ps, e, rfl⟩ := toP_map h
    obtain ⟨h1, h2, h3⟩ := shortL_ok xs ps e (by simpa only [PyData.canLay0] using c) (by simpa only [okRp] using k)
    exact ⟨by simpa only [PyData.leavesShort] using h1, by simpa only [PyData.showable] using h2, by simpa only [PyData.bulk, bulk] using h3⟩
  | .sc _, p, h, _, _ => by simp only [toP] at h; cases h
  | .ins _ _, p, h, _, _ => by simp only [toP] at h; cases h
  | .ref _, p, h, _, _ => by simp only [toP] at h; cases h
  | .cls _, p, h, _, _ => by simp only [toP] at h; cases h
  | .rp _, p, h, _, _ => by simp only [toP] at h; cases h
theorem shortL_ok : ∀ (d : List D) (p : List PyData), toPs d = some p → PyData.canLayAll0 p = true → okRpL d = true → PyData.leavesShortAll 41 p = true ∧ PyData.showableAll p = true ∧ PyData.bulkAll p = bulkL d
  | [], p, h, _, _ => by
    simp only [toPs, Option.some.injEq] at h
    subst h
    exact ⟨rfl, rfl, rfl⟩
  | x :: xs, p, h, c, k => by
    obtain ⟨u, r, rfl, h1, h2⟩ := toPs_cons h
    simp only [PyData.canLayAll0, Bool.and_eq_true] at c
    simp only [okRpL, Bool.and_eq_true] at k
    obtain ⟨a1, a2, a3⟩ := short_ok x u h1 c.1 k.1
    obtain ⟨b1, b2, b3⟩ := shortL_ok xs r h2 c.2 k.2
    exact ⟨by simp only [PyData.leavesShortAll, a1, b1, Bool.and_self], by simp only [PyData.showableAll, a2, b2, Bool.and_self], by simp only [PyData.bulkAll, bulkL, a3, b3]⟩
end
theorem shown_fits {d : D} {p : PyData} (h : toP d = some p) (c : p.canLay0 = true) (k : okRp d = true) (z : bulk d ≤ 300000) : p.showable = true ∧ p.shown.length ≤ sizeLine := by
  obtain ⟨h1, h2, h3⟩ := short_ok d p h c k
  refine ⟨h2, ?_⟩
  have e := PyData.shown_le_bulk 41 (by decide) p h1
  rw [h3] at e
  rw [sizeLine_eq]
  omega

section
variable {T : Tx} {B : Bas} {F : Hp} {G : Hp} {al : Nat → Addr} {S : Store} {H : Hp}
theorem one_of {xs : List D} {vs : List V} {x : D} (r : RVs T G al S.length xs vs) (e : xs = [x]) : ∃ v, vs = [v] ∧ RV T G al S.length x v := by
  subst e
  simp only [RVs] at r
  obtain ⟨v, u, rfl, h, rfl⟩ := r
  exact ⟨v, rfl, h⟩
/-- what a built-in gives, as the evaluator hands it on -/
def biPost (k : Bool) (o : Option D) (S : Store) : R D := match o with
  | some (.fl ys) => newL k ys S
  | some d => .ok d S
  | none => .fail
theorem bi_ok (b : Bi) {k : Bool} {xs : List D} {vs : List V} {Q : VK} (s : Sim T B F G al S H) (r : RVs T G al S.length xs vs) (h : Post T B F (RV T) G al S.length (biPost k (biD b xs S) S) Q) : biR T.K b vs H Q := by
  have gI : ∀ {x : D} {v : V} {ns : List Int}, RV T G al S.length x v → (itemsL S x).bind intsOf = some ns → ∃ a, v = .ref a ∧ SqL T.K H a (ns.map V.int) := by
    intro x v ns rx hn
    cases q : itemsL S x with
    | none => rw [q] at hn; cases hn
    | some ys =>
      rw [q] at hn
      obtain ⟨a, ws, e1, e2, e3⟩ := itemsL_ok s rx q
      rw [ints_of hn] at e3
      rw [e3.ints] at e2
      exact ⟨a, e1, e2⟩
  have gB : ∀ {x : D} {v : V} {ns : List Bool}, RV T G al S.length x v → (itemsL S x).bind blsOf = some ns → ∃ a, v = .ref a ∧ SqL T.K H a (ns.map V.bl) := by
    intro x v ns rx hn
    cases q : itemsL S x with
    | none => rw [q] at hn; cases hn
    | some ys =>
      rw [q] at hn
      obtain ⟨a, ws, e1, e2, e3⟩ := itemsL_ok s rx q
      rw [bls_of hn] at e3
      rw [e3.bls] at e2
      exact ⟨a, e1, e2⟩
  cases b with
  | len =>
    simp only [biD] at h
    split at h
    · obtain ⟨v, rfl, rx⟩ := one_of r rfl
      split at h
      · rename_i ys hy
        obtain ⟨a, ws, rfl, e2, e3⟩ := items_ok s rx hy
        refine ⟨a, ws, rfl, e2, ?_⟩
        rw [← e3.len]
        exact h.ok s mk_int
      · exact h.elim
    · exact h.elim
  | int =>
    simp only [biD] at h
    split at h
    · obtain ⟨v, rfl, rx⟩ := one_of r rfl
      exact .inl ⟨_, by rw [rv_int rx], h.ok s mk_int⟩
    · obtain ⟨v, rfl, rx⟩ := one_of r rfl
      exact .inr ⟨_, by rw [rv_bl rx], h.ok s mk_int⟩
    · exact h.elim
  | abs =>
    simp only [biD] at h
    split at h
    · obtain ⟨v, rfl, rx⟩ := one_of r rfl
      exact ⟨_, by rw [rv_int rx], h.ok s mk_int⟩
    · exact h.elim
  | max2 =>
    simp only [biD] at h
    split at h
    · simp only [RVs] at r
      obtain ⟨v, u, rfl, h1, w, z, rfl, h2, rfl⟩ := r
      exact ⟨_, _, by rw [rv_int h1, rv_int h2], h.ok s mk_int⟩
    · exact h.elim
  | min2 =>
    simp only [biD] at h
    split at h
    · simp only [RVs] at r
      obtain ⟨v, u, rfl, h1, w, z, rfl, h2, rfl⟩ := r
      exact ⟨_, _, by rw [rv_int h1, rv_int h2], h.ok s mk_int⟩
    · exact h.elim
  | max1 =>
    simp only [biD] at h
    split at h
    · obtain ⟨v, rfl, rx⟩ := one_of r rfl
      split at h
      · rename_i ns hn
        obtain ⟨a, rfl, e2⟩ := gI rx hn
        cases hm : maxL ns with
        | none => rw [hm] at h; exact h.elim
        | some m =>
          rw [hm] at h
          obtain ⟨z1, z2⟩ := maxL_ok hm
          refine ⟨a, ns, rfl, e2, List.length_pos_of_mem z1, fun m' y1 y2 => ?_⟩
          have : m' = m := Int.le_antisymm (z2 _ y1) (y2 _ z1)
          subst this
          exact h.ok s mk_int
      · exact h.elim
    · exact h.elim
  | min1 =>
    simp only [biD] at h
    split at h
    · obtain ⟨v, rfl, rx⟩ := one_of r rfl
      split at h
      · rename_i ns hn
        obtain ⟨a, rfl, e2⟩ := gI rx hn
        cases hm : minL ns with
        | none => rw [hm] at h; exact h.elim
        | some m =>
          rw [hm] at h
          obtain ⟨z1, z2⟩ := minL_ok hm
          refine ⟨a, ns, rfl, e2, List.length_pos_of_mem z1, fun m' y1 y2 => ?_⟩
          have : m' = m := Int.le_antisymm (y2 _ z1) (z2 _ y1)
          subst this
          exact h.ok s mk_int
      · exact h.elim
    · exact h.elim
  | sum =>
    simp only [biD] at h
    split at h
    · obtain ⟨v, rfl, rx⟩ := one_of r rfl
      split at h
      · rename_i ns hn
        obtain ⟨a, rfl, e2⟩ := gI rx hn
        exact ⟨a, ns, rfl, e2, h.ok s mk_int⟩
      · exact h.elim
    · exact h.elim
  | tuple =>
    simp only [biD] at h
    split at h
    · obtain ⟨v, rfl, rx⟩ := one_of r rfl
      have r0 := rx
      simp only [RV] at rx
      obtain ⟨a, ws, rfl, e2, e3⟩ := rx
      exact ⟨a, ws, rfl, .inr ⟨sqT_up e2 s.le, h.ok s r0⟩⟩
    · obtain ⟨v, rfl, rx⟩ := one_of r rfl
      cases q : itemsL S _ with
      | none => rw [q] at h; exact h.elim
      | some ys =>
        rw [q] at h
        have h : Post T B F (RV T) G al S.length (.ok (.tup ys) S) Q := h
        obtain ⟨a, ws, rfl, e2, e3⟩ := itemsL_ok s rx q
        exact ⟨a, ws, rfl, .inl ⟨e2, fun p hp => Post.newT s h e3 hp⟩⟩
    · exact h.elim
  | list =>
    simp only [biD] at h
    split at h
    · obtain ⟨v, rfl, rx⟩ := one_of r rfl
      cases q : items S _ with
      | none => rw [q] at h; exact h.elim
      | some ys =>
        rw [q] at h
        have h : Post T B F (RV T) G al S.length (newL k ys S) Q := h
        obtain ⟨a, ws, rfl, e2, e3⟩ := items_ok s rx q
        exact ⟨a, ws, rfl, e2, fun p hp => Post.newL s h e3 hp⟩
    · exact h.elim
  | repr =>
    simp only [biD] at h
    split at h
    · obtain ⟨v, rfl, rx⟩ := one_of r rfl
      cases q : deep S deepest _ with
      | none => rw [q] at h; exact h.elim
      | some d =>
        rw [q] at h
        simp only [Option.bind_some, rpD] at h
        split at h
        · rename_i hz
          simp only [Bool.and_eq_true, decide_eq_true_eq] at hz
          obtain ⟨p, k1, k2, k3, k4⟩ := deep_ok s deepest _ v d rx q
          obtain ⟨z1, z2⟩ := shown_fits k1 k3 hz.1 hz.2
          refine ⟨v, p, rfl, k2, z1, PyData.hasDict_of_canLay p k3, ?_, z2, h.ok s ?_⟩
          · have : deepest = 20 := rfl
            omega
          · simp only [RV]
            exact ⟨p, k1, rfl⟩
        · exact h.elim
    · exact h.elim
  | anyB =>
    simp only [biD] at h
    split at h
    · obtain ⟨v, rfl, rx⟩ := one_of r rfl
      split at h
      · rename_i ns hn
        obtain ⟨a, rfl, e2⟩ := gB rx hn
        exact ⟨a, ns, rfl, e2, h.ok s mk_bl⟩
      · exact h.elim
    · exact h.elim
  | allB =>
    simp only [biD] at h
    split at h
    · obtain ⟨v, rfl, rx⟩ := one_of r rfl
      split at h
      · rename_i ns hn
        obtain ⟨a, rfl, e2⟩ := gB rx hn
        exact ⟨a, ns, rfl, e2, h.ok s mk_bl⟩
      · exact h.elim
    · exact h.elim
  | sorted =>
    simp only [biD] at h
    split at h
    · obtain ⟨v, rfl, rx⟩ := one_of r rfl
      split at h
      · rename_i ns hn
        split at h
        · rename_i hz
          obtain ⟨a, rfl, e2⟩ := gI rx hn
          refine ⟨a, ns, rfl, e2, hz, fun ns' p h1 h2 hp => ?_⟩
          have e : ns' = sortI ns := sorted_one (h1.trans (sortI_perm ns).symm) h2 (sortI_sorted ns)
          rw [e]
          exact Post.newL s h (RVs.of_ints _) hp
        · exact h.elim
      · exact h.elim
    · exact h.elim
end
end Ip

set_option Elab.async false
set_option linter.all false
set_option maxRecDepth 100000
set_option maxHeartbeats 1000000
set_option autoImplicit false
/-! IpC5: contexts, calls, targets, what is walked. -/
namespace Ip
open PySem PySem.Spec PyProof.Rows L2

/-- the names that stand behind numbers -/
structure Nm where
  fn : List (Nat × PySem.Str)
  free : List PySem.Str

/-- a context of the text's own: its scope as written is sc, its names are N -/
structure XG (T : Tx) (J : Nm) (N : List PySem.Str) (k : Nat) (sc : Scope) (X : L2.Cx) : Prop where
  hP : X.prog = T.P
  hw : X.w = T.w
  hK : X.K = T.K
  hm : X.mg = T.mg
  hb : X.base = T.base
  hN : X.N = N
  nd : N.Nodup
  calm : X.calm = true
  vis : ∀ x, Vis sc x → Vis X.env.scope x
  loc : ∀ x, sc.names.lookup x = some .local → X.env.scope.names.lookup x = some .local
  cel : ∀ x, sc.names.lookup x = some .cell → X.env.scope.names.lookup x = some .cell ∧ X.fn x = true
  fre : ∀ x, sc.names.lookup x = some .free → X.env.scope.names.lookup x = some .cell ∨ X.env.scope.names.lookup x = some .free
  glo : ∀ x, sc.names.lookup x = some .globalImplicit → X.env.scope.names.lookup x = some .globalImplicit
  kind : X.env.scope.kind = .function
  room : Room k X.A
  grd : X.A.guards = some []
  free : ∀ x, x ∈ J.free → T.mg x = none

theorem XG.un {T : Tx} {J : Nm} {N : List PySem.Str} {k : Nat} {sc : Scope} {X : L2.Cx} (g : XG T J N k sc X) : X.A.units + 65 < cLine := by
  have h := g.room.un
  omega
theorem XG.nofree {T : Tx} {J : Nm} {N : List PySem.Str} {k : Nat} {sc : Scope} {X : L2.Cx} (g : XG T J N k sc X) {x : PySem.Str} (h : x ∈ J.free) : X.mg x = none := by rw [g.hm]; exact g.free x h

/-! ### a def that is called -/
/-- a def keeps its word, called where no repr is under way -/
structure FOk (P : Program) (w : World) (K : PySem.W.Frag) (mg : PySem.Str → Option Value) (base : Heap) (k : Nat) (a : Addr) (fd : FuncData) (ps : List PySem.Str) (sp : Sp) : Prop where
  len : ∀ vs H Q E, sp vs H Q E → vs.length = ps.length
  go : ∀ (A : Around) (outer : List PySem.Env) (s : Shared) (H : Hp) (args : Args) (us : List Value) (vs : List V) (Q : VK), Room k A → A.guards = some [] → Env0 P w K mg base A outer s H → BindsTo s fd args (ps.zip us) →
    Vals vs us → sp vs H Q E0 → codeAny (model P w) A (.call (.ref a) args) (CR CX0 outer P w H s Q E0) s

/-- what a call of the evaluator promises -/
def spC (T : Tx) (g : List D → Store → R D) : Sp := fun vs H Q _ => ∃ (B : Bas) (F G : Hp) (al : Nat → Addr) (S : Store) (ds : List D), Sim T B F G al S H ∧ RVs T G al S.length ds vs ∧ Post T B F (RV T) G al S.length (g ds S) Q

/-- each known number is a def's -/
def CallOk (T : Tx) (J : Nm) (k : Nat) (call : Nat → List D → Store → R D) : Prop := ∀ f x, nget f J.fn = some x →
  ∃ (a : Addr) (fd : FuncData) (ps : List PySem.Str), T.mg x = some (.ref a) ∧ PySem.W.keepIn T.K (.ref a) = true ∧ Binds T.K fd ps [] ∧ FOk T.P T.w T.K T.mg T.base k a fd ps (spC T (call f))

section
variable {T : Tx} {J : Nm} {N : List PySem.Str} {k : Nat} {sc : Scope} {X : L2.Cx}
theorem FOk.at_ (g : XG T J N k sc X) {a : Addr} {fd : FuncData} {ps : List PySem.Str} {sp : Sp} (F : FOk T.P T.w T.K T.mg T.base k a fd ps sp) : FOk X.prog X.w X.K X.mg X.base k a fd ps sp := by
  rw [g.hP, g.hw, g.hK, g.hm, g.hb]
  exact F
theorem go_fn (g : XG T J N k sc X) {a : Addr} {fd : FuncData} {ps : List PySem.Str} {sp : Sp} {pins : List (Addr × Obj)} {σ : L2.St} {H : Hp} {s : Shared} {Q : VK} {us : List Value} {vs : List V}
    (F : FOk X.prog X.w X.K X.mg X.base k a fd ps sp) (hb : Binds X.K fd ps []) (I : Inv X pins σ H s) (r : Vals vs us) (h : sp vs H Q E0) : wpAny (model X.prog X.w) X.A (call (.ref a) us) (EP X pins σ Q) X.xe s := by
  have hl : us.length = ps.length := by
    rw [← r.length]
    exact F.len _ _ _ _ h
  have hbb := hb s us I.kIn (by rw [List.append_nil]; exact hl)
  rw [List.append_nil] at hbb
  refine wpAny_call (codeAny_mono (F.go X.A X.stack s H ⟨us, []⟩ us vs Q g.room g.grd I.env0 hbb r h) fun res s' hq => ?_)
  match res, hq with
  | .ok (.ret u), hq => exact I.after hq
theorem starOk : ∀ {es : List Expr} {env : PySem.Env} {pos : Pos}, (∀ e ∈ es, ∀ a b, e ≠ .Starred a b) → (backTo pos (starEach es env)).any (·.1) = false
  | [], _, _, _ => rfl
  | e :: es, env, pos, h => by
    have h1 := starOk (env := env) (pos := pos) fun x hx => h x (List.mem_cons_of_mem _ hx)
    have h2 := h e List.mem_cons_self
    cases e with
    | Starred a b => exact (h2 a b rfl).elim
    | _ =>
      unfold backTo at h1 ⊢
      simp only [starEach, List.map_cons, List.any_cons, Bool.false_or]
      exact h1
theorem starOne {e : Expr} {es : List Expr} {env : PySem.Env} (h : ∀ a b, e ≠ .Starred a b) : starEach (e :: es) env = (false, eval e env) :: starEach es env := by
  cases e with
  | Starred a b => exact (h a b rfl).elim
  | _ => rfl
theorem pe_callG (g : XG T J N k sc X) {a : Addr} {fd : FuncData} {ps : List PySem.Str} {sp : Sp} {x : PySem.Str} {p pos : Pos} {es : List Expr} {t : TA} (F : FOk T.P T.w T.K T.mg T.base k a fd ps sp) (hg : Gl X x) (hm : T.mg x = some (.ref a))
    (hk : PySem.W.keepIn T.K (.ref a) = true) (hb : Binds T.K fd ps []) (ha : PA X es t) (hns : ∀ e ∈ es, ∀ a b, e ≠ .Starred a b) (hdb : (x == ("__debug__" : PySem.Str)) = false) (hnil : es = [] → ∀ σ H Q, t σ H Q → Q [] H) : PE X (.Call (.Name x p) es [] pos) (fun σ H Q => t σ H fun vs H1 => sp vs H1 Q E0) := by
  have hm' : X.mg x = some (.ref a) := by rw [g.hm]; exact hm
  have hb' : Binds X.K fd ps [] := by rw [g.hK]; exact hb
  have hk' : PySem.W.keepIn X.K (.ref a) = true := by rw [g.hK]; exact hk
  refine ⟨fun pins s σ H Q I h => ?_⟩
  refine wpAny_Call_Name_kw (ld_glob I hg hm' ?_ hdb)
  cases es with
  | nil => exact PySem.W.callWith_K0 I.kIn hk' (go_fn g (F.at_ g) hb' I (us := []) .nil (hnil rfl _ _ _ h))
  | cons e es =>
    exact PySem.W.callWith_K (h₀ := X.base) I.ok.mod.kin hk' (thn (ha.run pos pins s σ H _ I h) fun us s1 ⟨vs, H1, I1, r, q⟩ => ⟨I1.kIn, go_fn g (F.at_ g) hb' I1 r q⟩)
      (starOne (hns e List.mem_cons_self)) (starOk fun x hx => hns x (List.mem_cons_of_mem _ hx))
end

/-! ### targets -/
def setAllV : List Nat → List V → L2.St → L2.St
  | i :: is, v :: vs, σ => setAllV is vs (σ.set i (some v))
  | _, _, σ => σ
/-- the frame's names but those of L -/
def REx (T : Tx) (G : Hp) (al : Nat → Addr) (n : Nat) (L : List Nat) (ρ : Env) (σ : L2.St) : Prop :=
  ρ.length = σ.length ∧ ∀ (i : Nat) (d : D), i ∉ L → ρ[i]? = some (some d) → ∃ v, σ[i]? = some (some v) ∧ RV T G al n d v
section
variable {T : Tx} {B : Bas} {F G : Hp} {al : Nat → Addr} {n : Nat}
theorem RE.ex {L : List Nat} {ρ : Env} {σ : L2.St} (h : RE T G al n ρ σ) : REx T G al n L ρ σ := ⟨h.1, fun i d _ e => h.2 i d e⟩
theorem REx.set {L : List Nat} {ρ : Env} {σ : L2.St} {i : Nat} {d : D} {v : V} (h : REx T G al n (i :: L) ρ σ) (r : RV T G al n d v) : REx T G al n L (ρ.set i (some d)) (σ.set i (some v)) := by
  refine ⟨by rw [List.length_set, List.length_set]; exact h.1, fun j e hj q => ?_⟩
  by_cases c : j = i
  · subst c
    have hl : j < ρ.length := by
      have := (List.getElem?_eq_some_iff.mp q).1
      rwa [List.length_set] at this
    rw [List.getElem?_set_self hl] at q
    cases q
    exact ⟨v, List.getElem?_set_self (by rw [← h.1]; exact hl), r⟩
  · rw [List.getElem?_set_ne (Ne.symm c)] at q
    obtain ⟨w, h1, h2⟩ := h.2 j e (by simp only [List.mem_cons, not_or]; exact ⟨c, hj⟩) q
    exact ⟨w, by rw [List.getElem?_set_ne (Ne.symm c)]; exact h1, h2⟩
theorem REx.setAll : ∀ {is : List Nat} {ds : List D} {vs : List V} {ρ : Env} {σ : L2.St}, REx T G al n is ρ σ → RVs T G al n ds vs → is.length = ds.length → RE T G al n (Ip.setAll is ds ρ) (setAllV is vs σ)
  | [], ds, vs, ρ, σ, h, r, e => by
    cases ds with
    | nil =>
      simp only [RVs] at r
      subst r
      exact ⟨h.1, fun i d q => h.2 i d (by simp) q⟩
    | cons _ _ => cases e
  | i :: is, ds, vs, ρ, σ, h, r, e => by
    cases ds with
    | nil => cases e
    | cons d ds =>
      simp only [RVs] at r
      obtain ⟨v, u, rfl, r1, r2⟩ := r
      show RE T G al n (Ip.setAll is ds (ρ.set i (some d))) (setAllV is u (σ.set i (some v)))
      exact REx.setAll (h.set r1) r2 (by simpa using e)
theorem setAllV_len : ∀ (is : List Nat) (vs : List V) (σ : L2.St), (setAllV is vs σ).length = σ.length
  | [], _, _ => rfl
  | _ :: _, [], _ => rfl
  | i :: is, v :: vs, σ => by
    show (setAllV is vs _).length = _
    rw [setAllV_len, List.length_set]
theorem setAllV_out : ∀ (is : List Nat) (vs : List V) (σ : L2.St) (j : Nat), j ∉ is → (setAllV is vs σ)[j]? = σ[j]?
  | [], _, _, _, _ => rfl
  | _ :: _, [], _, _, _ => rfl
  | i :: is, v :: vs, σ, j, h => by
    simp only [List.mem_cons, not_or] at h
    show (setAllV is vs _)[j]? = _
    rw [setAllV_out is vs _ j h.2, List.getElem?_set_ne (Ne.symm h.1)]

def gsOf : List Nat → TGs
  | [] => gNil
  | i :: is => gCons (gName i) (gsOf is)
def tgG (K : PySem.W.Frag) : Tg → TG
  | .nm i => gName i
  | .tp is => gTup K is.length (gsOf is)
def slotsOf : Tg → List Nat
  | .nm i => [i]
  | .tp is => is
theorem gs_ok : ∀ {is : List Nat} {vs : List V} {σ : L2.St} {H : Hp} {Q : L2.St → Hp → Prop}, is.length = vs.length → Q (setAllV is vs σ) H → gsOf is vs σ H Q
  | [], vs, σ, H, Q, e, h => by
    cases vs with
    | nil => exact ⟨rfl, h⟩
    | cons _ _ => cases e
  | i :: is, vs, σ, H, Q, e, h => by
    cases vs with
    | nil => cases e
    | cons v vs => exact ⟨v, vs, rfl, gs_ok (by simpa using e) h⟩
theorem tg_ok {S : Store} {H : Hp} {t : Tg} {d : D} {v : V} {ρ ρ' : Env} {σ : L2.St} {Q : L2.St → Hp → Prop} (s : Sim T B F G al S H) (e : REx T G al S.length (slotsOf t) ρ σ) (r : RV T G al S.length d v) (h : tgD t d ρ S = some ρ')
    (q : ∀ σ', RE T G al S.length ρ' σ' → σ'.length = σ.length → (∀ j, j ∉ slotsOf t → σ'[j]? = σ[j]?) → Q σ' H) : tgG T.K t v σ H Q := by
  cases t with
  | nm i =>
    cases h
    refine q _ ?_ (by rw [List.length_set]) fun j hj => ?_
    · exact ⟨(REx.set (L := []) e r).1, fun j x z => (REx.set (L := []) e r).2 j x (by simp) z⟩
    · simp only [slotsOf, List.mem_singleton] at hj
      rw [List.getElem?_set_ne (Ne.symm hj)]
  | tp is =>
    unfold tgD at h
    dsimp only at h
    split at h
    · rename_i xs
      split at h
      · rename_i hl
        cases h
        have hl : xs.length = is.length := eq_of_beq hl
        simp only [RV] at r
        obtain ⟨a, vs, rfl, ha, hv⟩ := r
        have e2 := hv.len
        refine ⟨a, vs, rfl, sqT_up ha s.le, by omega, gs_ok (by omega) ?_⟩
        exact q _ (REx.setAll e hv hl.symm) (setAllV_len _ _ _) fun j hj => setAllV_out _ _ _ _ hj
      · cases h
    · cases h
end

/-! ### scopes -/
def isVis (sc : Scope) (x : PySem.Str) : Bool := match sc.names.lookup x with
  | some .local => true
  | some .cell => true
  | some .free => true
  | _ => false
def isLoc (sc : Scope) (x : PySem.Str) : Bool := match sc.names.lookup x with
  | some .local => true
  | some .cell => true
  | _ => false
def isGlo (sc : Scope) (x : PySem.Str) : Bool := match sc.names.lookup x with
  | some .globalImplicit => true
  | _ => false
theorem isVis_ok {sc : Scope} {x : PySem.Str} (h : isVis sc x = true) : Vis sc x := by
  unfold isVis at h
  split at h <;> first | (rename_i e; exact .inl e) | (rename_i e; exact .inr (.inl e)) | (rename_i e; exact .inr (.inr e)) | cases h
theorem isGlo_ok {sc : Scope} {x : PySem.Str} (h : isGlo sc x = true) : sc.names.lookup x = some .globalImplicit := by
  unfold isGlo at h
  split at h
  · assumption
  · cases h
theorem isLoc_ok {sc : Scope} {x : PySem.Str} (h : isLoc sc x = true) : sc.names.lookup x = some .local ∨ sc.names.lookup x = some .cell := by
  unfold isLoc at h
  split at h
  · exact .inl (by assumption)
  · exact .inr (by assumption)
  · cases h
/-- a name at its place -/
def atN (N : List PySem.Str) (i : Nat) (x : PySem.Str) : Bool := decide (N[i]? = some x)
def nmOk (x : PySem.Str) : Bool := !(x == ("__debug__" : PySem.Str)) && !(x == ("__classdict__" : PySem.Str))

section
variable {T : Tx} {J : Nm} {N : List PySem.Str} {k : Nat} {sc : Scope} {X : L2.Cx}
theorem XG.gl (g : XG T J N k sc X) {x : PySem.Str} (h : isGlo sc x = true) : Gl X x := g.glo x (isGlo_ok h)
theorem XG.at_ (g : XG T J N k sc X) {i : Nat} {x : PySem.Str} (h : atN N i x = true) : X.N[i]? = some x := by
  rw [g.hN]
  exact of_decide_eq_true h
/-- a stored name -/
theorem XG.pg (g : XG T J N k sc X) {i : Nat} {x : PySem.Str} {p : Pos} (h : atN N i x = true) (hl : isLoc sc x = true) : PG X (.Name x p) (gName i) := by
  rcases isLoc_ok hl with e | e
  · exact pg_name (by rw [g.hN]; exact g.nd) (g.at_ h) (.inl (g.loc x e)) (.inr (g.loc x e))
  · exact pg_name (by rw [g.hN]; exact g.nd) (g.at_ h) (.inr (g.cel x e).1) (.inl (g.cel x e).2)
def chkNs (N : List PySem.Str) (sc : Scope) : List Expr → List Nat → Bool
  | [], [] => true
  | .Name x _ :: es, i :: is => atN N i x && (isLoc sc x && chkNs N sc es is)
  | _, _ => false
def chkTg (N : List PySem.Str) (sc : Scope) (e : Expr) (t : Tg) : Bool := match t with
  | .nm i => match e with
    | .Name x _ => atN N i x && isLoc sc x
    | _ => false
  | .tp is => match e with
    | .Tuple es _ _ => chkNs N sc es is
    | _ => false
theorem chkNs_ok (g : XG T J N k sc X) : ∀ {es : List Expr} {is : List Nat}, chkNs N sc es is = true → PGs X es (gsOf is) ∧ (assignEach es X.env).length = is.length ∧ (assignEach es X.env).findIdx? (·.1) = none
  | [], [], _ => ⟨pgs_nil, rfl, rfl⟩
  | e :: es, [], h => by cases e <;> cases h
  | [], i :: is, h => by cases h
  | e :: es, i :: is, h => by
    cases e with
    | Name x p =>
      simp only [chkNs, Bool.and_eq_true] at h
      obtain ⟨h1, h2, h3⟩ := chkNs_ok g h.2.2
      refine ⟨pgs_cons (g.pg h.1 h.2.1) h1 rfl, ?_, ?_⟩
      · show (assignEach es X.env).length + 1 = _
        rw [h2] <;> rfl
      · show List.findIdx? _ (_ :: assignEach es X.env) = none
        rw [List.findIdx?_cons]
        simp only [Bool.false_eq_true, if_false, h3, Option.map_none]
    | _ => cases h
theorem chkTg_ok (g : XG T J N k sc X) {e : Expr} {t : Tg} (h : chkTg N sc e t = true) : PG X e (tgG T.K t) := by
  cases t with
  | nm i =>
    cases e with
    | Name x p =>
      simp only [chkTg, Bool.and_eq_true] at h
      exact g.pg h.1 h.2
    | _ => cases h
  | tp is =>
    cases e with
    | Tuple es kk p =>
      simp only [chkTg] at h
      obtain ⟨h1, h2, h3⟩ := chkNs_ok g h
      have := pg_tup (X := X) (k := kk) (pos := p) g.calm h1 h2 h3
      rw [g.hK] at this
      exact this
    | _ => cases h
end

/-! ### what is walked -/
section
variable {T : Tx} {B : Bas} {F G : Hp} {al : Nat → Addr}
/-- J walks the items of w, while what is locked stands -/
def Walks (T : Tx) (B : Bas) (G : Hp) (al : Nat → Addr) (S : Store) (w : Wk) (J : L2.It) : Prop :=
  ∀ (i : Nat) (F' G' : Hp) (al' : Nat → Addr) (S' : Store) (H' : Hp), Ext G al S.length G' al' S'.length → Sim T B F' G' al' S' H' → lockAll w.lk S S' = true →
    (w.xs.length ≤ i → J.stop i H') ∧ ∀ d, w.xs[i]? = some d → J.go i H' ∧ ∀ x H2, J.yld i H' x H2 → ∃ G2, Ext G' al' S'.length G2 al' S'.length ∧ Sim T B F' G2 al' S' H2 ∧ RV T G2 al' S'.length d x
/-- the reading of what is walked -/
def rdI (T : Tx) (B : Bas) (f : Env → Store → R Wk) : TI := fun σ H Q => ∃ (F G : Hp) (al : Nat → Addr) (ρ : Env) (S : Store), Sim T B F G al S H ∧ RE T G al S.length ρ σ ∧
  match f ρ S with
  | .ok w S' => ∀ G' al' H' J, Ext G al S.length G' al' S'.length → Sim T B F G' al' S' H' → lockAll w.lk S' S' = true → Walks T B G' al' S' w J → Q J H'
  | _ => False
theorem pi_imp {X : L2.Cx} {tg e : Expr} {t t' : TI} (h : PI X tg e t) (k : ∀ σ H Q, t' σ H Q → t σ H Q) : PI X tg e t' := ⟨fun pins s σ H Q I q => h.run pins s σ H Q I (k σ H Q q)⟩
theorem pi_or {X : L2.Cx} {tg e : Expr} {t t' : TI} (h : PI X tg e t) (h' : PI X tg e t') : PI X tg e (fun σ H Q => t σ H Q ∨ t' σ H Q) := ⟨fun pins s σ H Q I q => q.elim (h.run pins s σ H Q I) (h'.run pins s σ H Q I)⟩
theorem lockAll_one {x : D} {S S' : Store} (h : lockAll [x] S S' = true) : lock x S S' = true := by
  simpa [lockAll] using h
theorem lockAll_two {x y : D} {S S' : Store} (h : lockAll [x, y] S S' = true) : lock x S S' = true ∧ lock y S S' = true := by
  simpa [lockAll] using h
/-- what is locked is still there -/
theorem lock_L {S S' : Store} {x : D} {xs : List D} (h : itemsL S x = some xs) (hl : lock x S S' = true) : itemsL S' x = some xs := by
  cases x with
  | ref i =>
    unfold lock at hl
    dsimp only at hl
    unfold itemsL at h ⊢
    dsimp only at h ⊢
    split at hl
    · rename_i ys zs h1 h2
      rw [h1] at h
      rw [h2]
      cases h
      rw [sameL_eq _ _ hl]
    · cases hl
  | _ => exact h
theorem walk_L {S : Store} {H : Hp} {x : D} {v : V} {xs : List D} (s : Sim T B F G al S H) (r : RV T G al S.length x v) (h : itemsL S x = some xs) : ∃ a, v = .ref a ∧ (∃ vs, SqL T.K H a vs) ∧ Walks T B G al S ⟨xs, [x]⟩ (Itl T.K a) := by
  obtain ⟨a, vs, rfl, h1, h2⟩ := itemsL_ok s r h
  refine ⟨a, rfl, ⟨vs, h1⟩, fun i F' G' al' S' H' e s' hl => ?_⟩
  obtain ⟨b, ws, e1, q1, q2⟩ := itemsL_ok s' (RV.up e _ _ r) (lock_L h (lockAll_one hl))
  cases e1
  refine ⟨fun hi => ⟨ws, q1, by rw [← q2.len]; exact hi⟩, fun d hd => ?_⟩
  obtain ⟨u, k1, k2⟩ := q2.get hd
  refine ⟨⟨ws, u, q1, k1⟩, fun y H2 hy => ?_⟩
  obtain ⟨rfl, hy⟩ := hy
  have := hy ws q1
  rw [k1] at this
  cases this
  exact ⟨G', Ext.refl, s', k2⟩
theorem walk_T {S : Store} {H : Hp} {xs : List D} {v : V} (s : Sim T B F G al S H) (r : RV T G al S.length (.tup xs) v) : ∃ a, v = .ref a ∧ (∃ vs, SqT T.K H a vs) ∧ Walks T B G al S ⟨xs, [.tup xs]⟩ (Itt T.K a) := by
  have r0 := r
  simp only [RV] at r0
  obtain ⟨a, vs, rfl, h1, h2⟩ := r0
  refine ⟨a, rfl, ⟨vs, sqT_up h1 s.le⟩, fun i F' G' al' S' H' e s' _ => ?_⟩
  have r1 := RV.up e _ _ r
  simp only [RV] at r1
  obtain ⟨b, ws, e1, q1, q2⟩ := r1
  cases e1
  have q1 := sqT_up q1 s'.le
  refine ⟨fun hi => ⟨ws, q1, by rw [← q2.len]; exact hi⟩, fun d hd => ?_⟩
  obtain ⟨u, k1, k2⟩ := q2.get hd
  refine ⟨⟨ws, u, q1, k1⟩, fun y H2 hy => ?_⟩
  obtain ⟨rfl, hy⟩ := hy
  have := hy ws q1
  rw [k1] at this
  cases this
  exact ⟨G', Ext.refl, s', k2⟩
theorem rngL_get {lo : Int} {n i : Nat} {d : D} (h : (rngL lo n)[i]? = some d) : i < n ∧ d = .int (lo + (i : Nat)) := by
  unfold rngL at h
  rw [List.getElem?_map] at h
  cases q : (List.range n)[i]? with
  | none => rw [q] at h; cases h
  | some j =>
    rw [q] at h
    cases h
    obtain ⟨h1, h2⟩ := List.getElem?_eq_some_iff.mp q
    rw [List.length_range] at h1
    rw [List.getElem_range] at h2
    exact ⟨h1, by rw [h2]⟩
theorem rngL_len {lo : Int} {n : Nat} : (rngL lo n).length = n := by simp [rngL]
theorem walk_R {S : Store} {lo : Int} {n : Nat} : Walks T B G al S ⟨rngL lo n, []⟩ (Itr lo n) := by
  intro i F' G' al' S' H' e s' _
  refine ⟨fun hi => by rw [rngL_len] at hi; exact hi, fun d hd => ?_⟩
  obtain ⟨h1, rfl⟩ := rngL_get hd
  refine ⟨h1, fun y H2 hy => ?_⟩
  obtain ⟨rfl, rfl⟩ := hy
  exact ⟨G', Ext.refl, s', mk_int⟩
theorem enumL_get : ∀ {xs : List D} {k i : Nat} {d : D}, (enumL k xs)[i]? = some d → ∃ x, xs[i]? = some x ∧ d = .tup [.int ((k + i : Nat) : Int), x]
  | [], _, _, _, h => by simp [enumL] at h
  | x :: xs, k, 0, d, h => by
    simp [enumL] at h
    exact ⟨x, by simp, h.symm⟩
  | x :: xs, k, i + 1, d, h => by
    simp only [enumL, List.getElem?_cons_succ] at h
    obtain ⟨y, h1, h2⟩ := enumL_get h
    refine ⟨y, by simpa using h1, ?_⟩
    rw [h2]
    have : k + 1 + i = k + (i + 1) := by omega
    rw [this]
theorem enumL_len : ∀ {xs : List D} {k : Nat}, (enumL k xs).length = xs.length
  | [], _ => rfl
  | x :: xs, k => by simp [enumL, enumL_len (xs := xs)]
/-- a new tuple of two -/
theorem Sim.pair {S : Store} {H : Hp} (s : Sim T B F G al S H) {x y : D} {v w : V} (r : RV T G al S.length x v) (q : RV T G al S.length y w) {p : Addr} (hp : H p = none) :
    ∃ G2, Ext G al S.length G2 al S.length ∧ Sim T B F G2 al S (upd H p (.tup [v, w])) ∧ RV T G2 al S.length (.tup [x, y]) (.ref p) := by
  obtain ⟨e, s2⟩ := s.ice hp (.tup [v, w])
  refine ⟨_, e, s2, ?_⟩
  simp only [RV]
  exact ⟨p, _, rfl, SqT.of upd_same, RVs.cons (RV.up e _ _ r) (RVs.cons (RV.up e _ _ q) RVs.nil)⟩
theorem walk_E {S : Store} {H : Hp} {x : D} {v : V} {xs : List D} (s : Sim T B F G al S H) (r : RV T G al S.length x v) (h : itemsL S x = some xs) : ∃ a vs, v = .ref a ∧ SqL T.K H a vs ∧ Walks T B G al S ⟨enumL 0 xs, [x]⟩ (Ite T.K a) := by
  obtain ⟨a, vs, rfl, h1, h2⟩ := itemsL_ok s r h
  refine ⟨a, vs, rfl, h1, fun i F' G' al' S' H' e s' hl => ?_⟩
  obtain ⟨b, ws, e1, q1, q2⟩ := itemsL_ok s' (RV.up e _ _ r) (lock_L h (lockAll_one hl))
  cases e1
  refine ⟨fun hi => ⟨ws, q1, by rw [← q2.len]; rw [enumL_len] at hi; exact hi⟩, fun d hd => ?_⟩
  obtain ⟨z, hz, rfl⟩ := enumL_get hd
  obtain ⟨u, k1, k2⟩ := q2.get hz
  refine ⟨⟨ws, u, q1, k1⟩, fun y H2 hy => ?_⟩
  obtain ⟨p, u', rfl, hp, rfl, hy⟩ := hy
  have := hy ws q1
  rw [k1] at this
  cases this
  rw [Nat.zero_add]
  exact s'.pair mk_int k2 hp
theorem zipL_get : ∀ {xs ys : List D} {i : Nat} {d : D}, (zipL xs ys)[i]? = some d → ∃ x y, xs[i]? = some x ∧ ys[i]? = some y ∧ d = .tup [x, y]
  | [], ys, _, _, h => by simp [zipL] at h
  | _ :: _, [], _, _, h => by simp [zipL] at h
  | x :: xs, y :: ys, 0, d, h => by
    simp [zipL] at h
    exact ⟨x, y, by simp, by simp, h.symm⟩
  | x :: xs, y :: ys, i + 1, d, h => by
    simp only [zipL, List.getElem?_cons_succ] at h ⊢
    exact zipL_get h
theorem zipL_len : ∀ {xs ys : List D} {i : Nat}, (zipL xs ys).length ≤ i → xs.length ≤ i ∨ ys.length ≤ i
  | [], ys, i, _ => .inl (Nat.zero_le _)
  | _ :: _, [], i, _ => .inr (Nat.zero_le _)
  | x :: xs, y :: ys, 0, h => by simp [zipL] at h
  | x :: xs, y :: ys, i + 1, h => by
    simp only [zipL, List.length_cons, Nat.add_le_add_iff_right] at h ⊢
    exact zipL_len h
theorem walk_ZL {S : Store} {H : Hp} {x y : D} {v w : V} {xs ys : List D} (s : Sim T B F G al S H) (r : RV T G al S.length x v) (h : itemsL S x = some xs) (r' : RV T G al S.length y w) (h' : itemsL S y = some ys) :
    ∃ a b vs ws, v = .ref a ∧ w = .ref b ∧ SqL T.K H a vs ∧ SqL T.K H b ws ∧ Walks T B G al S ⟨zipL xs ys, [x, y]⟩ (Itz T.K a b) := by
  obtain ⟨a, vs, rfl, h1, h2⟩ := itemsL_ok s r h
  obtain ⟨b, ws, rfl, h1', h2'⟩ := itemsL_ok s r' h'
  refine ⟨a, b, vs, ws, rfl, rfl, h1, h1', fun i F' G' al' S' H' e s' hl => ?_⟩
  obtain ⟨l1, l2⟩ := lockAll_two hl
  obtain ⟨a2, vs2, e1, q1, q2⟩ := itemsL_ok s' (RV.up e _ _ r) (lock_L h l1)
  obtain ⟨b2, ws2, e2, q3, q4⟩ := itemsL_ok s' (RV.up e _ _ r') (lock_L h' l2)
  cases e1
  cases e2
  refine ⟨fun hi => ⟨vs2, ws2, q1, q3, by rw [← q2.len, ← q4.len]; exact zipL_len hi⟩, fun d hd => ?_⟩
  obtain ⟨p, q, hp, hq, rfl⟩ := zipL_get hd
  obtain ⟨u, k1, k2⟩ := q2.get hp
  obtain ⟨u', k3, k4⟩ := q4.get hq
  refine ⟨⟨vs2, ws2, u, u', q1, q3, k1, k3⟩, fun z H2 hz => ?_⟩
  obtain ⟨pp, x1, y1, rfl, hpp, rfl, hx, hy⟩ := hz
  have e1 := hx vs2 q1
  have e2 := hy ws2 q3
  rw [k1] at e1
  rw [k3] at e2
  cases e1
  cases e2
  exact s'.pair k2 k4 hpp
theorem walk_ZT {S : Store} {H : Hp} {xs ys : List D} {v w : V} (s : Sim T B F G al S H) (r : RV T G al S.length (.tup xs) v) (r' : RV T G al S.length (.tup ys) w) :
    ∃ a b vs ws, v = .ref a ∧ w = .ref b ∧ SqT T.K H a vs ∧ SqT T.K H b ws ∧ Walks T B G al S ⟨zipL xs ys, [.tup xs, .tup ys]⟩ (RZ.ItzT T.K a b) := by
  have r0 := r
  have r0' := r'
  simp only [RV] at r0 r0'
  obtain ⟨a, vs, rfl, h1, h2⟩ := r0
  obtain ⟨b, ws, rfl, h1', h2'⟩ := r0'
  refine ⟨a, b, vs, ws, rfl, rfl, sqT_up h1 s.le, sqT_up h1' s.le, fun i F' G' al' S' H' e s' _ => ?_⟩
  have r1 := RV.up e _ _ r
  have r1' := RV.up e _ _ r'
  simp only [RV] at r1 r1'
  obtain ⟨a2, vs2, e1, q1, q2⟩ := r1
  obtain ⟨b2, ws2, e2, q3, q4⟩ := r1'
  cases e1
  cases e2
  have q1 := sqT_up q1 s'.le
  have q3 := sqT_up q3 s'.le
  refine ⟨fun hi => ⟨vs2, ws2, q1, q3, by rw [← q2.len, ← q4.len]; exact zipL_len hi⟩, fun d hd => ?_⟩
  obtain ⟨p, q, hp, hq, rfl⟩ := zipL_get hd
  obtain ⟨u, k1, k2⟩ := q2.get hp
  obtain ⟨u', k3, k4⟩ := q4.get hq
  refine ⟨⟨vs2, ws2, u, u', q1, q3, k1, k3⟩, fun z H2 hz => ?_⟩
  obtain ⟨pp, x1, y1, rfl, hpp, rfl, hx, hy⟩ := hz
  have e1 := hx vs2 q1
  have e2 := hy ws2 q3
  rw [k1] at e1
  rw [k3] at e2
  cases e1
  cases e2
  exact s'.pair k2 k4 hpp
end
end Ip

set_option Elab.async false
set_option linter.all false
set_option maxRecDepth 100000
set_option maxHeartbeats 1000000
set_option autoImplicit false
/-! IpC6: comprehensions, the pieces of expressions. -/
namespace Ip
open PySem PySem.Spec PyProof.Rows L2

/-! ### a thing that the evaluator does not know -/
section
variable {T : Tx} {B : Bas} {F G : Hp} {al : Nat → Addr} {S : Store} {H : Hp} {p : Addr}
theorem Sim.Fnone (s : Sim T B F G al S H) (hp : H p = none) : F p = none := by
  cases q : F p with
  | none => rfl
  | some o => rw [(s.fo p o q).1] at hp; cases hp
theorem Sim.foreign (s : Sim T B F G al S H) (hp : H p = none) (o : HO) : Sim T B (upd F p o) G al S (upd H p o) := by
  refine ⟨fun a u q => ?_, s.inj, s.nG, fun i c hc => ?_, s.bas, fun a u q => ?_, fun i hi => ?_⟩
  · rw [upd_ne (fun z => by rw [z, s.Gnone hp] at q; cases q)]
    exact s.le a u q
  · obtain ⟨o', h1, h2⟩ := s.cell i c hc
    exact ⟨o', by rw [upd_ne (ne_of_none h1 hp)]; exact h1, h2⟩
  · by_cases ha : a = p
    · subst ha
      rw [upd_same] at q ⊢
      exact ⟨q, s.Gnone hp⟩
    · rw [upd_ne ha] at q ⊢
      exact s.fo a u q
  · rw [upd_ne (s.alne hp hi)]
    exact s.fc i hi
theorem Sim.refo {o o' : HO} (s : Sim T B (upd F p o) G al S H) : Sim T B (upd F p o') G al S (upd H p o') := by
  have g0 : G p = none := (s.fo p o upd_same).2
  have al0 : ∀ i, i < S.length → al i ≠ p := fun i hi z => by
    have h := s.fc i hi
    rw [z, upd_same] at h
    cases h
  refine ⟨fun a u q => ?_, s.inj, s.nG, fun i c hc => ?_, s.bas, fun a u q => ?_, fun i hi => ?_⟩
  · rw [upd_ne (fun z => by rw [z, g0] at q; cases q)]
    exact s.le a u q
  · obtain ⟨o2, h1, h2⟩ := s.cell i c hc
    exact ⟨o2, by rw [upd_ne (al0 i (List.getElem?_eq_some_iff.mp hc).1)]; exact h1, h2⟩
  · by_cases ha : a = p
    · subst ha
      rw [upd_same] at q ⊢
      exact ⟨q, g0⟩
    · rw [upd_ne ha] at q ⊢
      exact s.fo a u (by rw [upd_ne ha]; exact q)
  · rw [upd_ne (al0 i hi)]
    have h := s.fc i hi
    rw [upd_ne (al0 i hi)] at h
    exact h
/-- it is taken over, frozen -/
theorem Sim.adoptF {o : HO} (hF : F p = none) (s : Sim T B (upd F p o) G al S H) : Ext G al S.length (upd G p o) al S.length ∧ Sim T B F (upd G p o) al S H := by
  obtain ⟨h0, g0⟩ := s.fo p o upd_same
  have al0 : ∀ i, i < S.length → al i ≠ p := fun i hi z => by
    have h := s.fc i hi
    rw [z, upd_same] at h
    cases h
  have e : Ext G al S.length (upd G p o) al S.length := ⟨Nat.le_refl _, fun a u q => by rw [upd_ne (fun z => by rw [z, g0] at q; cases q)]; exact q, fun _ _ => rfl⟩
  refine ⟨e, ⟨fun a u q => ?_, s.inj, fun i hi => ?_, fun i c hc => ?_, s.bas, fun a u q => ?_, fun i hi => ?_⟩⟩
  · by_cases ha : a = p
    · subst ha
      rw [upd_same] at q
      cases q
      exact h0
    · rw [upd_ne ha] at q
      exact s.le a u q
  · rw [upd_ne (al0 i hi)]
    exact s.nG i hi
  · obtain ⟨o2, h1, h2⟩ := s.cell i c hc
    exact ⟨o2, h1, h2.up e⟩
  · have ha : a ≠ p := fun z => by rw [z, hF] at q; cases q
    rw [upd_ne ha]
    exact s.fo a u (by rw [upd_ne ha]; exact q)
  · have h := s.fc i hi
    rw [upd_ne (al0 i hi)] at h
    exact h
/-- .. as a cell -/
theorem Sim.adoptC {o : HO} {c : Cell} (hF : F p = none) (s : Sim T B (upd F p o) G al S H) (r : RC T G al S.length c o) :
    ∃ al', al' S.length = p ∧ Ext G al S.length G al' (S ++ [c]).length ∧ Sim T B F G al' (S ++ [c]) H := by
  obtain ⟨h0, g0⟩ := s.fo p o upd_same
  have al0 : ∀ i, i < S.length → al i ≠ p := fun i hi z => by
    have h := s.fc i hi
    rw [z, upd_same] at h
    cases h
  refine ⟨fun i => if i = S.length then p else al i, by simp, ?_⟩
  have e : Ext G al S.length G (fun i => if i = S.length then p else al i) (S ++ [c]).length := ⟨by simp, fun _ _ q => q, fun i hi => by simp [Nat.ne_of_lt hi]⟩
  refine ⟨e, ⟨s.le, fun i j hi hj q => ?_, fun i hi => ?_, fun i d hd => ?_, fun n hn => ?_, fun a u q => ?_, fun i hi => ?_⟩⟩
  · simp only [List.length_append, List.length_singleton] at hi hj
    by_cases h1 : i = S.length <;> by_cases h2 : j = S.length
    · omega
    · simp only [h1, h2, if_true, if_false] at q
      exact absurd q.symm (al0 j (by omega))
    · simp only [h1, h2, if_true, if_false] at q
      exact absurd q (al0 i (by omega))
    · simp only [h1, h2, if_false] at q
      exact s.inj i j (by omega) (by omega) q
  · simp only [List.length_append, List.length_singleton] at hi
    by_cases h1 : i = S.length
    · simp only [h1, if_true]; exact g0
    · simp only [h1, if_false]; exact s.nG i (by omega)
  · by_cases h1 : i = S.length
    · subst h1
      simp only [List.getElem?_append_right (Nat.le_refl _), Nat.sub_self, List.getElem?_cons_zero, Option.some.injEq] at hd
      subst hd
      exact ⟨o, by simp only [if_true]; exact h0, r.up e⟩
    · have hi : i < S.length := by
        have := (List.getElem?_eq_some_iff.mp hd).1
        simp only [List.length_append, List.length_singleton] at this
        omega
      rw [List.getElem?_append_left hi] at hd
      obtain ⟨o', q1, q2⟩ := s.cell i d hd
      exact ⟨o', by simp only [h1, if_false]; exact q1, q2.up e⟩
  · obtain ⟨h1, h2⟩ := s.bas n hn
    refine ⟨by simp only [List.length_append, List.length_singleton]; omega, fun i d hi hd => ?_⟩
    rw [List.getElem?_append_left (by omega)] at hd
    exact h2 i d hi hd
  · have ha : a ≠ p := fun z => by rw [z, hF] at q; cases q
    exact s.fo a u (by rw [upd_ne ha]; exact q)
  · simp only [List.length_append, List.length_singleton] at hi
    by_cases h1 : i = S.length
    · simp only [h1, if_true]; exact hF
    · simp only [h1, if_false]
      have h := s.fc i (by omega)
      rw [upd_ne (al0 i (by omega))] at h
      exact h
theorem Post.adopt {k : Bool} {ys : List D} {vs : List V} {Q : VK} (hF : F p = none) (s : Sim T B (upd F p (.lst vs)) G al S H) (r : RVs T G al S.length ys vs) (h : Post T B F (RV T) G al S.length (Ip.newL k ys S) Q) : Q (.ref p) H := by
  cases k with
  | false =>
    obtain ⟨e, s'⟩ := s.adoptF hF
    refine h _ _ _ _ e s' ?_
    simp only [RV]
    exact ⟨p, vs, rfl, upd_same, RVs.up e _ _ r⟩
  | true =>
    obtain ⟨al', h1, e, s'⟩ := s.adoptC hF (c := .lst ys) (o := .lst vs) ⟨vs, rfl, r⟩
    refine h _ _ _ _ e s' ?_
    simp only [RV]
    exact ⟨by simp, by rw [h1]⟩
end

/-! ### the block of a comprehension -/
theorem wipe_get (σ : L2.St) (i : Nat) : ∀ vs : List Nat, i ∈ vs → (wipe σ vs)[i]? = if i < σ.length then some none else none
  | v :: vs, h => by
    unfold wipe
    by_cases c : v = i
    · subst c
      by_cases hl : v < σ.length
      · rw [if_pos hl, List.getElem?_set_self (by rw [wipe_length]; exact hl)]
      · rw [if_neg hl]
        exact List.getElem?_eq_none (by rw [List.length_set, wipe_length]; omega)
    · rw [List.getElem?_set_ne c]
      exact wipe_get σ i vs ((List.mem_cons.mp h).resolve_left (Ne.symm c))
theorem wipe_not (σ : L2.St) (i : Nat) : ∀ vs : List Nat, i ∉ vs → (wipe σ vs)[i]? = σ[i]?
  | [], _ => rfl
  | v :: vs, h => by
    simp only [List.mem_cons, not_or] at h
    unfold wipe
    rw [List.getElem?_set_ne (Ne.symm h.1), wipe_not σ i vs h.2]
theorem wipe_same {σ τ : L2.St} {vs : List Nat} (hl : τ.length = σ.length) (h : ∀ i, i ∉ vs → τ[i]? = σ[i]?) : wipe τ vs = wipe σ vs := by
  apply List.ext_getElem?
  intro i
  by_cases c : i ∈ vs
  · rw [wipe_get _ _ _ c, wipe_get _ _ _ c, hl]
  · rw [wipe_not _ _ _ c, wipe_not _ _ _ c, h i c]

theorem lockD_refl {S : Store} {x : D} {xs : List D} (h : itemsL S x = some xs) : lock x S S = true := by
  cases x with
  | ref i =>
    unfold itemsL at h
    dsimp only at h
    unfold lock
    dsimp only
    split at h
    · rename_i ys hy
      rw [hy]
      exact sameL_refl ys
    · cases h
  | _ => rfl
end Ip

set_option Elab.async false
set_option linter.all false
set_option maxRecDepth 100000
set_option maxHeartbeats 1000000
set_option autoImplicit false
/-! IpC7: the reading of a comprehension. -/
namespace Ip
open PySem PySem.Spec PyProof.Rows L2

/-- one turn of a comprehension -/
def turnC (cx : Ec) (elt : Ex) (t : Tg) (cs : Exs) (ρ : Env) (x : D) (S2 : Store) : R (Option D) := match tgD t x ρ S2 with
  | some ρ' => (evCs cx cs ρ' S2).bind fun q S3 => if q then (evE cx elt ρ' S3).bind fun y S4 => .ok (some y) S4 else .ok none S3
  | none => .fail

section
variable {T : Tx} {B : Bas}
theorem RE.wiped {G : Hp} {al : Nat → Addr} {n : Nat} {ρ : Env} {σ : L2.St} {vs : List Nat} (h : RE T G al n ρ σ) : REx T G al n vs ρ (wipe σ vs) := by
  refine ⟨by rw [wipe_length]; exact h.1, fun i d hi q => ?_⟩
  obtain ⟨v, h1, h2⟩ := h.2 i d q
  exact ⟨v, by rw [wipe_not _ _ _ hi]; exact h1, h2⟩
theorem REx.sub {G : Hp} {al : Nat → Addr} {n : Nat} {ρ : Env} {σ : L2.St} {L M : List Nat} (h : REx T G al n L ρ σ) (k : ∀ i, i ∈ L → i ∈ M) : REx T G al n M ρ σ :=
  ⟨h.1, fun i d hi q => h.2 i d (fun z => hi (k i z)) q⟩

theorem comp_rd {cx : Ec} {k : Bool} {elt : Ex} {t : Tg} {it : Iter} {cs : Exs} {vs : List Nat} (h1 : ∀ i, i ∈ vs → i ∈ slotsOf t) (h2 : ∀ i, i ∈ slotsOf t → i ∈ vs) {σ : L2.St} {H : Hp} {Q : VK}
    (h : rdE T B (fun ρ S => (evIt cx it ρ S).bind fun w S1 => (compL (turnC cx elt t cs ρ) (lockAll w.lk S1) w.xs S1).bind fun ys S2 => if w.xs.length ≤ 100000 then newL k ys S2 else .fail) σ H Q) :
    tLc (rdI T B (evIt cx it)) (tgG T.K t) (rdT T B (evCs cx cs)) (rdE T B (evE cx elt)) vs σ H Q := by
  obtain ⟨F, G, al, ρ, S, s, e, p⟩ := h
  refine ⟨F, G, al, ρ, S, s, e, ?_⟩
  dsimp only at p
  cases hit : evIt cx it ρ S with
  | exc _ _ _ => rw [hit] at p; exact p.elim
  | fail => rw [hit] at p; exact p.elim
  | ok w S1 =>
    rw [hit] at p
    dsimp only at p ⊢
    intro G1 al1 H1 J x1 s1 hl wk P hP
    have F0 : F P = none := s1.Fnone hP
    have p1 : Post T B F (RV T) G1 al1 S1.length ((compL (turnC cx elt t cs ρ) (lockAll w.lk S1) w.xs S1).bind fun ys S2 => if w.xs.length ≤ 100000 then newL k ys S2 else .fail) Q := Post.up p x1
    have e1 := e.up x1
    -- the bound on the items
    have hsz : w.xs.length ≤ 100000 := by
      by_cases c : w.xs.length ≤ 100000
      · exact c
      · simp only [if_neg c] at p1
        cases q : compL (turnC cx elt t cs ρ) (lockAll w.lk S1) w.xs S1 with
        | ok a b => rw [q] at p1; exact p1.elim
        | exc _ _ _ => rw [q] at p1; exact p1.elim
        | fail => rw [q] at p1; exact p1.elim
    simp only [if_pos hsz] at p1
    refine ⟨fun i m H' => m = w.xs.length - i ∧ i ≤ w.xs.length ∧ ∃ (G2 : Hp) (al2 : Nat → Addr) (S2 : Store) (ds : List D) (us : List V), Ext G1 al1 S1.length G2 al2 S2.length ∧ Sim T B (upd F P (.lst us)) G2 al2 S2 H' ∧ RVs T G2 al2 S2.length ds us ∧
      lockAll w.lk S1 S2 = true ∧ us.length ≤ i ∧ Post T B F (RV T) G2 al2 S2.length ((compL (turnC cx elt t cs ρ) (lockAll w.lk S1) (w.xs.drop i) S2).bind fun ys S3 => newL k (ds ++ ys) S3) Q,
      ⟨w.xs.length, rfl, Nat.zero_le _, G1, al1, S1, [], [], Ext.refl, s1.foreign hP _, RVs.nil, hl, Nat.le_refl _, p1⟩, ?_⟩
    rintro i m H' ⟨rfl, hi, G2, al2, S2, ds, us, x2, s2, r2, l2, n2, p2⟩
    obtain ⟨wstop, wgo⟩ := wk i _ G2 al2 S2 H' x2 s2 l2
    by_cases hlt : i < w.xs.length
    · have hd : w.xs[i]? = some w.xs[i] := by simp [hlt]
      have hdrop : w.xs.drop i = w.xs[i] :: w.xs.drop (i + 1) := List.drop_eq_getElem_cons hlt
      generalize hx : w.xs[i] = d at hd hdrop
      rw [hdrop] at p2
      obtain ⟨jgo, jyld⟩ := wgo d hd
      refine .inr ⟨jgo, fun H'' => w.xs.length - (i + 1) < w.xs.length - i ∧ ∃ (G2 : Hp) (al2 : Nat → Addr) (S2 : Store) (ds : List D) (us : List V), Ext G1 al1 S1.length G2 al2 S2.length ∧ Sim T B (upd F P (.lst us)) G2 al2 S2 H'' ∧ RVs T G2 al2 S2.length ds us ∧
        lockAll w.lk S1 S2 = true ∧ us.length ≤ i + 1 ∧ Post T B F (RV T) G2 al2 S2.length ((compL (turnC cx elt t cs ρ) (lockAll w.lk S1) (w.xs.drop (i + 1)) S2).bind fun ys S3 => newL k (ds ++ ys) S3) Q, fun H'' hN => ⟨_, hN.1, rfl, hlt, hN.2⟩, fun x H3 hy => ?_⟩
      obtain ⟨G3, x3, s3, r3⟩ := jyld x H3 hy
      have p3 := Post.up p2 x3
      have x13 := x2.trans x3
      have rds := RVs.up x3 _ _ r2
      -- the turn
      cases ht : tgD t d ρ S2 with
      | none =>
        have : turnC cx elt t cs ρ d S2 = .fail := by unfold turnC; rw [ht]
        unfold compL at p3
        rw [this] at p3
        exact p3.elim
      | some ρ' =>
        have ht' : turnC cx elt t cs ρ d S2 = (evCs cx cs ρ' S2).bind fun q S3 => if q then (evE cx elt ρ' S3).bind fun y S4 => .ok (some y) S4 else .ok none S3 := by unfold turnC; rw [ht]
        refine tg_ok s3 ((e1.up x13).wiped.sub h1) r3 ht fun σ' er el eo => ⟨?_, ?_⟩
        · have q1 : wipe σ' vs = wipe (wipe σ vs) vs := wipe_same el fun j hj => eo j fun z => hj (h2 j z)
          have q2 : wipe (wipe σ vs) vs = wipe σ vs := wipe_same (wipe_length σ vs) fun j hj => wipe_not _ _ _ hj
          exact q1.trans q2
        · refine ⟨_, G3, al2, ρ', S2, s3, er, ?_⟩
          cases hc : evCs cx cs ρ' S2 with
          | exc _ _ _ =>
            unfold compL at p3
            rw [ht', hc] at p3
            exact p3.elim
          | fail =>
            unfold compL at p3
            rw [ht', hc] at p3
            exact p3.elim
          | ok q S4 =>
            intro G4 al4 H4 b x4 s4 hb
            have hb : b = q := hb
            subst hb
            cases b with
            | false =>
              have tq : turnC cx elt t cs ρ d S2 = .ok none S4 := by rw [ht', hc]; rfl
              unfold compL at p3
              rw [tq] at p3
              dsimp only at p3
              by_cases c : lockAll w.lk S1 S4 = true
              · rw [if_pos c] at p3
                refine ⟨by omega, G4, al4, S4, ds, us, x13.trans x4, s4, RVs.up x4 _ _ rds, c, by omega, Post.up (G := G3) (al := al2) (n := S2.length) ?_ x4⟩
                cases hr : compL (turnC cx elt t cs ρ) (lockAll w.lk S1) (w.xs.drop (i + 1)) S4 with
                | ok ys S5 => rw [hr] at p3; exact p3
                | exc _ _ _ => rw [hr] at p3; exact p3.elim
                | fail => rw [hr] at p3; exact p3.elim
              · rw [if_neg c] at p3
                exact p3.elim
            | true =>
              refine ⟨_, G4, al4, ρ', S4, s4, er.up x4, ?_⟩
              cases hv : evE cx elt ρ' S4 with
              | exc _ _ _ =>
                unfold compL at p3
                rw [ht', hc] at p3
                simp only [R.bind, if_true, hv] at p3
                exact p3.elim
              | fail =>
                unfold compL at p3
                rw [ht', hc] at p3
                simp only [R.bind, if_true, hv] at p3
                exact p3.elim
              | ok y S5 =>
                intro G5 al5 H5 v x5 s5 rv
                have tq : turnC cx elt t cs ρ d S2 = .ok (some y) S5 := by
                  rw [ht', hc]
                  simp only [R.bind, if_true, hv]
                unfold compL at p3
                rw [tq] at p3
                dsimp only at p3
                by_cases c : lockAll w.lk S1 S5 = true
                · rw [if_pos c] at p3
                  have x45 := x4.trans x5
                  refine ⟨us, (s5.fo P _ upd_same).1, small_line' (by omega), by omega, G5, al5, S5, ds ++ [y], us ++ [v], x13.trans x45, s5.refo, (RVs.up x45 _ _ rds).app (RVs.cons rv RVs.nil), c, by rw [List.length_append, List.length_singleton]; omega,
                    Post.up (G := G3) (al := al2) (n := S2.length) ?_ x45⟩
                  cases hr : compL (turnC cx elt t cs ρ) (lockAll w.lk S1) (w.xs.drop (i + 1)) S5 with
                  | ok ys S6 =>
                    rw [hr] at p3
                    have p4 : Post T B F (RV T) G3 al2 S2.length (newL k (ds ++ (y :: ys)) S6) Q := p3
                    show Post T B F (RV T) G3 al2 S2.length (newL k ((ds ++ [y]) ++ ys) S6) Q
                    rw [List.append_assoc]
                    exact p4
                  | exc _ _ _ => rw [hr] at p3; exact p3.elim
                  | fail => rw [hr] at p3; exact p3.elim
                · rw [if_neg c] at p3
                  exact p3.elim
    · have ei : i = w.xs.length := by omega
      subst ei
      refine .inl ⟨wstop (Nat.le_refl _), ?_⟩
      rw [List.drop_length] at p2
      have p3 : Post T B F (RV T) G2 al2 S2.length (newL k (ds ++ []) S2) Q := p2
      rw [List.append_nil] at p3
      exact Post.adopt F0 s2 r2 p3
end
end Ip

set_option Elab.async false
set_option linter.all false
set_option maxRecDepth 100000
set_option maxHeartbeats 2000000
set_option autoImplicit false
/-! IpC8: the checker of expressions, and that what it lets pass is read rightly. -/
namespace Ip
open PySem PySem.Spec PyProof.Rows L2

def plainE : Expr → Bool
  | .Starred _ _ => false
  | _ => true
theorem plainE_ok {e : Expr} (h : plainE e = true) : ∀ a b, e ≠ .Starred a b := fun a b z => by
  subst z
  cases h
def chkLit : Const → D → Bool
  | .int i, .int j => decide (i = j)
  | .bool b, .bl c => decide (b = c)
  | .none, .non => true
  | .str x, .str s => decide (x = toS s)
  | _, _ => false
def isSl : Expr → Bool
  | .Slice _ _ _ _ => true
  | _ => false
def isSetE : Expr → Bool
  | .Set _ _ _ => true
  | _ => false
def isIte : Ex → Bool
  | .ite _ _ _ => true
  | _ => false
/-- what a method may be called on -/
def okBase : Expr → Bool
  | .Call (.Name _ _) [] [] _ => false
  | _ => true
def bmN : Bm → String
  | .append => "append"
  | .pop0 => "pop"
  | .pop1 => "pop"
  | .extend => "extend"
def ixStr (x : PySem.Str) : Nat → List PySem.Str → Option Nat
  | _, [] => none
  | i, y :: r => if y = x then some i else ixStr x (i + 1) r
/-- the block's own names with their places -/
def ownOf (N : List PySem.Str) (scope : Scope) : List (PySem.Str × Nat) := scope.names.filterMap fun p => match p.2 with
  | .local => (ixStr p.1 0 N).map fun i => (p.1, i)
  | .cell => (ixStr p.1 0 N).map fun i => (p.1, i)
  | _ => none
def isTup : Expr → Bool
  | .Tuple _ _ _ => true
  | _ => false
def freeB (J : Nm) (x : PySem.Str) : Bool := decide (x ∈ J.free)

def noIte : Exs → Bool
  | .nil => true
  | .cons _ m ms => !isIte m && noIte ms
mutual
def chkE (J : Nm) (N : List PySem.Str) : Ex → Scope → Expr → Bool
  | .nev, _, _ => true
  | .var i, sc, e => match e with
    | .Name x _ => atN N i x && (isVis sc x && nmOk x)
    | _ => false
  | .lit d, _, e => match e with
    | .Constant c _ _ => chkLit c d
    | _ => false
  | .gl _ _, _, _ => false
  | .bin o a b, sc, e => match e with
    | .BinOp x op y _ => decide (op = opOf o) && (chkE J N a sc x && chkE J N b sc y)
    | _ => false
  | .neg a, sc, e => match e with
    | .UnaryOp .USub x _ => chkE J N a sc x
    | _ => false
  | .cmp o a b, sc, e => match e with
    | .Compare x [op] [y] _ => decide (op = cmOf o) && (!behindInMarks op y && (chkE J N a sc x && chkE J N b sc y))
    | _ => false
  | .chn o p a b c, sc, e => match e with
    | .Compare x [op, op'] [y, z] _ => decide (op = cmOf o) && (decide (op' = cmOf p) && (!lastMarks [op, op'] [y, z] && (chkE J N a sc x && (chkE J N b sc y && chkE J N c sc z))))
    | _ => false
  | .and es, sc, e => match e with
    | .BoolOp .And xs _ => noIte es && chkEs J N es sc xs
    | _ => false
  | .or es, sc, e => match e with
    | .BoolOp .Or xs _ => noIte es && chkEs J N es sc xs
    | _ => false
  | .not a, sc, e => match e with
    | .UnaryOp .Not x _ => !isIte a && chkE J N a sc x
    | _ => false
  | .ite c a b, sc, e => match e with
    | .IfExp z x y _ => !isIte c && (chkE J N c sc z && (chkE J N a sc x && chkE J N b sc y))
    | _ => false
  | .tup es, sc, e => match e with
    | .Tuple xs _ _ => chkEs J N es sc xs
    | _ => false
  | .lst _ es, sc, e => match e with
    | .List xs _ => chkEs J N es sc xs
    | _ => false
  | .comp _ elt t it cs, sc, e => match e with
    | .ListComp el [c] scope _ => decide (c.is_async = 0) && (blkC N sc scope (ownOf N scope) && (((ownOf N scope).map (·.2)).all (fun i => decide (i ∈ slotsOf t)) && ((slotsOf t).all (fun i => decide (i ∈ (ownOf N scope).map (·.2))) &&
        (chkTg N scope c.target t && (!isSetE c.iter && (chkIt J N it sc c.target c.iter && (chkEs J N cs scope c.ifs && (noIte cs && (decide (c.ifs.length ≤ 1) && chkE J N elt scope el)))))))))
    | _ => false
  | .sub a i, sc, e => match e with
    | .Subscript x y _ => !isSl y && (chkE J N a sc x && chkE J N i sc y)
    | _ => false
  | .slc a lo hi, sc, e => match e with
    | .Subscript x (.Slice l h none _) _ => chkE J N a sc x && ((match l with
      | some e => !isNonL lo && chkE J N lo sc e
      | none => isNonL lo) && (match h with
      | some e => !isNonL hi && chkE J N hi sc e
      | none => isNonL hi))
    | _ => false
  | .rev _ a, sc, e => match e with
    | .Subscript x (.Slice none none (some (.UnaryOp .USub (.Constant (.int i) _ _) _)) _) _ => decide (i = 1) && chkE J N a sc x
    | _ => false
  | .att _ _, _, _ => false
  | .call f es, sc, e => match e with
    | .Call (.Name x _) xs [] _ => decide (nget f J.fn = some x) && (isGlo sc x && (nmOk x && chkEs J N es sc xs))
    | _ => false
  | .new _ _, _, _ => false
  | .met _ _ _, _, _ => false
  | .bi b _ es, sc, e => match e with
    | .Call (.Name x _) (y :: xs) [] _ => decide (x = Str.ofString (biN b)) && (isGlo sc x && (freeB J x && chkEs J N es sc (y :: xs)))
    | _ => false
  | .bm b a es, sc, e => match e with
    | .Call (.Attribute o m ap) xs [] cp => decide (m = Str.ofString (bmN b)) && (okBase o && (decide (ap.endLine = cp.line) && (decide (xs.length < 20) && (chkE J N a sc o && chkEs J N es sc xs))))
    | _ => false
def chkEs (J : Nm) (N : List PySem.Str) : Exs → Scope → List Expr → Bool
  | .nil, _, [] => true
  | .cons st m ms, sc, e :: es => !st && (plainE e && (chkE J N m sc e && chkEs J N ms sc es))
  | _, _, _ => false
def chkIt (J : Nm) (N : List PySem.Str) : Iter → Scope → Expr → Expr → Bool
  | .seq m, sc, _, e => chkE J N m sc e
  | .rng1 m, sc, _, e => match e with
    | .Call (.Name x _) [y] [] _ => decide (x = Str.ofString "range") && (isGlo sc x && (freeB J x && (plainE y && chkE J N m sc y)))
    | _ => false
  | .rng2 m n, sc, _, e => match e with
    | .Call (.Name x _) [y, z] [] _ => decide (x = Str.ofString "range") && (isGlo sc x && (freeB J x && (plainE y && (plainE z && (chkE J N m sc y && chkE J N n sc z)))))
    | _ => false
  | .enum m, sc, tg, e => match e with
    | .Call (.Name x _) [y] [] _ => decide (x = Str.ofString "enumerate") && (isGlo sc x && (freeB J x && (plainE y && (isTup tg && chkE J N m sc y))))
    | _ => false
  | .zip m n, sc, tg, e => match e with
    | .Call (.Name x _) [y, z] [] _ => decide (x = Str.ofString "zip") && (isGlo sc x && (freeB J x && (plainE y && (plainE z && (isTup tg && (chkE J N m sc y && chkE J N n sc z))))))
    | _ => false
end
def chkO (J : Nm) (N : List PySem.Str) (m : Ex) (sc : Scope) : Option Expr → Bool
  | some e => !isNonL m && chkE J N m sc e
  | none => isNonL m
end Ip

set_option Elab.async false
set_option linter.all false
set_option maxRecDepth 100000
set_option maxHeartbeats 4000000
set_option autoImplicit false
/-! IpC9: expressions that the checker lets pass are read rightly. -/
namespace Ip
open PySem PySem.Spec PyProof.Rows L2

theorem bind_bind {α β γ : Type} (r : R α) (f : α → Store → R β) (g : β → Store → R γ) : (r.bind f).bind g = r.bind fun x S => (f x S).bind g := by cases r <;> rfl
theorem bind_congr {α β : Type} {r : R α} {f g : α → Store → R β} (h : ∀ x S, f x S = g x S) : r.bind f = r.bind g := by
  have : f = g := funext fun x => funext fun S => h x S
  rw [this]
theorem post_ofb {T : Tx} {B : Bas} {F G : Hp} {al : Nat → Addr} {n : Nat} {α β γ : Type} {Rr : Hp → (Nat → Addr) → Nat → α → β → Prop} {o : Option γ} {S : Store} {f : γ → Store → R α} {Q : β → Hp → Prop} (h : Post T B F Rr G al n ((R.of o S).bind f) Q) :
    ∃ a, o = some a ∧ Post T B F Rr G al n (f a S) Q := by
  cases o with
  | none => exact h.elim
  | some a => exact ⟨a, rfl, h⟩
theorem rd_eq {T : Tx} {B : Bas} {α β : Type} {Rr : Hp → (Nat → Addr) → Nat → α → β → Prop} {f g : Env → Store → R α} {σ : L2.St} {H : Hp} {Q : β → Hp → Prop} (h : rd T B Rr f σ H Q) (e : ∀ ρ S, f ρ S = g ρ S) : rd T B Rr g σ H Q := by
  have : f = g := funext fun ρ => funext fun S => e ρ S
  rw [← this]
  exact h
theorem rd_mono {T : Tx} {B : Bas} {α β : Type} {Rr : Hp → (Nat → Addr) → Nat → α → β → Prop} {f : Env → Store → R α} {σ : L2.St} {H : Hp} {Q Q' : β → Hp → Prop} (h : rd T B Rr f σ H Q) (k : ∀ v H, Q v H → Q' v H) : rd T B Rr f σ H Q' := by
  obtain ⟨F, G, al, ρ, S, s, e, p⟩ := h
  exact ⟨F, G, al, ρ, S, s, e, p.mono k⟩

section
variable {T : Tx} {B : Bas}
theorem te1 {fa : Env → Store → R D} {k : D → Store → R D} {r : V → Hp → VK → Prop} (hk : ∀ F G al S H x v Q, Sim T B F G al S H → RV T G al S.length x v → Post T B F (RV T) G al S.length (k x S) Q → r v H Q) {σ : L2.St} {H : Hp} {Q : VK}
    (h : rdE T B (fun ρ S => (fa ρ S).bind k) σ H Q) : tUn r (rdE T B fa) σ H Q :=
  rd_bind (k := fun _ => k) h fun F G al ρ S x v H1 s e rx p => hk F G al S H1 x v Q s rx p
theorem te2 {fa fb : Env → Store → R D} {k : D → D → Store → R D} {r : R2} (hk : ∀ F G al S H x y v w Q, Sim T B F G al S H → RV T G al S.length x v → RV T G al S.length y w → Post T B F (RV T) G al S.length (k x y S) Q → r v w H Q) {σ : L2.St} {H : Hp} {Q : VK}
    (h : rdE T B (fun ρ S => (fa ρ S).bind fun x S1 => (fb ρ S1).bind fun y S2 => k x y S2) σ H Q) : tOp r (rdE T B fa) (rdE T B fb) σ H Q :=
  rd_bind (k := fun ρ x S1 => (fb ρ S1).bind fun y S2 => k x y S2) h fun F G al ρ S x v H1 s e rx p =>
    rd_of s e (Post.bind p fun y S2 G2 al2 H2 w x2 s2 ry p2 => hk F G2 al2 S2 H2 x y v w Q s2 (RV.up x2 _ _ rx) ry p2)
theorem tru_ok {G : Hp} {al : Nat → Addr} {n : Nat} {x : D} {v : V} {b : Bool} {S : Store} (r : RV T G al n x v) (h : truD x S = some b) : v = .bl b := by
  cases x with
  | bl c =>
    cases h
    exact rv_bl r
  | _ => cases h
/-- a value as a test -/
theorem tt_val {fa : Env → Store → R D} {σ : L2.St} {H : Hp} {Q : Bool → Hp → Prop} (h : rdT T B (fun ρ S => (fa ρ S).bind fun x S1 => R.of (truD x S1) S1) σ H Q) : rdE T B fa σ H fun x H1 => ∃ c, x = .bl c ∧ Q c H1 :=
  rd_bind (k := fun _ x S1 => R.of (truD x S1) S1) h fun F G al ρ S x v H1 s e rx p => by
    obtain ⟨b, hb, p⟩ := post_of p
    exact ⟨b, tru_ok rx hb, p.ok s rfl⟩
/-- a test, then what comes -/
theorem tt_bind {α β : Type} {Rs : Hp → (Nat → Addr) → Nat → α → β → Prop} {cx : Ec} {m : Ex} {k : Env → Bool → Store → R α} {σ : L2.St} {H : Hp} {Q : β → Hp → Prop} {Q1 : Bool → Hp → Prop}
    (h : rd T B Rs (fun ρ S => (evE cx m ρ S).bind fun x S1 => (R.of (truD x S1) S1).bind fun b S2 => k ρ b S2) σ H Q)
    (g : ∀ F G al ρ S b H1, Sim T B F G al S H1 → RE T G al S.length ρ σ → Post T B F Rs G al S.length (k ρ b S) Q → Q1 b H1) : rdT T B (evT cx m) σ H Q1 := by
  have h2 : rd T B Rs (fun ρ S => (evT cx m ρ S).bind fun b S2 => k ρ b S2) σ H Q := by
    refine rd_eq h fun ρ S => ?_
    unfold evT
    cases evE cx m ρ S with
    | ok x S1 =>
      show (R.of (truD x S1) S1).bind _ = ((R.of (truD x S1) S1).bind _)
      rfl
    | exc _ _ _ => rfl
    | fail => rfl
  refine rd_bind (k := fun ρ b S2 => k ρ b S2) h2 fun F G al ρ S b c H1 s e rb p => ?_
  have eb : c = b := rb
  rw [eb]
  exact g F G al ρ S b H1 s e p

variable {J : Nm} {N : List PySem.Str} {k : Nat} {cx : Ec}

theorem rdE_lit {X : L2.Cx} {e : Expr} {d : D} {v : V} (h : PE X e (tC v)) (r : ∀ G al n, RV T G al n d v) (hd : ∀ ρ S, evE cx (.lit d) ρ S = .ok d S) : PE X e (rdE T B (evE cx (.lit d))) :=
  pe_imp h fun σ H Q q => by
    obtain ⟨F, G, al, ρ, S, s, e, p⟩ := q
    rw [hd] at p
    exact p.ok s (r _ _ _)
theorem chkLit_ok {X : L2.Cx} {c : Const} {d : D} {kk : Nat} {p : Pos} (h : chkLit c d = true) : PE X (.Constant c kk p) (rdE T B (evE cx (.lit d))) := by
  have hd : ∀ ρ S, evE cx (.lit d) ρ S = .ok d S := fun ρ S => by simp only [evE]
  unfold chkLit at h
  split at h
  · have := of_decide_eq_true h
    subst this
    exact rdE_lit pe_int (fun _ _ _ => mk_int) hd
  · have := of_decide_eq_true h
    subst this
    exact rdE_lit pe_bl (fun _ _ _ => mk_bl) hd
  · exact rdE_lit pe_non (fun _ _ _ => mk_non) hd
  · have := of_decide_eq_true h
    subst this
    exact rdE_lit pe_str (fun _ _ _ => mk_str) hd
  · cases h

theorem nm_ok {x : PySem.Str} (h : nmOk x = true) : (x == ("__debug__" : PySem.Str)) = false ∧ (x == ("__classdict__" : PySem.Str)) = false := by
  unfold nmOk at h
  simp only [Bool.and_eq_true, Bool.not_eq_true'] at h
  exact h
theorem boot_bi (b : Bi) : bootBuiltins (Str.ofString (biN b)) = some (biV b) := by cases b <;> decide +kernel
theorem plain_bi (b : Bi) : (Str.ofString (biN b)) ≠ ("__name__" : PySem.Str) ∧ ((Str.ofString (biN b)) == ("__debug__" : PySem.Str)) = false := by cases b <;> exact ⟨by decide +kernel, by decide +kernel⟩
theorem plainIx_ok {e : Expr} (h : isSl e = false) : PlainIx e := by
  intro o i
  cases e <;> first | rfl | (cases h; done)
theorem notSet {e : Expr} {env : PySem.Env} (h : isSetE e = false) (x : Value) : foldedSetIterable e env x = pure x := by
  cases e <;> first | rfl | (cases h; done)
theorem ab_ok {o : Expr} {f : PySem.Str} {env : PySem.Env} {w : Sem Value} (h : okBase o = true) : attributeBase o f env w = w := by
  cases o with
  | Call fn as kw p =>
    cases fn with
    | Name x q =>
      cases as with
      | nil =>
        cases kw with
        | nil => cases h
        | cons _ _ => rfl
      | cons _ _ => rfl
    | _ => rfl
  | _ => rfl

/-- a built-in's method of a list -/
def bmR : Bm → V → List V → Hp → VK → Prop
  | .append => rAppend
  | .pop0 => rPop
  | .pop1 => rPopAt
  | .extend => rExtend

end
theorem closedL_iff {n : Nat} : ∀ {xs : List D}, closedL n xs = true ↔ ∀ x ∈ xs, closed n x = true
  | [] => by simp [closedL]
  | x :: xs => by simp only [closedL, Bool.and_eq_true, closedL_iff (xs := xs), List.mem_cons, forall_eq_or_imp]
section
variable {T : Tx} {B : Bas}
/-- a cell is changed, by put -/
theorem put_sim {base : Nat} (hB : ∀ n, B n → n ≤ base) {F G : Hp} {al : Nat → Addr} {S S' : Store} {H : Hp} {i : Nat} {c0 c : Cell} {o : HO} {d : D} (s : Sim T B F G al S H) (hi : S[i]? = some c0) (r : RC T G al S.length c o)
    (hcl : ∀ n, closedC n c0 = true → closed n d = true → closedC n c = true) (h : put base i c d S = some S') : Ext G al S.length G al S'.length ∧ Sim T B F G al S' (upd H (al i) o) := by
  have hlt : i < S.length := (List.getElem?_eq_some_iff.mp hi).1
  unfold put at h
  split at h
  · rename_i hc
    cases h
    refine ⟨by rw [List.length_set]; exact Ext.refl, s.put hlt r fun n hn hin => hcl n ((s.bas n hn).2 i c0 hin hi) ?_⟩
    simp only [Bool.or_eq_true] at hc
    rcases hc with hc | hc
    · have h1 := hB n hn
      have h2 := Nat.le_of_ble_eq_true hc
      omega
    · exact closed_mono hin d hc
  · cases h
/-- .. to less than it was -/
theorem less_sim {F G : Hp} {al : Nat → Addr} {S : Store} {H : Hp} {i : Nat} {c0 c : Cell} {o : HO} (s : Sim T B F G al S H) (hi : S[i]? = some c0) (r : RC T G al S.length c o)
    (hcl : ∀ n, closedC n c0 = true → closedC n c = true) : Ext G al S.length G al (S.set i c).length ∧ Sim T B F G al (S.set i c) (upd H (al i) o) := by
  have hlt : i < S.length := (List.getElem?_eq_some_iff.mp hi).1
  exact ⟨by rw [List.length_set]; exact Ext.refl, s.put hlt r fun n hn hin => hcl n ((s.bas n hn).2 i c0 hin hi)⟩
theorem Sim.lstAt {F G : Hp} {al : Nat → Addr} {S : Store} {H : Hp} (s : Sim T B F G al S H) {i : Nat} {ys : List D} (hi : S[i]? = some (.lst ys)) : ∃ us, H (al i) = some (.lst us) ∧ RVs T G al S.length ys us := by
  obtain ⟨o, h1, us, rfl, h3⟩ := s.cell i _ hi
  exact ⟨us, h1, h3⟩
theorem ix_seq_ok {n : Nat} {i : Int} {j : Nat} (h : ixOf n i = some j) : seqIndex? i n = some j := (ixN_seq (show ixN n i = some j from h)).1
theorem bm_ok {cx : Ec} (hB : ∀ n, B n → n ≤ cx.base) (b : Bm) {x : D} {xs : List D} {v : V} {vs : List V} {F G : Hp} {al : Nat → Addr} {S : Store} {H : Hp} {Q : VK} (s : Sim T B F G al S H) (r : RV T G al S.length x v) (rs : RVs T G al S.length xs vs)
    (h : Post T B F (RV T) G al S.length (bmD cx.base b x xs S) Q) : bmR b v vs H Q := by
  cases b with
  | append =>
    simp only [bmD] at h
    split at h
    · rename_i i d
      split at h
      · rename_i ys hi
        split at h
        · rename_i hz
          obtain ⟨us, h1, h2⟩ := s.lstAt hi
          obtain ⟨w, rfl, rw'⟩ := one_of rs rfl
          simp only [RV] at r
          split at h
          · rename_i S' e
            obtain ⟨e2, s2⟩ := put_sim hB s hi (c := .lst (ys ++ [d])) (o := .lst (us ++ [w])) ⟨_, rfl, h2.app (RVs.cons rw' RVs.nil)⟩ (fun n a1 a2 => by
              simp only [closedC, closedL_iff, List.mem_append, List.mem_singleton] at a1 ⊢
              rintro z (hz | rfl)
              · exact a1 z hz
              · exact a2) e
            exact ⟨_, us, w, r.2, rfl, h1, by rw [← h2.len]; exact small_line' hz, h _ _ _ _ e2 s2 mk_non⟩
          · exact h.elim
        · exact h.elim
      · exact h.elim
    · exact h.elim
  | pop0 =>
    simp only [bmD] at h
    split at h
    · rename_i i
      split at h
      · rename_i ys hi
        obtain ⟨us, h1, h2⟩ := s.lstAt hi
        simp only [RVs] at rs
        subst rs
        simp only [RV] at r
        split at h
        · rename_i y hy
          obtain ⟨u, k1, k2⟩ := h2.get hy
          obtain ⟨e2, s2⟩ := less_sim s hi (c := .lst ys.dropLast) (o := .lst us.dropLast) ⟨_, rfl, h2.dropLast⟩ (fun n a1 => by
            simp only [closedC, closedL_iff] at a1 ⊢
            exact fun z hz => a1 z ((List.dropLast_sublist ys).subset hz))
          refine ⟨_, us, u, r.2, rfl, h1, by rw [← h2.len]; exact k1, h _ _ _ _ e2 s2 (RV.up e2 _ _ k2)⟩
        · exact h.elim
      · exact h.elim
    · exact h.elim
  | pop1 =>
    simp only [bmD] at h
    split at h
    · rename_i i kk
      split at h
      · rename_i ys hi
        obtain ⟨us, h1, h2⟩ := s.lstAt hi
        obtain ⟨w, rfl, rw'⟩ := one_of rs rfl
        simp only [RV] at r
        split at h
        · rename_i hz
          simp only [Bool.and_eq_true, decide_eq_true_eq] at hz
          split at h
          · rename_i j hj
            split at h
            · rename_i y hy
              obtain ⟨u, k1, k2⟩ := h2.get hy
              obtain ⟨e2, s2⟩ := less_sim s hi (c := .lst (ys.eraseIdx j)) (o := .lst (us.eraseIdx j)) ⟨_, rfl, h2.erase j⟩ (fun n a1 => by
                simp only [closedC, closedL_iff] at a1 ⊢
                exact fun z hz => a1 z (List.mem_of_mem_eraseIdx hz))
              exact ⟨_, us, kk, j, u, r.2, by rw [rv_int rw'], h1, hz.1, hz.2, by rw [← h2.len]; exact ix_seq_ok hj, k1, h _ _ _ _ e2 s2 (RV.up e2 _ _ k2)⟩
            · exact h.elim
          · exact h.elim
        · exact h.elim
      · exact h.elim
    · exact h.elim
  | extend =>
    simp only [bmD] at h
    split at h
    · rename_i i d
      split at h
      · rename_i ys zs hi hz0
        split at h
        · rename_i hz
          obtain ⟨us, h1, h2⟩ := s.lstAt hi
          obtain ⟨w, rfl, rw'⟩ := one_of rs rfl
          obtain ⟨q, ws, rfl, h3, h4⟩ := itemsW_ok s rw' hz0
          simp only [RV] at r
          split at h
          · rename_i S' e
            obtain ⟨e2, s2⟩ := put_sim hB s hi (c := .lst (ys ++ zs)) (o := .lst (us ++ ws)) ⟨_, rfl, h2.app h4⟩ (fun n a1 a2 => by
              simp only [closed] at a2
              simp only [closedC, closedL_iff, List.mem_append] at a1 a2 ⊢
              rintro z (hz | hz)
              · exact a1 z hz
              · exact a2 z hz) e
            exact ⟨_, q, us, ws, r.2, rfl, h1, h3, by rw [← h2.len, ← h4.len]; exact small_line hz, h _ _ _ _ e2 s2 mk_non⟩
          · exact h.elim
        · exact h.elim
      · exact h.elim
    · exact h.elim
end
end Ip

set_option Elab.async false
set_option linter.all false
set_option maxRecDepth 100000
set_option maxHeartbeats 4000000
set_option autoImplicit false
/-! IpC10: every expression that the checker lets pass is read rightly. -/
namespace Ip
open PySem PySem.Spec PyProof.Rows L2

section
variable {T : Tx} {B : Bas} {J : Nm} {N : List PySem.Str} {k : Nat} {cx : Ec}
/-- a value's reading is a test's -/
theorem pt_of_pe {X : L2.Cx} {e : Expr} {m : Ex} (h : PE X e (rdE T B (evE cx m))) (he : ∀ whole, isTrue e X.env whole = (do let v ← whole; standAt e.pos; holding [v] (truthy v))) : PT X e (rdT T B (evT cx m)) :=
  pt_imp (pt_val h he) fun σ H Q q => tt_val q
theorem pe_or' {X : L2.Cx} {e : Expr} {t t' : TE} (h : PE X e t) (h' : PE X e t') : PE X e (fun σ H Q => t σ H Q ∨ t' σ H Q) := ⟨fun pins s σ H Q I q => q.elim (h.run pins s σ H Q I) (h'.run pins s σ H Q I)⟩
theorem rd_nofail {α β : Type} {Rr : Hp → (Nat → Addr) → Nat → α → β → Prop} {σ : L2.St} {H : Hp} {Q : β → Hp → Prop} (h : rd T B Rr (fun _ _ => .fail) σ H Q) : False := by
  obtain ⟨_, _, _, _, _, _, _, p⟩ := h
  exact p
theorem blk_ok {X : L2.Cx} {sc scope : Scope} {own : List (PySem.Str × Nat)} (g : XG T J N k sc X) (h : BlkOk N sc scope own) : BlkOk X.N X.env.scope scope own := by
  rw [g.hN]
  refine ⟨h.kind, h.uniq, h.ix, fun y hy e => ?_, h.own⟩
  rcases h.free y hy e with z | z
  · exact .inl (g.cel _ z).1
  · exact g.fre _ z
theorem relab_free {f : PySem.Str → Bool} : ∀ {names : List (PySem.Str × NameKind)} {x : PySem.Str}, names.lookup x = some .free →
    (names.map fun p => if (p.2 == NameKind.free && f p.1) then (p.1, NameKind.cell) else (p.1, p.2)).lookup x = some .cell ∨ (names.map fun p => if (p.2 == NameKind.free && f p.1) then (p.1, NameKind.cell) else (p.1, p.2)).lookup x = some .free
  | [], x, h => by simp at h
  | (n, q) :: r, x, h => by
    have ih := @relab_free f r x
    rw [List.lookup_cons] at h
    simp only [List.map_cons]
    cases hx : x == n with
    | true =>
      rw [hx] at h
      cases h
      by_cases c : f n = true
      · left
        simp only [c, beq_self_eq_true, Bool.and_self, if_true, List.lookup_cons, hx]
      · right
        have c2 : f n = false := by simpa using c
        simp only [c2, Bool.and_false, Bool.false_eq_true, if_false, List.lookup_cons, hx]
    | false =>
      rw [hx] at h
      cases c : (q == NameKind.free && f n) with
      | true =>
        simp only [if_true, List.lookup_cons, hx]
        exact ih h
      | false =>
        simp only [Bool.false_eq_true, if_false, List.lookup_cons, hx]
        exact ih h
theorem relab_keep {f : PySem.Str → Bool} : ∀ {names : List (PySem.Str × NameKind)} {x : PySem.Str} {kd : NameKind}, kd ≠ .free → names.lookup x = some kd →
    (names.map fun p => if (p.2 == NameKind.free && f p.1) then (p.1, NameKind.cell) else (p.1, p.2)).lookup x = some kd
  | [], x, _, _, h => by simp at h
  | (n, q) :: r, x, kd, hk, h => by
    have ih := @relab_keep f r x kd hk
    rw [List.lookup_cons] at h
    simp only [List.map_cons]
    cases hx : x == n with
    | true =>
      rw [hx] at h
      cases h
      have c : (q == NameKind.free) = false := by cases q <;> first | rfl | exact absurd rfl hk
      simp only [c, Bool.false_and, Bool.false_eq_true, if_false, List.lookup_cons, hx]
    | false =>
      rw [hx] at h
      cases c : (q == NameKind.free && f n) with
      | true =>
        simp only [if_true, List.lookup_cons, hx]
        exact ih h
      | false =>
        simp only [Bool.false_eq_true, if_false, List.lookup_cons, hx]
        exact ih h
theorem blk_names (scope : Scope) (cl : List (PySem.Str × Addr)) (C : Addr) (env : PySem.Env) :
    (compEnvC scope cl C env).scope.names = scope.names.map fun p => if (p.2 == NameKind.free && (env.scope.kind == .function && env.kindOf p.1 == some .cell)) then (p.1, NameKind.cell) else (p.1, p.2) := by
  have e : (compEnvC scope cl C env).scope.names = scope.names.map fun p => if (p.2 == NameKind.free && env.scope.kind == .function && env.kindOf p.1 == some .cell) then (p.1, NameKind.cell) else (p.1, p.2) := rfl
  rw [e]
  simp only [Bool.and_assoc]
theorem blk_xg {X : L2.Cx} {sc scope : Scope} {own : List (PySem.Str × Nat)} (g : XG T J N k sc X) (h : BlkOk N sc scope own) (s : Shared) (H : Hp) (C : Addr) (cl : List (PySem.Str × Addr)) (fp : List Addr) :
    XG T J N k scope (X.blk s H scope (compEnvC scope cl C X.env) fp) := by
  have e := blk_names scope cl C X.env
  have fr : ∀ x, scope.names.lookup x = some .free → (compEnvC scope cl C X.env).scope.names.lookup x = some .cell ∨ (compEnvC scope cl C X.env).scope.names.lookup x = some .free := fun x hx => by
    rw [e]
    exact relab_free (f := fun y => X.env.scope.kind == .function && X.env.kindOf y == some .cell) hx
  have kp : ∀ x kd, kd ≠ NameKind.free → scope.names.lookup x = some kd → (compEnvC scope cl C X.env).scope.names.lookup x = some kd := fun x kd hk hx => by
    rw [e]
    exact relab_keep (f := fun y => X.env.scope.kind == .function && X.env.kindOf y == some .cell) hk hx
  refine ⟨g.hP, g.hw, g.hK, g.hm, g.hb, g.hN, g.nd, g.calm, fun x hx => ?_, fun x hx => kp x _ (by decide) hx, fun x hx => ⟨kp x _ (by decide) hx, ?_⟩, fr, fun x hx => kp x _ (by decide) hx, h.kind, g.room, g.grd, g.free⟩
  · rcases hx with hx | hx | hx
    · exact .inl (kp x _ (by decide) hx)
    · exact .inr (.inl (kp x _ (by decide) hx))
    · rcases fr x hx with z | z
      · exact .inr (.inl z)
      · exact .inr (.inr z)
  · show (scope.names.lookup x == some .cell) = true
    rw [hx]
    rfl
end
end Ip

set_option Elab.async false
set_option linter.all false
set_option maxRecDepth 100000
set_option maxHeartbeats 8000000
set_option autoImplicit false
/-! IpC11: the theorem about expressions. -/
namespace Ip
open PySem PySem.Spec PyProof.Rows L2

section
variable {T : Tx} {B : Bas} {J : Nm} {N : List PySem.Str} {k : Nat} {cx : Ec}
/-- what is shown of an expression -/
abbrev GoodE (T : Tx) (B : Bas) (cx : Ec) (X : L2.Cx) (m : Ex) (e : Expr) : Prop := PE X e (rdE T B (evE cx m)) ∧ (isIte m = false → PT X e (rdT T B (evT cx m)))
/-- .. of a list of them -/
structure GoodEs (T : Tx) (B : Bas) (cx : Ec) (X : L2.Cx) (ms : Exs) (es : List Expr) : Prop where
  pl : ∀ e ∈ es, ∀ a b, e ≠ .Starred a b
  pa : PA X es (rdA T B (evEs cx ms))
  len : es = [] → ms = .nil
  andV : ∀ p, es ≠ [] → PE X (.BoolOp .And es p) (rdE T B (evAnd cx ms))
  andT : ∀ p, noIte ms = true → es ≠ [] → PW X (.BoolOp .And es p) (rdT T B (fun ρ S => (evAnd cx ms ρ S).bind fun x S1 => R.of (truD x S1) S1))
  orV : ∀ p, es ≠ [] → PE X (.BoolOp .Or es p) (rdE T B (evOr cx ms))
  orT : ∀ p, noIte ms = true → es ≠ [] → PW X (.BoolOp .Or es p) (rdT T B (fun ρ S => (evOr cx ms ρ S).bind fun x S1 => R.of (truD x S1) S1))
  pts : noIte ms = true → es.length ≤ 1 → PTs X es (rdT T B (evCs cx ms))

def isLogic : Expr → Bool
    | .UnaryOp .Not _ _ => true
    | .BoolOp _ _ _ => true
    | .IfExp _ _ _ _ => true
    | .Compare _ _ _ _ => true
    | _ => false
theorem isTrue_plain' {e : Expr} {env : PySem.Env} (h : isLogic e = false) (whole : Sem Value) : isTrue e env whole = (do let v ← whole; standAt e.pos; holding [v] (truthy v)) := by
  cases e with
  | UnaryOp op x p => cases op <;> first | (cases h; done) | rfl
  | BoolOp _ _ _ => cases h
  | IfExp _ _ _ _ => cases h
  | Compare _ _ _ _ => cases h
  | _ => rfl

theorem goodEs_nil {X : L2.Cx} : GoodEs T B cx X .nil [] where
  pl := fun _ h => nomatch h
  pa := pa_imp pa_nil fun σ H Q q => by
    obtain ⟨F, G, al, ρ, S, s, e, p⟩ := q
    simp only [evEs] at p
    exact p.ok s RVs.nil
  len := fun _ => rfl
  andV := fun _ h => (h rfl).elim
  andT := fun _ _ h => (h rfl).elim
  orV := fun _ h => (h rfl).elim
  orT := fun _ _ h => (h rfl).elim
  pts := fun _ _ => ⟨fun pins s σ H Q I q => pts_nil.run pins s σ H Q I (by
    obtain ⟨F, G, al, ρ, S, s, e, p⟩ := q
    simp only [evCs] at p
    exact p.ok s rfl)⟩

theorem goodEs_cons {X : L2.Cx} {m : Ex} {ms : Exs} {e : Expr} {es : List Expr} (g1 : GoodE T B cx X m e) (hp : plainE e = true) (g2 : GoodEs T B cx X ms es) (hnil : es = [] ↔ ms = .nil) : GoodEs T B cx X (.cons false m ms) (e :: es) where
  pl := fun x hx => by
    rcases List.mem_cons.mp hx with z | z
    · rw [z]
      exact plainE_ok hp
    · exact g2.pl x z
  pa := pa_imp (pa_cons g1.1 g2.pa (starOne (plainE_ok hp))) fun σ H Q q => by
    refine rd_bind (k := fun ρ x S1 => (evEs cx ms ρ S1).bind fun xs S2 => .ok (x :: xs) S2) (rd_eq q fun ρ S => by simp only [evEs, Bool.false_eq_true, if_false]) fun F G al ρ S x v H1 s e rx p => ?_
    refine rd_of s e (Post.bind p fun xs S2 G2 al2 H2 vs x2 s2 rs p2 => p2.ok s2 (RVs.cons (RV.up x2 _ _ rx) rs))
  len := fun h => nomatch h
  andV := fun p _ => by
    cases es with
    | nil =>
      cases hnil.mp rfl
      exact pe_imp (pe_one g1.1) fun σ H Q q => rd_eq q fun ρ S => by simp only [evAnd]
    | cons e2 es2 =>
      cases ms with
      | nil => cases hnil.mpr rfl
      | cons st m2 ms2 =>
        refine pe_imp (pe_and g1.1 (g2.andV p (by simp))) fun σ H Q q => ?_
        refine rd_bind (k := fun ρ x S1 => (R.of (truD x S1) S1).bind fun kk S2 => if kk then evAnd cx (.cons st m2 ms2) ρ S2 else .ok (.bl false) S2) (rd_eq q fun ρ S => by rw [evAnd]) fun F G al ρ S x v H1 s er rx pp => ?_
        obtain ⟨b, hb, pp⟩ := post_ofb pp
        refine ⟨b, tru_ok rx hb, ?_⟩
        cases b with
        | true => exact rd_of s er pp
        | false => exact pp.ok s mk_bl
  andT := fun p hni _ => by
    simp only [noIte, Bool.and_eq_true, Bool.not_eq_true'] at hni
    have hi := hni.1
    cases es with
    | nil =>
      cases hnil.mp rfl
      exact pw_imp (pw_and1 (g1.2 hi)) fun σ H Q q => rd_eq q fun ρ S => by simp only [evAnd, evT]
    | cons e2 es2 =>
      cases ms with
      | nil => cases hnil.mpr rfl
      | cons st m2 ms2 =>
        refine pw_imp (pw_and (g1.2 hi) (g2.andT p hni.2 (by simp))) fun σ H Q q => ?_
        refine tt_bind (k := fun ρ b S2 => if b then (evAnd cx (.cons st m2 ms2) ρ S2).bind fun x S1 => R.of (truD x S1) S1 else .ok false S2) (rd_eq q fun ρ S => by
          rw [evAnd]
          simp only [bind_bind]
          refine bind_congr fun x S1 => bind_congr fun b S2 => ?_
          cases b <;> rfl) fun F G al ρ S b H1 s er pp => ?_
        cases b with
        | true => exact rd_of s er pp
        | false => exact pp.ok s rfl
  orV := fun p _ => by
    cases es with
    | nil =>
      cases hnil.mp rfl
      exact pe_imp (pe_one g1.1) fun σ H Q q => rd_eq q fun ρ S => by simp only [evOr]
    | cons e2 es2 =>
      cases ms with
      | nil => cases hnil.mpr rfl
      | cons st m2 ms2 =>
        refine pe_imp (pe_or g1.1 (g2.orV p (by simp))) fun σ H Q q => ?_
        refine rd_bind (k := fun ρ x S1 => (R.of (truD x S1) S1).bind fun kk S2 => if kk then .ok (.bl true) S2 else evOr cx (.cons st m2 ms2) ρ S2) (rd_eq q fun ρ S => by rw [evOr]) fun F G al ρ S x v H1 s er rx pp => ?_
        obtain ⟨b, hb, pp⟩ := post_ofb pp
        refine ⟨b, tru_ok rx hb, ?_⟩
        cases b with
        | true => exact pp.ok s mk_bl
        | false => exact rd_of s er pp
  orT := fun p hni _ => by
    simp only [noIte, Bool.and_eq_true, Bool.not_eq_true'] at hni
    have hi := hni.1
    cases es with
    | nil =>
      cases hnil.mp rfl
      exact pw_imp (pw_or1 (g1.2 hi)) fun σ H Q q => rd_eq q fun ρ S => by simp only [evOr, evT]
    | cons e2 es2 =>
      cases ms with
      | nil => cases hnil.mpr rfl
      | cons st m2 ms2 =>
        refine pw_imp (pw_or (g1.2 hi) (g2.orT p hni.2 (by simp))) fun σ H Q q => ?_
        refine tt_bind (k := fun ρ b S2 => if b then .ok true S2 else (evOr cx (.cons st m2 ms2) ρ S2).bind fun x S1 => R.of (truD x S1) S1) (rd_eq q fun ρ S => by
          rw [evOr]
          simp only [bind_bind]
          refine bind_congr fun x S1 => bind_congr fun b S2 => ?_
          cases b <;> rfl) fun F G al ρ S b H1 s er pp => ?_
        cases b with
        | true => exact pp.ok s rfl
        | false => exact rd_of s er pp
  pts := fun hni h => by
    simp only [noIte, Bool.and_eq_true, Bool.not_eq_true'] at hni
    have hi := hni.1
    cases es with
    | nil =>
      cases hnil.mp rfl
      refine ⟨fun pins s σ H Q I q => (pts_one (g1.2 hi)).run pins s σ H Q I ?_⟩
      refine tt_bind (k := fun ρ b S2 => if b then .ok true S2 else .ok false S2) (rd_eq q fun ρ S => by
        rw [evCs]
        refine bind_congr fun x S1 => bind_congr fun b S2 => ?_
        cases b
        · rfl
        · simp only [if_true, evCs]) fun F G al ρ S b H1 s er pp => ?_
      cases b with
      | true => exact pp.ok s rfl
      | false => exact pp.ok s rfl
    | cons _ _ => simp at h
end
end Ip

set_option Elab.async false
set_option linter.all false
set_option maxRecDepth 100000
set_option maxHeartbeats 8000000
set_option autoImplicit false
/-! IpC12: every expression that the checker lets pass is read rightly. -/
namespace Ip
open PySem PySem.Spec PyProof.Rows L2

section
variable {T : Tx} {B : Bas} {J : Nm} {N : List PySem.Str} {k : Nat} {cx : Ec}

theorem starAll : ∀ {es : List Expr} {env : PySem.Env} {pos : Pos}, (∀ e ∈ es, ∀ a b, e ≠ .Starred a b) → (backTo pos (starEach es env)).all (fun x => !x.1) = true
  | [], _, _, _ => rfl
  | e :: es, env, pos, h => by
    have h1 := starAll (env := env) (pos := pos) fun x hx => h x (List.mem_cons_of_mem _ hx)
    rw [starOne (h e List.mem_cons_self)]
    unfold backTo at h1 ⊢
    simp only [List.map_cons, List.all_cons, Bool.not_false, Bool.true_and]
    exact h1
/-- a method of lists -/
theorem bm_list {X : L2.Cx} {sc : Scope} (g : XG T J N k sc X) (hB : ∀ n, B n → n ≤ cx.base) (b : Bm) {o : Expr} {xs : List Expr} {m : PySem.Str} {ap cp : Pos} {id : String} {a : Ex} {es : Exs} (slot : Slot "list" m id) (hty : typeOf (.builtin id) = pure (.type "method_descriptor")) (hm : MtR X id (bmR b))
    (ho : okBase o = true) (hl : ap.endLine = cp.line) (hn : xs.length < 20) (h1 : PE X o (rdE T B (evE cx a))) (h2 : GoodEs T B cx X es xs) : PE X (.Call (.Attribute o m ap) xs [] cp) (rdE T B (evE cx (.bm b a es))) := by
  have hbase : attributeBase o m X.env (eval o X.env) = eval o X.env := ab_ok ho
  have hline : (ap.endLine == cp.line) = true := by rw [hl]; exact beq_self_eq_true _
  have ty : ∀ {F G : Hp} {al : Nat → Addr} {S : Store} {H : Hp} {x : D} {v : V}, Sim T B F G al S H → RV T G al S.length x v → bmTy b x S = true → tyV X.K "list" v H := by
    intro F G al S H x v s r hb
    unfold bmTy at hb
    cases q : itemsL S x with
    | none => rw [q] at hb; cases hb
    | some ys =>
      obtain ⟨p, vs, rfl, e2, e3⟩ := itemsL_ok s r q
      rw [g.hK]
      exact .inl ⟨rfl, vs, e2⟩
  have main : ∀ {σ : L2.St} {H : Hp} {Q : VK}, rdE T B (evE cx (.bm b a es)) σ H Q → rdE T B (evE cx a) σ H fun x H1 => tyV X.K "list" x H1 ∧ rdA T B (evEs cx es) σ H1 fun vs H2 => bmR b x vs H2 Q := by
    intro σ H Q q
    refine rd_bind (k := fun ρ x S1 => if bmTy b x S1 then (evEs cx es ρ S1).bind fun xs S2 => bmD cx.base b x xs S2 else .fail) (rd_eq q fun ρ S => by rw [evE]) fun F G al ρ S x v H1 s e rx p => ?_
    by_cases c : bmTy b x S = true
    · rw [if_pos c] at p
      exact ⟨ty s rx c, rd_of s e (Post.bind p fun ys S2 G2 al2 H2 vs x2 s2 rs p2 => bm_ok hB b s2 (RV.up x2 _ _ rx) rs p2)⟩
    · rw [if_neg c] at p
      exact p.elim
  cases xs with
  | nil =>
    cases h2.len rfl
    refine pe_imp (pe_bm0 PySem.F.plainAttrs_list slot hty hm h1 hbase hline) fun σ H Q q => ?_
    refine rd_mono (main q) fun v H1 z => ⟨z.1, ?_⟩
    obtain ⟨F, G, al, ρ, S, s, e, p⟩ := z.2
    simp only [evEs] at p
    exact p.ok s RVs.nil
  | cons e es' =>
    refine pe_imp (pe_bm PySem.F.plainAttrs_list slot hty hm h1 h2.pa hbase ?_ hline (starOne (h2.pl e List.mem_cons_self)) (starOk fun x hx => h2.pl x (List.mem_cons_of_mem _ hx))) fun σ H Q q => main q
    rw [starAll h2.pl]
    show (true && true && decide _) = true
    simp only [Bool.true_and]
    refine decide_eq_true ?_
    simp only [List.length_cons, List.length_nil] at hn ⊢
    simp
    omega
theorem bm_all {X : L2.Cx} {sc : Scope} (g : XG T J N k sc X) (hB : ∀ n, B n → n ≤ cx.base) (b : Bm) {o : Expr} {xs : List Expr} {m : PySem.Str} {ap cp : Pos} {a : Ex} {es : Exs} (hm : m = Str.ofString (bmN b))
    (ho : okBase o = true) (hl : ap.endLine = cp.line) (hn : xs.length < 20) (h1 : PE X o (rdE T B (evE cx a))) (h2 : GoodEs T B cx X es xs) : PE X (.Call (.Attribute o m ap) xs [] cp) (rdE T B (evE cx (.bm b a es))) := by
  subst hm
  cases b with
  | append => exact bm_list g hB .append PySem.F.slot_list_append PySem.F.type_list_append mt_append ho hl hn h1 h2
  | pop0 => exact bm_list g hB .pop0 PySem.F.slot_list_pop PySem.F.type_list_pop mt_pop ho hl hn h1 h2
  | pop1 => exact bm_list g hB .pop1 PySem.F.slot_list_pop PySem.F.type_list_pop mt_popAt ho hl hn h1 h2
  | extend => exact bm_list g hB .extend PySem.F.slot_list_extend PySem.F.type_list_extend mt_extend ho hl hn h1 h2

theorem it_seq {X : L2.Cx} {sc : Scope} (g : XG T J N k sc X) {m : Ex} {tg e : Expr} (h : PE X e (rdE T B (evE cx m))) : PI X tg e (rdI T B (evIt cx (.seq m))) := by
  have hp := pi_or (pi_list (tg := tg) h) (pi_tup (tg := tg) h)
  rw [g.hK] at hp
  refine pi_imp hp fun σ H Q q => ?_
  obtain ⟨F, G, al, ρ, S, s, e, p⟩ := q
  simp only [evIt] at p
  cases hv : evE cx m ρ S with
  | exc _ _ _ => rw [hv] at p; exact p.elim
  | fail => rw [hv] at p; exact p.elim
  | ok x S1 =>
    rw [hv] at p
    simp only [R.bind] at p
    by_cases ht : ∃ xs, x = .tup xs
    · obtain ⟨xs, rfl⟩ := ht
      refine .inr ⟨F, G, al, ρ, S, s, e, ?_⟩
      rw [hv]
      intro G1 al1 H1 v x1 s1 rv
      obtain ⟨a, rfl, h1, h2⟩ := walk_T s1 rv
      exact ⟨a, rfl, h1, p G1 al1 H1 _ x1 s1 (by simp [lockAll, lock]) h2⟩
    · refine .inl ⟨F, G, al, ρ, S, s, e, ?_⟩
      rw [hv]
      intro G1 al1 H1 v x1 s1 rv
      split at p
      · rename_i w S' hw
        split at hw
        · exact (ht ⟨_, rfl⟩).elim
        · split at hw
          · rename_i xs hx
            cases hw
            obtain ⟨a, rfl, h1, h2⟩ := walk_L s1 rv hx
            exact ⟨a, rfl, h1, p G1 al1 H1 _ x1 s1 (by simp [lockAll, lockD_refl hx]) h2⟩
          · cases hw
      · exact p.elim

theorem pa_one {X : L2.Cx} {e : Expr} {m : Ex} (h : PE X e (rdE T B (evE cx m))) (hp : plainE e = true) : PA X [e] (tCons (rdE T B (evE cx m)) tNil) := pa_cons h pa_nil (starOne (plainE_ok hp))
theorem pa_two {X : L2.Cx} {e e2 : Expr} {m m2 : Ex} (h : PE X e (rdE T B (evE cx m))) (h2 : PE X e2 (rdE T B (evE cx m2))) (hp : plainE e = true) (hp2 : plainE e2 = true) : PA X [e, e2] (tCons (rdE T B (evE cx m)) (tCons (rdE T B (evE cx m2)) tNil)) :=
  pa_cons h (pa_cons h2 pa_nil (starOne (plainE_ok hp2))) (starOne (plainE_ok hp))
theorem big_ok {i : Int} (h : big62 i = true) : -(2 ^ 62) ≤ i ∧ i < 2 ^ 62 := by
  simp only [big62, Bool.and_eq_true, decide_eq_true_eq] at h
  exact h
theorem it_rng1 {X : L2.Cx} {sc : Scope} (g : XG T J N k sc X) {m : Ex} {tg e : Expr} {p pos : Pos} (h : PE X e (rdE T B (evE cx m))) (hp : plainE e = true) (hg : isGlo sc (Str.ofString "range") = true) (hf : Str.ofString "range" ∈ J.free) :
    PI X tg (.Call (.Name (Str.ofString "range") p) [e] [] pos) (rdI T B (evIt cx (.rng1 m))) := by
  refine pi_imp (pi_range1 (g.gl hg) (g.nofree hf) (pa_one h hp) (starOne (plainE_ok hp))) fun σ H Q q => ?_
  obtain ⟨F, G, al, ρ, S, s, e, p⟩ := q
  simp only [evIt] at p
  cases hv : evE cx m ρ S with
  | exc _ _ _ => rw [hv] at p; exact p.elim
  | fail => rw [hv] at p; exact p.elim
  | ok x S1 =>
    rw [hv] at p
    simp only [R.bind] at p
    refine ⟨F, G, al, ρ, S, s, e, ?_⟩
    rw [hv]
    intro G1 al1 H1 v x1 s1 rv
    cases x with
    | int j =>
      dsimp only at p
      by_cases c : big62 j = true
      · rw [if_pos c] at p
        obtain ⟨c1, c2⟩ := big_ok c
        exact ⟨j, by rw [rv_int rv], c1, c2, p G1 al1 H1 _ x1 s1 rfl walk_R⟩
      · rw [if_neg c] at p
        exact p.elim
    | _ => exact p.elim
theorem it_rng2 {X : L2.Cx} {sc : Scope} (g : XG T J N k sc X) {m m2 : Ex} {tg e e2 : Expr} {p pos : Pos} (h : PE X e (rdE T B (evE cx m))) (h2 : PE X e2 (rdE T B (evE cx m2))) (hp : plainE e = true) (hp2 : plainE e2 = true) (hg : isGlo sc (Str.ofString "range") = true)
    (hf : Str.ofString "range" ∈ J.free) : PI X tg (.Call (.Name (Str.ofString "range") p) [e, e2] [] pos) (rdI T B (evIt cx (.rng2 m m2))) := by
  refine pi_imp (pi_range2 (g.gl hg) (g.nofree hf) (pa_two h h2 hp hp2) (by rw [starOne (plainE_ok hp), starOne (plainE_ok hp2)]; rfl) (by rw [starOne (plainE_ok hp2)]; rfl)) fun σ H Q q => ?_
  obtain ⟨F, G, al, ρ, S, s, e, p⟩ := q
  simp only [evIt] at p
  cases hv : evE cx m ρ S with
  | exc _ _ _ => rw [hv] at p; exact p.elim
  | fail => rw [hv] at p; exact p.elim
  | ok x S1 =>
    rw [hv] at p
    simp only [R.bind] at p
    refine ⟨F, G, al, ρ, S, s, e, ?_⟩
    rw [hv]
    intro G1 al1 H1 v x1 s1 rv
    refine ⟨F, G1, al1, ρ, S1, s1, e.up x1, ?_⟩
    cases hv2 : evE cx m2 ρ S1 with
    | exc _ _ _ => rw [hv2] at p; exact p.elim
    | fail => rw [hv2] at p; exact p.elim
    | ok y S2 =>
      rw [hv2] at p
      intro G2 al2 H2 w x2 s2 rw2
      simp only at p
      split at p
      · rename_i wk S' hw
        split at hw
        · rename_i i j
          split at hw
          · rename_i c
            cases hw
            simp only [Bool.and_eq_true] at c
            obtain ⟨c1, c2⟩ := big_ok c.1
            obtain ⟨c3, c4⟩ := big_ok c.2
            exact ⟨i, j, by rw [rv_int rv, rv_int rw2], ⟨c1, c2, c3, c4⟩, p G2 al2 H2 _ (x1.trans x2) s2 rfl walk_R⟩
          · cases hw
        · cases hw
      · exact p.elim
theorem it_enum {X : L2.Cx} {sc : Scope} (g : XG T J N k sc X) {m : Ex} {tg e : Expr} {p pos : Pos} (h : PE X e (rdE T B (evE cx m))) (hp : plainE e = true) (ht : isTup tg = true) (hg : isGlo sc (Str.ofString "enumerate") = true) (hf : Str.ofString "enumerate" ∈ J.free) :
    PI X tg (.Call (.Name (Str.ofString "enumerate") p) [e] [] pos) (rdI T B (evIt cx (.enum m))) := by
  cases tg with
  | Tuple elts kk tpos =>
    have hpi := pi_enum (elts := elts) (kk := kk) (tpos := tpos) (p := p) (pos := pos) (g.gl hg) (g.nofree hf) (pa_one h hp) (starOne (plainE_ok hp))
    rw [g.hK] at hpi
    refine pi_imp hpi fun σ H Q q => ?_
    obtain ⟨F, G, al, ρ, S, s, e, p⟩ := q
    simp only [evIt] at p
    cases hv : evE cx m ρ S with
    | exc _ _ _ => rw [hv] at p; exact p.elim
    | fail => rw [hv] at p; exact p.elim
    | ok x S1 =>
      rw [hv] at p
      simp only [R.bind] at p
      refine ⟨F, G, al, ρ, S, s, e, ?_⟩
      rw [hv]
      intro G1 al1 H1 v x1 s1 rv
      cases hi : itemsL S1 x with
      | none => rw [hi] at p; exact p.elim
      | some xs =>
        rw [hi] at p
        obtain ⟨a, vs, rfl, h1, h2⟩ := walk_E s1 rv hi
        exact ⟨a, vs, rfl, h1, p G1 al1 H1 _ x1 s1 (by simp [lockAll, lockD_refl hi]) h2⟩
  | _ => cases ht
theorem it_zip {X : L2.Cx} {sc : Scope} (g : XG T J N k sc X) {m m2 : Ex} {tg e e2 : Expr} {p pos : Pos} (h : PE X e (rdE T B (evE cx m))) (h2 : PE X e2 (rdE T B (evE cx m2))) (hp : plainE e = true) (hp2 : plainE e2 = true) (ht : isTup tg = true)
    (hg : isGlo sc (Str.ofString "zip") = true) (hf : Str.ofString "zip" ∈ J.free) : PI X tg (.Call (.Name (Str.ofString "zip") p) [e, e2] [] pos) (rdI T B (evIt cx (.zip m m2))) := by
  cases tg with
  | Tuple elts kk tpos =>
    have hpi := RZ.pi_zipA (elts := elts) (kk := kk) (tpos := tpos) (p := p) (pos := pos) (g.gl hg) (g.nofree hf) (pa_two h h2 hp hp2) (starOne (plainE_ok hp)) (starOk fun x hx => by
      rcases List.mem_cons.mp hx with z | z
      · rw [z]; exact plainE_ok hp2
      · cases z)
    rw [g.hK] at hpi
    refine pi_imp hpi fun σ H Q q => ?_
    obtain ⟨F, G, al, ρ, S, s, e, p⟩ := q
    simp only [evIt] at p
    cases hv : evE cx m ρ S with
    | exc _ _ _ => rw [hv] at p; exact p.elim
    | fail => rw [hv] at p; exact p.elim
    | ok x S1 =>
      rw [hv] at p
      simp only [R.bind] at p
      refine ⟨F, G, al, ρ, S, s, e, ?_⟩
      rw [hv]
      intro G1 al1 H1 v x1 s1 rv
      refine ⟨F, G1, al1, ρ, S1, s1, e.up x1, ?_⟩
      cases hv2 : evE cx m2 ρ S1 with
      | exc _ _ _ => rw [hv2] at p; exact p.elim
      | fail => rw [hv2] at p; exact p.elim
      | ok y S2 =>
        rw [hv2] at p
        intro G2 al2 H2 w x2 s2 rw2
        simp only at p
        split at p
        · rename_i wk S' hw
          split at hw
          · cases hw
            obtain ⟨a, b, vs, ws, rfl, rfl, h1, h2, h3⟩ := walk_ZT s2 (RV.up x2 _ _ rv) rw2
            exact ⟨a, b, vs, ws, rfl, .inr ⟨h1, h2, p G2 al2 H2 _ (x1.trans x2) s2 (by simp [lockAll, lock]) h3⟩⟩
          · split at hw
            · rename_i xs ys hx hy
              cases hw
              obtain ⟨a, b, vs, ws, rfl, rfl, h1, h2, h3⟩ := walk_ZL s2 (RV.up x2 _ _ rv) hx rw2 hy
              exact ⟨a, b, vs, ws, rfl, .inl ⟨h1, h2, p G2 al2 H2 _ (x1.trans x2) s2 (by simp [lockAll, lockD_refl hx, lockD_refl hy]) h3⟩⟩
            · cases hw
        · exact p.elim
  | _ => cases ht
end
end Ip

set_option Elab.async false
set_option linter.all false
set_option maxRecDepth 100000
set_option maxHeartbeats 8000000
set_option autoImplicit false
/-! IpC13: the theorem about expressions. -/
namespace Ip
open PySem PySem.Spec PyProof.Rows L2

section
variable {T : Tx} {B : Bas} {J : Nm} {N : List PySem.Str} {k : Nat} {cx : Ec}

theorem good_plain {X : L2.Cx} {m : Ex} {e : Expr} (h : PE X e (rdE T B (evE cx m))) (hs : isLogic e = false) : GoodE T B cx X m e := ⟨h, fun _ => pt_of_pe h (isTrue_plain' hs)⟩

/-- comparisons: what the values tell -/
theorem cm_te (o : Cm) {fa fb : Env → Store → R D} {σ : L2.St} {H : Hp} {Q : VK} (h : rdE T B (fun ρ S => (fa ρ S).bind fun x S1 => (fb ρ S1).bind fun y S2 => R.of ((cmpD o x y S2).map .bl) S2) σ H Q) : tOp (cmR T.K o) (rdE T B fa) (rdE T B fb) σ H Q :=
  te2 (k := fun x y S2 => R.of ((cmpD o x y S2).map .bl) S2) (fun F G al S H x y v w Q s r q p => by
    obtain ⟨a, ha, p⟩ := post_of p
    cases hc : cmpD o x y S with
    | none => rw [hc] at ha; cases ha
    | some b =>
      rw [hc] at ha
      cases ha
      exact cm_ok o s r q hc (p.ok s mk_bl)) h
theorem chn_te (o o' : Cm) {fa fb fc : Env → Store → R D} {σ : L2.St} {H : Hp} {Q : VK}
    (h : rdE T B (fun ρ S => (fa ρ S).bind fun x S1 => (fb ρ S1).bind fun y S2 => (R.of (cmpD o x y S2) S2).bind fun b S3 => if b then (fc ρ S3).bind fun z S4 => R.of ((cmpD o' y z S4).map .bl) S4 else .ok (.bl false) S3) σ H Q) :
    tChain (cmR T.K o) (cmR T.K o') (rdE T B fa) (rdE T B fb) (rdE T B fc) σ H Q := by
  refine rd_bind (k := fun ρ x S1 => (fb ρ S1).bind fun y S2 => (R.of (cmpD o x y S2) S2).bind fun b S3 => if b then (fc ρ S3).bind fun z S4 => R.of ((cmpD o' y z S4).map D.bl) S4 else .ok (D.bl false) S3) (Rs := RV T) h fun F G al ρ S x v H1 s e rx p => ?_
  refine rd_of s e (Post.bind p fun y S2 G2 al2 H2 w x2 s2 ry p2 => ?_)
  obtain ⟨b, hb, p3⟩ := post_ofb p2
  refine cm_ok o s2 (RV.up x2 _ _ rx) ry hb ⟨b, rfl, ?_⟩
  cases b with
  | true =>
    rw [if_pos rfl] at p3 ⊢
    refine rd_of s2 (e.up x2) (Post.bind p3 fun z S4 G4 al4 H4 u x4 s4 rz p4 => ?_)
    obtain ⟨a, ha, p4⟩ := post_of p4
    cases hc : cmpD o' y z S4 with
    | none => rw [hc] at ha; cases ha
    | some c =>
      rw [hc] at ha
      cases ha
      exact cm_ok o' s4 (RV.up x4 _ _ ry) rz hc (p4.ok s4 mk_bl)
  | false => exact p3.ok s2 mk_bl

theorem po_imp {X : L2.Cx} {e : Option Expr} {t t' : TO} (h : PO X e t) (k : ∀ σ H Q, t' σ H Q → t σ H Q) : PO X e t' := ⟨fun pins s σ H Q I q => h.run pins s σ H Q I (k _ _ _ q)⟩

theorem po_good {X : L2.Cx} {sc : Scope} {m : Ex} {e : Option Expr} (g : ∀ e, chkE J N m sc e = true → PE X e (rdE T B (evE cx m))) (h : chkO J N m sc e = true) : PO X e (rd T B (fun _ _ _ d o => RO d o) (fun ρ S => (evE cx m ρ S).bind (endD (isNonL m)))) := by
  cases e with
  | some e =>
    simp only [chkO, Bool.and_eq_true, Bool.not_eq_true'] at h
    refine po_imp (po_some (g e h.2)) fun σ H Q q => ?_
    refine rd_bind (k := fun _ => endD (isNonL m)) q fun F G al ρ S x v H1 s e rx p => ?_
    rw [h.1] at p
    cases x with
    | int i => exact ⟨i, rv_int rx, p.ok s rfl⟩
    | _ => exact p.elim
  | none =>
    have hm : m = .lit .non := by
      simp only [chkO] at h
      unfold isNonL at h
      split at h
      · rfl
      · cases h
    subst hm
    refine po_imp po_none fun σ H Q q => ?_
    obtain ⟨F, G, al, ρ, S, s, e, p⟩ := q
    simp only [evE] at p
    exact p.ok s rfl

variable (hcall : CallOk T J k cx.call) (hB : ∀ n, B n → n ≤ cx.base)
include hcall hB
mutual
theorem sndE : ∀ (m : Ex) (sc : Scope) (X : L2.Cx) (e : Expr), XG T J N k sc X → chkE J N m sc e = true → GoodE T B cx X m e
  | .nev, sc, X, e, g, h => by
    refine ⟨⟨fun pins s σ H Q I q => ?_⟩, fun _ => ⟨fun pins s σ H Q I q => ?_⟩⟩
    · exact (rd_nofail (rd_eq q fun ρ S => by simp only [evE])).elim
    · exact (rd_nofail (rd_eq q fun ρ S => by simp only [evT, evE]; rfl)).elim
  | .var i, sc, X, e, g, h => by
    unfold chkE at h
    split at h
    · rename_i x p
      simp only [Bool.and_eq_true] at h
      obtain ⟨h1, h2, h3⟩ := h
      refine good_plain (pe_imp (pe_var (g.at_ h1) (g.vis x (isVis_ok h2)) (nm_ok h3).1 (nm_ok h3).2) fun σ H Q q => ?_) rfl
      obtain ⟨F, G, al, ρ, S, s, e, p⟩ := q
      simp only [evE] at p
      split at p
      · rename_i d hd
        obtain ⟨v, hv, rv⟩ := e.2 i d hd
        exact ⟨v, hv, p.ok s rv⟩
      · exact p.elim
    · cases h
  | .lit d, sc, X, e, g, h => by
    unfold chkE at h
    split at h
    · exact good_plain (chkLit_ok h) rfl
    · cases h
  | .gl _ _, sc, X, e, g, h => by
    simp only [chkE] at h
    cases h
  | .bin o a b, sc, X, e, g, h => by
    unfold chkE at h
    split at h
    · simp only [Bool.and_eq_true, decide_eq_true_eq] at h
      obtain ⟨h1, h2, h3⟩ := h
      subst h1
      have hop := op_bin (X := X) o
      rw [g.hK] at hop
      exact good_plain (pe_imp (pe_op hop (sndE a sc X _ g h2).1 (sndE b sc X _ g h3).1) fun σ H Q q => te2 (fun F G al S H x y v w Q s r q p => bin_ok o s r q p) (rd_eq q fun ρ S => by rw [evE])) rfl
    · cases h
  | .neg a, sc, X, e, g, h => by
    unfold chkE at h
    split at h
    · refine good_plain (pe_imp (pe_un un_neg (sndE a sc X _ g h).1) fun σ H Q q => te1 (k := negD) (fun F G al S H x v Q s r p => ?_) (rd_eq q fun ρ S => by rw [evE])) rfl
      cases x with
      | int i => exact ⟨i, rv_int r, p.ok s mk_int⟩
      | _ => exact p.elim
    · cases h
  | .cmp o a b, sc, X, e, g, h => by
    unfold chkE at h
    split at h
    · simp only [Bool.and_eq_true, decide_eq_true_eq, Bool.not_eq_true'] at h
      obtain ⟨h1, h0, h2, h3⟩ := h
      subst h1
      have hop := op_cm (X := X) g.un o
      rw [g.hK] at hop
      have A := (sndE a sc X _ g h2).1
      have C := (sndE b sc X _ g h3).1
      refine ⟨pe_imp (pe_cmpR hop A C h0) fun σ H Q q => cm_te o (rd_eq q fun ρ S => by rw [evE]), fun _ => pt_imp (pt_cmpR hop A C h0) fun σ H Q q => ?_⟩
      exact cm_te o (rd_eq (tt_val q) fun ρ S => by rw [evE])
    · cases h
  | .chn o p a b c, sc, X, e, g, h => by
    unfold chkE at h
    split at h
    · simp only [Bool.and_eq_true, decide_eq_true_eq, Bool.not_eq_true'] at h
      obtain ⟨h1, h1', h0, h2, h3, h4⟩ := h
      subst h1 h1'
      have hop := op_cm (X := X) g.un o
      have hop' := op_cm (X := X) g.un p
      rw [g.hK] at hop hop'
      have A := (sndE a sc X _ g h2).1
      have C := (sndE b sc X _ g h3).1
      have E := (sndE c sc X _ g h4).1
      refine ⟨pe_imp (pe_chain hop hop' A C E h0) fun σ H Q q => chn_te o p (rd_eq q fun ρ S => by rw [evE]), fun _ => pt_imp (pt_chain hop hop' A C E h0) fun σ H Q q => ?_⟩
      exact chn_te o p (rd_eq (tt_val q) fun ρ S => by rw [evE])
    · cases h
  | .and es, sc, X, e, g, h => by
    unfold chkE at h
    split at h
    · rename_i xs p
      simp only [Bool.and_eq_true] at h
      have G := sndEs es sc X xs g h.2
      cases xs with
      | nil =>
        cases G.len rfl
        refine ⟨⟨fun pins s σ H Q I q => ?_⟩, fun _ => ⟨fun pins s σ H Q I q => ?_⟩⟩
        · exact (rd_nofail (rd_eq q fun ρ S => by simp only [evE, evAnd])).elim
        · exact (rd_nofail (rd_eq q fun ρ S => by simp only [evT, evE, evAnd]; rfl)).elim
      | cons y ys =>
        exact ⟨pe_imp (G.andV p (by simp)) fun σ H Q q => rd_eq q fun ρ S => by rw [evE], fun _ => pt_imp (G.andT p h.1 (by simp)).pt fun σ H Q q => rd_eq q fun ρ S => by rw [evT, evE]⟩
    · cases h
  | .or es, sc, X, e, g, h => by
    unfold chkE at h
    split at h
    · rename_i xs p
      simp only [Bool.and_eq_true] at h
      have G := sndEs es sc X xs g h.2
      cases xs with
      | nil =>
        cases G.len rfl
        refine ⟨⟨fun pins s σ H Q I q => ?_⟩, fun _ => ⟨fun pins s σ H Q I q => ?_⟩⟩
        · exact (rd_nofail (rd_eq q fun ρ S => by simp only [evE, evOr])).elim
        · exact (rd_nofail (rd_eq q fun ρ S => by simp only [evT, evE, evOr]; rfl)).elim
      | cons y ys =>
        exact ⟨pe_imp (G.orV p (by simp)) fun σ H Q q => rd_eq q fun ρ S => by rw [evE], fun _ => pt_imp (G.orT p h.1 (by simp)).pt fun σ H Q q => rd_eq q fun ρ S => by rw [evT, evE]⟩
    · cases h
  | .not a, sc, X, e, g, h => by
    unfold chkE at h
    split at h
    · simp only [Bool.and_eq_true, Bool.not_eq_true'] at h
      have A := sndE a sc X _ g h.2
      refine ⟨pe_imp (pe_not A.1) fun σ H Q q => ?_, fun _ => pt_imp (pt_not (A.2 h.1)) fun σ H Q q => ?_⟩
      · refine rd_bind (k := fun ρ x S1 => (R.of (truD x S1) S1).bind fun kk S2 => .ok (.bl (!kk)) S2) (rd_eq q fun ρ S => by rw [evE]) fun F G al ρ S x v H1 s e rx p => ?_
        obtain ⟨b, hb, p⟩ := post_ofb p
        exact ⟨b, tru_ok rx hb, p.ok s mk_bl⟩
      · refine tt_bind (k := fun ρ b S2 => .ok (!b) S2) (rd_eq q fun ρ S => ?_) fun F G al ρ S b H1 s e p => p.ok s rfl
        rw [evT, evE]
        simp only [bind_bind]
        rfl
    · cases h
  | .ite c a b, sc, X, e, g, h => by
    unfold chkE at h
    split at h
    · simp only [Bool.and_eq_true, Bool.not_eq_true'] at h
      obtain ⟨h1, h2, h3, h4⟩ := h
      have C := (sndE c sc X _ g h2).2 h1
      have A := (sndE a sc X _ g h3).1
      have D := (sndE b sc X _ g h4).1
      refine ⟨pe_imp (pe_ifExp C A D) fun σ H Q q => ?_, fun z => by cases z⟩
      refine tt_bind (k := fun ρ kk S2 => if kk then evE cx a ρ S2 else evE cx b ρ S2) (rd_eq q fun ρ S => by rw [evE]) fun F G al ρ S kk H1 s e p => ?_
      cases kk with
      | true => exact rd_of s e p
      | false => exact rd_of s e p
    · cases h
  | .tup es, sc, X, e, g, h => by
    unfold chkE at h
    split at h
    · have G := sndEs es sc X _ g h
      refine good_plain (pe_imp (pe_tup G.pa) fun σ H Q q => ?_) rfl
      refine rd_bind (k := fun ρ xs S1 => if xs.length ≤ 100000 then .ok (.tup xs) S1 else .fail) (rd_eq q fun ρ S => by rw [evE]) fun F G al ρ S xs vs H1 s e rs p => ?_
      by_cases c : xs.length ≤ 100000
      · rw [if_pos c] at p
        exact ⟨by rw [← rs.len]; exact small_line c, fun l hl => Post.newT s p rs hl⟩
      · rw [if_neg c] at p
        exact p.elim
    · cases h
  | .lst kk es, sc, X, e, g, h => by
    unfold chkE at h
    split at h
    · have G := sndEs es sc X _ g h
      refine good_plain (pe_imp (pe_lst G.pa) fun σ H Q q => ?_) rfl
      refine rd_bind (k := fun ρ xs S1 => if xs.length ≤ 100000 then newL kk xs S1 else .fail) (rd_eq q fun ρ S => by rw [evE]) fun F G al ρ S xs vs H1 s e rs p => ?_
      by_cases c : xs.length ≤ 100000
      · rw [if_pos c] at p
        exact ⟨by rw [← rs.len]; exact small_line c, fun l hl => Post.newL s p rs hl⟩
      · rw [if_neg c] at p
        exact p.elim
    · cases h
  | .comp kk elt t it cs, sc, X, e, g, h => by
    unfold chkE at h
    split at h
    · rename_i el c scope pos
      obtain ⟨tg, iter, ifs, az⟩ := c
      simp only [Bool.and_eq_true, decide_eq_true_eq, List.all_eq_true, Bool.not_eq_true'] at h
      obtain ⟨h0, h1, h2, h3, h4, h5, h6, h7, h7', h8, h9⟩ := h
      subst h0
      have bok := blkOk_by h1
      have IT := sndIt it sc X tg iter g h6
      refine good_plain (pe_imp (pe_lc (own := ownOf N scope) g.calm (by rw [g.hN]; exact g.nd) IT (blk_ok g bok) (fun s H C cl fp => chkTg_ok (blk_xg g bok s H C cl fp) h4)
        (fun s H C cl fp => (sndEs cs scope _ ifs (blk_xg g bok s H C cl fp) h7).pts h7' h8) (fun s H C cl fp => (sndE elt scope _ el (blk_xg g bok s H C cl fp) h9).1) (notSet h5)) fun σ H Q q => ?_) rfl
      exact comp_rd (fun i hi => h2 i hi) (fun i hi => h3 i hi) (rd_eq q fun ρ S => by rw [evE]; rfl)
    · cases h
  | .sub a i, sc, X, e, g, h => by
    unfold chkE at h
    split at h
    · simp only [Bool.and_eq_true, Bool.not_eq_true'] at h
      obtain ⟨h1, h2, h3⟩ := h
      have hix := ix_seq (X := X)
      rw [g.hK] at hix
      refine good_plain (pe_imp (pe_ix hix (sndE a sc X _ g h2).1 (sndE i sc X _ g h3).1 (plainIx_ok h1)) fun σ H Q q => te2 (k := fun x y S2 => R.of (subD x y S2) S2) (fun F G al S H x y v w Q s r q p => ?_) (rd_eq q fun ρ S => by rw [evE])) rfl
      obtain ⟨d, hd, p⟩ := post_of p
      exact sub_ok s r q hd fun u ru => p.ok s ru
    · cases h
  | .slc a lo hi, sc, X, e, g, h => by
    unfold chkE at h
    split at h
    · rename_i x l u _ _
      simp only [Bool.and_eq_true] at h
      obtain ⟨h1, h2, h3⟩ := h
      have hsl := op_sl (X := X)
      rw [g.hK] at hsl
      have A := (sndE a sc X _ g h1).1
      have L := po_good (X := X) (sc := sc) (m := lo) (e := l) (fun e he => (sndE lo sc X e g he).1) (by cases l <;> exact h2)
      have U := po_good (X := X) (sc := sc) (m := hi) (e := u) (fun e he => (sndE hi sc X e g he).1) (by cases u <;> exact h3)
      refine good_plain (pe_imp (pe_slice hsl A L U) fun σ H Q q => ?_) rfl
      refine rd_bind (k := fun ρ x S1 => ((evE cx lo ρ S1).bind (endD (isNonL lo))).bind fun y S2 => ((evE cx hi ρ S2).bind (endD (isNonL hi))).bind fun z S3 => R.of (slcD x y z S3) S3) (rd_eq q fun ρ S => by rw [evE]) fun F G al ρ S x v H1 s e rx p => ?_
      refine ⟨F, G, al, ρ, S, s, e, Post.bind p fun y S2 G2 al2 H2 o1 x2 s2 ry p2 => ?_⟩
      refine ⟨F, G2, al2, ρ, S2, s2, e.up x2, Post.bind p2 fun z S3 G3 al3 H3 o2 x3 s3 rz p3 => ?_⟩
      obtain ⟨d, hd, p3⟩ := post_of p3
      exact slc_ok s3 (RV.up (x2.trans x3) _ _ rx) ry rz hd p3
    · cases h
  | .rev kk a, sc, X, e, g, h => by
    unfold chkE at h
    split at h
    · simp only [Bool.and_eq_true, decide_eq_true_eq] at h
      obtain ⟨h1, h2⟩ := h
      subst h1
      refine good_plain (pe_imp (pe_revL (X := X) (sndE a sc X _ g h2).1) fun σ H Q q => ?_) rfl
      rw [g.hK]
      refine rd_bind (k := fun ρ x S1 => match itemsL S1 x with
        | some xs => newL kk xs.reverse S1
        | none => .fail) (rd_eq q fun ρ S => by
          first
            | (rw [evE]; done)
            | (rw [evE]; exact bind_congr fun x S1 => by cases itemsL S1 x <;> rfl)) fun F G al ρ S x v H1 s e rx p => ?_
      cases hi : itemsL S x with
      | none => rw [hi] at p; exact p.elim
      | some xs =>
        rw [hi] at p
        obtain ⟨b, vs, rfl, e2, e3⟩ := itemsL_ok s rx hi
        exact ⟨b, vs, rfl, e2, fun l hl => Post.newL s p e3.rev hl⟩
    · cases h
  | .att _ _, sc, X, e, g, h => by
    simp only [chkE] at h
    cases h
  | .call f es, sc, X, e, g, h => by
    unfold chkE at h
    split at h
    · rename_i x p xs pos
      simp only [Bool.and_eq_true, decide_eq_true_eq] at h
      obtain ⟨h1, h2, h3, h4⟩ := h
      obtain ⟨a, fd, ps, c1, c2, c3, c4⟩ := hcall f x h1
      have G := sndEs es sc X xs g h4
      refine good_plain (pe_imp (pe_callG g c4 (g.gl h2) c1 c2 c3 G.pa G.pl (nm_ok h3).1 fun hn σ H Q q => ?_) fun σ H Q q => ?_) rfl
      · subst hn
        cases G.len rfl
        obtain ⟨F, G, al, ρ, S, s, e, p⟩ := q
        simp only [evEs] at p
        exact p.ok s RVs.nil
      · refine rd_bind (k := fun ρ xs S1 => cx.call f xs S1) (rd_eq q fun ρ S => by rw [evE]) fun F G al ρ S ds vs H1 s e rs p => ?_
        exact ⟨B, F, G, al, S, ds, s, rs, p⟩
    · cases h
  | .new _ _, sc, X, e, g, h => by
    simp only [chkE] at h
    cases h
  | .met _ _ _, sc, X, e, g, h => by
    simp only [chkE] at h
    cases h
  | .bi b kk es, sc, X, e, g, h => by
    unfold chkE at h
    split at h
    · rename_i x p y ys pos
      simp only [Bool.and_eq_true, decide_eq_true_eq] at h
      obtain ⟨h1, h2, h3, h4⟩ := h
      subst h1
      have G := sndEs es sc X (y :: ys) g h4
      have hcb := call_bi (X := X) g.calm g.grd g.un b
      rw [g.hK] at hcb
      have hv := boot_bi b
      have hfr := g.nofree (of_decide_eq_true h3)
      have fin : ∀ {σ : L2.St} {H : Hp} {Q : VK}, rdE T B (evE cx (.bi b kk es)) σ H Q → rdA T B (evEs cx es) σ H fun vs H1 => biR T.K b vs H1 Q := by
        intro σ H Q q
        refine rd_bind (k := fun ρ xs S1 => biPost kk (biD b xs S1) S1) (rd_eq q fun ρ S => by rw [evE]; rfl) fun F G al ρ S ds vs H1 s e rs p => ?_
        exact bi_ok b s rs p
      cases hb : biT b with
      | true =>
        unfold biV at hcb hv
        rw [hb, if_pos rfl] at hcb hv
        exact good_plain (pe_imp (pe_callTy hcb (g.gl h2) hfr hv G.pa (plain_bi b).1 (plain_bi b).2 (starOne (G.pl y List.mem_cons_self)) (starOk fun z hz => G.pl z (List.mem_cons_of_mem _ hz))) fun σ H Q q => fin q) rfl
      | false =>
        unfold biV at hcb hv
        rw [hb, if_neg Bool.false_ne_true] at hcb hv
        exact good_plain (pe_imp (pe_callB hcb (g.gl h2) hfr hv G.pa (plain_bi b).1 (plain_bi b).2 (starOne (G.pl y List.mem_cons_self)) (starOk fun z hz => G.pl z (List.mem_cons_of_mem _ hz))) fun σ H Q q => fin q) rfl
    · cases h
  | .bm b a es, sc, X, e, g, h => by
    unfold chkE at h
    split at h
    · simp only [Bool.and_eq_true, decide_eq_true_eq] at h
      obtain ⟨h1, h2, h3, h4, h5, h6⟩ := h
      exact good_plain (bm_all g hB b h1 h2 h3 h4 (sndE a sc X _ g h5).1 (sndEs es sc X _ g h6)) rfl
    · cases h
theorem sndEs : ∀ (ms : Exs) (sc : Scope) (X : L2.Cx) (es : List Expr), XG T J N k sc X → chkEs J N ms sc es = true → GoodEs T B cx X ms es
  | .nil, sc, X, es, g, h => by
    cases es with
    | nil => exact goodEs_nil
    | cons _ _ => simp only [chkEs] at h; cases h
  | .cons st m ms, sc, X, es, g, h => by
    cases es with
    | nil => simp only [chkEs] at h; cases h
    | cons e es =>
      simp only [chkEs, Bool.and_eq_true, Bool.not_eq_true'] at h
      obtain ⟨h0, h1, h2, h4⟩ := h
      subst h0
      have G := sndEs ms sc X es g h4
      refine goodEs_cons (sndE m sc X e g h2) h1 G ⟨G.len, fun z => ?_⟩
      subst z
      cases es with
      | nil => rfl
      | cons _ _ => simp only [chkEs] at h4; cases h4
theorem sndIt : ∀ (m : Iter) (sc : Scope) (X : L2.Cx) (tg e : Expr), XG T J N k sc X → chkIt J N m sc tg e = true → PI X tg e (rdI T B (evIt cx m))
  | .seq m, sc, X, tg, e, g, h => by
    simp only [chkIt] at h
    exact it_seq g (sndE m sc X e g h).1
  | .rng1 m, sc, X, tg, e, g, h => by
    unfold chkIt at h
    split at h
    · simp only [Bool.and_eq_true, decide_eq_true_eq] at h
      obtain ⟨h1, h2, h3, h4, h5⟩ := h
      subst h1
      exact it_rng1 g (sndE m sc X _ g h5).1 h4 h2 (of_decide_eq_true h3)
    · cases h
  | .rng2 m n, sc, X, tg, e, g, h => by
    unfold chkIt at h
    split at h
    · simp only [Bool.and_eq_true, decide_eq_true_eq] at h
      obtain ⟨h1, h2, h3, h4, h5, h6, h7⟩ := h
      subst h1
      exact it_rng2 g (sndE m sc X _ g h6).1 (sndE n sc X _ g h7).1 h4 h5 h2 (of_decide_eq_true h3)
    · cases h
  | .enum m, sc, X, tg, e, g, h => by
    unfold chkIt at h
    split at h
    · simp only [Bool.and_eq_true, decide_eq_true_eq] at h
      obtain ⟨h1, h2, h3, h4, h5, h6⟩ := h
      subst h1
      exact it_enum g (sndE m sc X _ g h6).1 h4 h5 h2 (of_decide_eq_true h3)
    · cases h
  | .zip m n, sc, X, tg, e, g, h => by
    unfold chkIt at h
    split at h
    · simp only [Bool.and_eq_true, decide_eq_true_eq] at h
      obtain ⟨h1, h2, h3, h4, h5, h6, h7, h8⟩ := h
      subst h1
      exact it_zip g (sndE m sc X _ g h7).1 (sndE n sc X _ g h8).1 h4 h5 h6 h2 (of_decide_eq_true h3)
    · cases h
end
end
end Ip

set_option Elab.async false
set_option linter.all false
set_option maxRecDepth 100000
set_option maxHeartbeats 8000000
set_option autoImplicit false
/-! IpC14: statements. -/
namespace Ip
open PySem PySem.Spec PyProof.Rows L2

/-- what stands behind a statement -/
def PostS (T : Tx) (B : Bas) (F G : Hp) (al : Nat → Addr) (n : Nat) (r : O) (D : Ends) : Prop :=
  match r with
  | .nx ρ S' => ∀ G' al' H' σ', Ext G al n G' al' S'.length → Sim T B F G' al' S' H' → RE T G' al' S'.length ρ σ' → D.nx σ' H'
  | .bk ρ S' => ∀ G' al' H' σ', Ext G al n G' al' S'.length → Sim T B F G' al' S' H' → RE T G' al' S'.length ρ σ' → D.bk σ' H'
  | .ct ρ S' => ∀ G' al' H' σ', Ext G al n G' al' S'.length → Sim T B F G' al' S' H' → RE T G' al' S'.length ρ σ' → D.ct σ' H'
  | .rt d S' => ∀ G' al' H' v, Ext G al n G' al' S'.length → Sim T B F G' al' S' H' → RV T G' al' S'.length d v → D.rt v H'
  | _ => False
/-- the reading of a statement -/
def rs (T : Tx) (B : Bas) (f : Env → Store → O) : TS := fun D σ H =>
  ∃ (F G : Hp) (al : Nat → Addr) (ρ : Env) (S : Store), Sim T B F G al S H ∧ RE T G al S.length ρ σ ∧ PostS T B F G al S.length (f ρ S) D

section
variable {T : Tx} {B : Bas} {F G G1 : Hp} {al al1 : Nat → Addr} {n n1 : Nat}
theorem PostS.up {r : O} {D : Ends} (h : PostS T B F G al n r D) (e : Ext G al n G1 al1 n1) : PostS T B F G1 al1 n1 r D := by
  cases r with
  | nx ρ S' => exact fun G' al' H' v e' s q => h G' al' H' v (e.trans e') s q
  | bk ρ S' => exact fun G' al' H' v e' s q => h G' al' H' v (e.trans e') s q
  | ct ρ S' => exact fun G' al' H' v e' s q => h G' al' H' v (e.trans e') s q
  | rt d S' => exact fun G' al' H' v e' s q => h G' al' H' v (e.trans e') s q
  | exc _ _ _ _ => exact h
  | fail => exact h
theorem PostS.nx {ρ : Env} {S : Store} {D : Ends} {H : Hp} {σ : L2.St} (h : PostS T B F G al S.length (.nx ρ S) D) (s : Sim T B F G al S H) (e : RE T G al S.length ρ σ) : D.nx σ H := h G al H σ Ext.refl s e
theorem rs_eq {f g : Env → Store → O} {D : Ends} {σ : L2.St} {H : Hp} (h : rs T B f D σ H) (e : ∀ ρ S, f ρ S = g ρ S) : rs T B g D σ H := by
  have : f = g := funext fun ρ => funext fun S => e ρ S
  rw [← this]
  exact h
theorem rs_nofail {D : Ends} {σ : L2.St} {H : Hp} (h : rs T B (fun _ _ => .fail) D σ H) : False := by
  obtain ⟨_, _, _, _, _, _, _, p⟩ := h
  exact p
/-- an expression, then a statement -/
theorem rs_then {α β : Type} {Rr : Hp → (Nat → Addr) → Nat → α → β → Prop} {f : Env → Store → R α} {k : Env → α → Store → O} {σ : L2.St} {H : Hp} {D : Ends} {Q1 : β → Hp → Prop} (h : rs T B (fun ρ S => (f ρ S).then ρ (k ρ)) D σ H)
    (g : ∀ F G al ρ S x v H1, Sim T B F G al S H1 → RE T G al S.length ρ σ → Rr G al S.length x v → PostS T B F G al S.length (k ρ x S) D → Q1 v H1) : rd T B Rr f σ H Q1 := by
  obtain ⟨F, G, al, ρ, S, s, e, p⟩ := h
  refine ⟨F, G, al, ρ, S, s, e, ?_⟩
  dsimp only at p
  cases q : f ρ S with
  | ok x S1 =>
    rw [q] at p
    intro G1 al1 H1 v x1 s1 r1
    exact g F G1 al1 ρ S1 x v H1 s1 (e.up x1) r1 (PostS.up p x1)
  | exc _ _ _ => rw [q] at p; exact p.elim
  | fail => rw [q] at p; exact p.elim
/-- a statement, then others -/
theorem rs_seq {f g : Env → Store → O} {D : Ends} {σ : L2.St} {H : Hp} (h : rs T B (fun ρ S => (f ρ S).then g) D σ H) : rs T B f { D with nx := rs T B g D } σ H := by
  obtain ⟨F, G, al, ρ, S, s, e, p⟩ := h
  refine ⟨F, G, al, ρ, S, s, e, ?_⟩
  dsimp only at p
  cases q : f ρ S with
  | nx ρ' S1 =>
    rw [q] at p
    intro G1 al1 H1 σ1 x1 s1 e1
    exact ⟨F, G1, al1, ρ', S1, s1, e1, PostS.up p x1⟩
  | bk ρ' S1 => rw [q] at p; exact p
  | ct ρ' S1 => rw [q] at p; exact p
  | rt d S1 => rw [q] at p; exact p
  | exc _ _ _ _ => rw [q] at p; exact p
  | fail => rw [q] at p; exact p
theorem rs_of {f : Env → Store → O} {D : Ends} {σ : L2.St} {H : Hp} {ρ : Env} {S : Store} (s : Sim T B F G al S H) (e : RE T G al S.length ρ σ) (p : PostS T B F G al S.length (f ρ S) D) : rs T B f D σ H := ⟨F, G, al, ρ, S, s, e, p⟩

/-! ### while -/
theorem rs_whl {tst : Env → Store → R Bool} {body : Env → Store → O} {N : Nat} {D : Ends} {σ : L2.St} {H : Hp} (h : rs T B (fun ρ S => whlL tst body N ρ S) D σ H) : tWhile (rdT T B tst) (rs T B body) D σ H := by
  refine ⟨fun m σ H => rs T B (fun ρ S => whlL tst body m ρ S) D σ H, ⟨N, h⟩, fun m σ H hm => ?_⟩
  cases m with
  | zero => exact (rs_nofail hm).elim
  | succ m =>
    obtain ⟨F, G, al, ρ, S, s, e, p⟩ := hm
    refine ⟨F, G, al, ρ, S, s, e, ?_⟩
    dsimp only [whlL] at p
    cases q : tst ρ S with
    | exc _ _ _ => rw [q] at p; exact p.elim
    | fail => rw [q] at p; exact p.elim
    | ok b S1 =>
      rw [q] at p
      intro G1 al1 H1 c x1 s1 hc
      have hc : c = b := hc
      subst hc
      have e1 := e.up x1
      cases c with
      | false =>
        rw [if_neg Bool.false_ne_true]
        exact p G1 al1 H1 σ x1 s1 e1
      | true =>
        rw [if_pos rfl]
        refine ⟨fun σ' H' => rs T B (fun ρ S => whlL tst body m ρ S) D σ' H', fun σ' H' hN => ⟨m, Nat.lt_succ_self m, hN⟩, F, G1, al1, ρ, S1, s1, e1, ?_⟩
        dsimp only at p
        cases r : body ρ S1 with
        | nx ρ' S2 =>
          rw [r] at p
          intro G2 al2 H2 σ2 x2 s2 e2
          exact ⟨F, G2, al2, ρ', S2, s2, e2, PostS.up p (x1.trans x2)⟩
        | ct ρ' S2 =>
          rw [r] at p
          intro G2 al2 H2 σ2 x2 s2 e2
          exact ⟨F, G2, al2, ρ', S2, s2, e2, PostS.up p (x1.trans x2)⟩
        | bk ρ' S2 =>
          rw [r] at p
          exact fun G2 al2 H2 σ2 x2 s2 e2 => p G2 al2 H2 σ2 (x1.trans x2) s2 e2
        | rt d S2 =>
          rw [r] at p
          exact fun G2 al2 H2 σ2 x2 s2 e2 => p G2 al2 H2 σ2 (x1.trans x2) s2 e2
        | exc _ _ _ _ => rw [r] at p; exact p
        | fail => rw [r] at p; exact p

/-! ### for -/
theorem rs_for {f : Env → Store → R Wk} {t : Tg} {body : Env → Store → O} {D : Ends} {σ : L2.St} {H : Hp}
    (h : rs T B (fun ρ S => (f ρ S).then ρ fun w S1 => forL (fun x ρ' S' => match tgD t x ρ' S' with
      | some ρ2 => body ρ2 S'
      | none => .fail) (lockAll w.lk S1) w.xs ρ S1) D σ H) : tFor (rdI T B f) (tgG T.K t) (rs T B body) D σ H := by
  obtain ⟨F, G, al, ρ, S, s, e, p⟩ := h
  refine ⟨F, G, al, ρ, S, s, e, ?_⟩
  dsimp only at p
  cases q : f ρ S with
  | exc _ _ _ => rw [q] at p; exact p.elim
  | fail => rw [q] at p; exact p.elim
  | ok w S1 =>
    rw [q] at p
    intro G1 al1 H1 J x1 s1 hl wk
    have p1 := PostS.up (show PostS T B F G al S.length (forL _ _ w.xs ρ S1) D from p) x1
    have e1 := e.up x1
    clear p q
    generalize hb : (fun x ρ' S' => match tgD t x ρ' S' with
      | some ρ2 => body ρ2 S'
      | none => O.fail) = bf at p1
    refine ⟨fun i m σ' H' => m = w.xs.length - i ∧ i ≤ w.xs.length ∧ ∃ (G2 : Hp) (al2 : Nat → Addr) (ρ2 : Env) (S2 : Store), Ext G1 al1 S1.length G2 al2 S2.length ∧ Sim T B F G2 al2 S2 H' ∧ RE T G2 al2 S2.length ρ2 σ' ∧
      lockAll w.lk S1 S2 = true ∧ PostS T B F G2 al2 S2.length (forL bf (lockAll w.lk S1) (w.xs.drop i) ρ2 S2) D,
      ⟨w.xs.length, rfl, Nat.zero_le _, G1, al1, ρ, S1, Ext.refl, s1, e1, hl, p1⟩, ?_⟩
    rintro i m σ' H' ⟨rfl, hi, G2, al2, ρ2, S2, x2, s2, e2, l2, p2⟩
    obtain ⟨wstop, wgo⟩ := wk i _ G2 al2 S2 H' x2 s2 l2
    by_cases hlt : i < w.xs.length
    · have hd : w.xs[i]? = some w.xs[i] := by simp [hlt]
      have hdrop : w.xs.drop i = w.xs[i] :: w.xs.drop (i + 1) := List.drop_eq_getElem_cons hlt
      generalize hx : w.xs[i] = d at hd hdrop
      rw [hdrop] at p2
      obtain ⟨jgo, jyld⟩ := wgo d hd
      refine .inr ⟨jgo, fun σ3 H3 => w.xs.length - (i + 1) < w.xs.length - i ∧ ∃ (G2 : Hp) (al2 : Nat → Addr) (ρ2 : Env) (S2 : Store), Ext G1 al1 S1.length G2 al2 S2.length ∧ Sim T B F G2 al2 S2 H3 ∧ RE T G2 al2 S2.length ρ2 σ3 ∧
        lockAll w.lk S1 S2 = true ∧ PostS T B F G2 al2 S2.length (forL bf (lockAll w.lk S1) (w.xs.drop (i + 1)) ρ2 S2) D, fun σ3 H3 hN => ⟨_, hN.1, rfl, hlt, hN.2⟩, fun x H3 hy => ?_⟩
      obtain ⟨G3, x3, s3, r3⟩ := jyld x H3 hy
      have p3 := PostS.up p2 x3
      have x13 := x2.trans x3
      unfold forL at p3
      have hbd : bf d ρ2 S2 = match tgD t d ρ2 S2 with
        | some ρ3 => body ρ3 S2
        | none => O.fail := by rw [← hb]
      cases ht : tgD t d ρ2 S2 with
      | none =>
        rw [hbd, ht] at p3
        exact p3.elim
      | some ρ3 =>
        rw [hbd, ht] at p3
        dsimp only at p3
        refine tg_ok s3 (RE.ex (e2.up x3)) r3 ht fun σ4 er el eo => ⟨F, G3, al2, ρ3, S2, s3, er, ?_⟩
        cases hr : body ρ3 S2 with
        | nx ρ4 S4 =>
          rw [hr] at p3
          dsimp only at p3
          by_cases c : lockAll w.lk S1 S4 = true
          · rw [if_pos c] at p3
            exact fun G4 al4 H4 σ5 x4 s4 e4 => ⟨by omega, G4, al4, ρ4, S4, x13.trans x4, s4, e4, c, PostS.up p3 x4⟩
          · rw [if_neg c] at p3
            exact p3.elim
        | ct ρ4 S4 =>
          rw [hr] at p3
          dsimp only at p3
          by_cases c : lockAll w.lk S1 S4 = true
          · rw [if_pos c] at p3
            exact fun G4 al4 H4 σ5 x4 s4 e4 => ⟨by omega, G4, al4, ρ4, S4, x13.trans x4, s4, e4, c, PostS.up p3 x4⟩
          · rw [if_neg c] at p3
            exact p3.elim
        | bk ρ4 S4 => rw [hr] at p3; exact p3
        | rt d4 S4 => rw [hr] at p3; exact p3
        | exc _ _ _ _ => rw [hr] at p3; exact p3
        | fail => rw [hr] at p3; exact p3
    · have ei : i = w.xs.length := by omega
      subst ei
      refine .inl ⟨wstop (Nat.le_refl _), ?_⟩
      rw [List.drop_length] at p2
      exact p2.nx s2 e2
end
end Ip

set_option Elab.async false
set_option linter.all false
set_option maxRecDepth 100000
set_option maxHeartbeats 8000000
set_option autoImplicit false
/-! IpC15: the checker of statements, and that what it lets pass is read rightly. -/
namespace Ip
open PySem PySem.Spec PyProof.Rows L2

def isCompE : Expr → Bool
  | .ListComp _ _ _ _ => true
  | .SetComp _ _ _ _ => true
  | .DictComp _ _ _ _ _ => true
  | _ => false
theorem sw_no {e : Expr} (h : isCompE e = false) (t : Option Expr) (l : Nat) (env : PySem.Env) : swapsWith e t l env = pure false := by
  cases e <;> first | rfl | (cases h; done)
def oddName (sc : Scope) : Expr → Bool
  | .Name x _ => decide (sc.names.lookup x = some .cell)
  | _ => true
/-- no stores are exchanged: this is no row of local names with a row behind it -/
def noSw (sc : Scope) (tg v : Expr) : Bool := match tg, v with
  | .Tuple ts _ _, .Tuple vs _ _ => (!(ts.length == 2 || ts.length == 3) || vs.length != ts.length) || (ts.any (oddName sc) || vs.all (foldedForSure 8))
  | .List _ _, .Tuple _ _ _ => false
  | _, _ => true
theorem filterMap_less {α β : Type} {f : α → Option β} : ∀ {l : List α}, (∃ x ∈ l, f x = none) → (l.filterMap f).length < l.length
  | [], h => by
    obtain ⟨x, hx, _⟩ := h
    cases hx
  | y :: l, h => by
    have le := List.length_filterMap_le f l
    rw [List.filterMap_cons]
    cases q : f y with
    | none =>
      show (l.filterMap f).length < l.length + 1
      omega
    | some z =>
      obtain ⟨x, hx, e⟩ := h
      rcases List.mem_cons.mp hx with w | w
      · rw [w, q] at e
        cases e
      · have := filterMap_less ⟨x, w, e⟩
        show (l.filterMap f).length + 1 < l.length + 1
        omega
theorem noSw_ok {sc : Scope} {tg v : Expr} {env : PySem.Env} (cel : ∀ x, sc.names.lookup x = some .cell → env.scope.names.lookup x = some .cell) (h : noSw sc tg v = true) : swappedStores [tg] v env = pure none := by
  cases tg <;> cases v <;> first | rfl | (cases h; done) | skip
  rename_i ts _ _ vs _ _
  unfold swappedStores
  simp only [noSw, Bool.or_eq_true] at h
  split
  · rename_i heq
    cases heq
    dsimp only
    split
    · rfl
    · rename_i h1
      split
      · rfl
      · split
        · rfl
        · rename_i h2
          split
          · rfl
          · rename_i h3
            exfalso
            rcases h with (h | h) | (h | h)
            · exact h1 (by rw [h]; simp)
            · exact h1 (by simp [h])
            · refine h2 ?_
              obtain ⟨x, hx, hx2⟩ := List.any_eq_true.mp h
              rw [Bool.or_eq_true]
              left
              rw [bne_iff_ne]
              refine Nat.ne_of_lt (filterMap_less ⟨x, hx, ?_⟩)
              · cases x <;> first | rfl | skip
                rename_i y py
                simp only [oddName, decide_eq_true_eq] at hx2
                have k := cel y hx2
                have ky : env.kindOf y = some .cell := k
                show (if (env.kindOf y == some NameKind.local && _) = true then some y else none) = none
                rw [ky]
                rfl
            · exact h3 h
  · rename_i hno
    exact (hno _ _ rfl).elim
theorem sole {tg : Expr} {env : PySem.Env} (h : ∀ a b, tg ≠ .Starred a b) : (assignEach [tg] env).map (·.2) = [assign tg env] := by
  cases tg with
  | Starred a b => exact (h a b rfl).elim
  | _ => rfl
theorem block_fn {env : PySem.Env} (hk : env.scope.kind = .function) : env.blockKind = .function := by
  unfold PySem.Env.blockKind
  rw [hk]
  rfl
def notStar : Expr → Bool
  | .Starred _ _ => false
  | _ => true
theorem sw_two {x y : PySem.Str} {px py pt pt2 : Pos} {kt k2 : Nat} {a b : Expr} {env : PySem.Env} (hk : env.scope.kind = .function) (hx : env.scope.names.lookup x = some .local) (hy : env.scope.names.lookup y = some .local) (hxy : x ≠ y) (hl : (py.line == px.line) = true)
    (ha : plainE a = true) (hb : plainE b = true) (hf : (foldedForSure 8 a && foldedForSure 8 b) = false) (hc : (constantsAlone 8 a && constantsAlone 8 b) = false) :
    swappedStores [.Tuple [.Name x px, .Name y py] kt pt] (.Tuple [a, b] k2 pt2) env = pure (some [x, y]) := by
  have kx : env.kindOf x = some .local := hx
  have ky : env.kindOf y = some .local := hy
  have hxy' : (y == x) = false := by simpa using Ne.symm hxy
  unfold swappedStores
  simp only [List.length_cons, List.length_nil, block_fn hk, List.head?_cons, Option.map_some, Option.getD_some, List.filterMap_cons, List.filterMap_nil, kx, ky, hl, List.all_cons, List.all_nil, Bool.and_true, hf, hc, Expr.pos]
  simp [List.eraseDups_cons, hxy', Ne.symm hxy]
  intro h
  exfalso
  rcases h with h | h
  · cases a <;> first | (cases ha; done) | exact absurd (show false = true from h) Bool.false_ne_true
  · cases b <;> first | (cases hb; done) | exact absurd (show false = true from h) Bool.false_ne_true
theorem sw_three {x y z : PySem.Str} {px py pz pt pt2 : Pos} {kt k2 : Nat} {a b c : Expr} {env : PySem.Env} (hk : env.scope.kind = .function) (hx : env.scope.names.lookup x = some .local) (hy : env.scope.names.lookup y = some .local) (hz : env.scope.names.lookup z = some .local) (hxy : x ≠ y) (hxz : x ≠ z) (hyz : y ≠ z)
    (hl : (py.line == px.line) = true) (hl2 : (pz.line == px.line) = true)
    (ha : plainE a = true) (hb : plainE b = true) (hcc : plainE c = true) (hf : (foldedForSure 8 a && (foldedForSure 8 b && foldedForSure 8 c)) = false) (hc : (constantsAlone 8 a && (constantsAlone 8 b && constantsAlone 8 c)) = false) :
    swappedStores [.Tuple [.Name x px, .Name y py, .Name z pz] kt pt] (.Tuple [a, b, c] k2 pt2) env = pure (some [x, y, z]) := by
  have kx : env.kindOf x = some .local := hx
  have ky : env.kindOf y = some .local := hy
  have kz : env.kindOf z = some .local := hz
  unfold swappedStores
  simp only [List.length_cons, List.length_nil, block_fn hk, List.head?_cons, Option.map_some, Option.getD_some, List.filterMap_cons, List.filterMap_nil, kx, ky, kz, hl, hl2, List.all_cons, List.all_nil, Bool.and_true, hf, hc, Expr.pos]
  simp [List.eraseDups_cons, Ne.symm hxy, Ne.symm hxz, Ne.symm hyz]
  intro h
  exfalso
  rcases h with h | h | h
  · cases a <;> first | (cases ha; done) | exact absurd (show false = true from h) Bool.false_ne_true
  · cases b <;> first | (cases hb; done) | exact absurd (show false = true from h) Bool.false_ne_true
  · cases c <;> first | (cases hcc; done) | exact absurd (show false = true from h) Bool.false_ne_true
/-- a new list is stored before the block's names are let go -/
def isL (sc : Scope) (x : PySem.Str) : Bool := decide (sc.names.lookup x = some .local)
def swC (sc : Scope) (x : PySem.Str) (px : Pos) (scope : Scope) (pos : Pos) : Bool := isL sc x && ((px.line == pos.line) && !(scope.names.any fun (n, k) => n == x && (k == .local || k == .cell)))
def isDocE : Expr → Bool
  | .Constant (.str _) _ _ => true
  | _ => false

mutual
def chkS (J : Nm) (N : List PySem.Str) : Sm → Scope → Stmt → Bool
  | .nev, _, _ => true
  | .pas, _, st => match st with
    | .Pass _ => true
    | .Expr (.Constant (.str _) _ _) _ => true
    | _ => false
  | .asg t m, sc, st => match t, st with
    | .nm i, .Assign [.Name x px] e pos => atN N i x && (isLoc sc x && (chkE J N m sc e && (!isCompE e || match m, e with
      | .comp _ _ _ _ _, .ListComp _ _ scope p2 => swC sc x px scope p2
      | _, _ => false)))
    | .tp is, .Assign [.Tuple es kk p] e pos => chkNs N sc es is && (chkE J N m sc e && (noSw sc (.Tuple es kk p) e && !isCompE e))
    | .sub a i, .Assign [.Subscript o ix p] e pos => chkE J N a sc o && (chkE J N i sc ix && (chkE J N m sc e && (!isCompE e && !isSl ix)))
    | _, _ => false
  | .par is es, sc, st => match is, st with
    | [i, j], .Assign [.Tuple [.Name x px, .Name y py] _ _] (.Tuple [a, b] _ _) _ => atN N i x && (atN N j y && (isL sc x && (isL sc y && (decide (i ≠ j) && (decide (x ≠ y) && ((py.line == px.line) && (chkEs J N es sc [a, b] &&
        (!(foldedForSure 8 a && foldedForSure 8 b) && !(constantsAlone 8 a && constantsAlone 8 b)))))))))
    | [i, j, l], .Assign [.Tuple [.Name x px, .Name y py, .Name z pz] _ _] (.Tuple [a, b, c] _ _) _ => atN N i x && (atN N j y && (atN N l z && (isL sc x && (isL sc y && (isL sc z && (decide (i ≠ j) && (decide (i ≠ l) && (decide (j ≠ l) && (decide (x ≠ y) && (decide (x ≠ z) && (decide (y ≠ z) &&
        ((py.line == px.line) && ((pz.line == px.line) && (chkEs J N es sc [a, b, c] &&
        (!(foldedForSure 8 a && (foldedForSure 8 b && foldedForSure 8 c)) && !(constantsAlone 8 a && (constantsAlone 8 b && constantsAlone 8 c)))))))))))))))))
    | _, _ => false
  | .ex m, sc, st => match st with
    | .Expr e _ => chkE J N m sc e && !isCompE e
    | _ => false
  | .ret m, sc, st => match st with
    | .Return (some e) _ => chkE J N m sc e
    | _ => false
  | .retN, _, st => match st with
    | .Return none _ => true
    | _ => false
  | .iff c a b, sc, st => match st with
    | .If e p q _ => !isIte c && (chkE J N c sc e && (chkSs J N a sc p && chkSs J N b sc q))
    | _ => false
  | .for t it b, sc, st => match st with
    | .For tg e p [] _ => chkTg N sc tg t && (!isSetE e && (chkIt J N it sc tg e && chkSs J N b sc p))
    | _ => false
  | .whl c b, sc, st => match st with
    | .While e p [] _ => !isIte c && (chkE J N c sc e && chkSs J N b sc p)
    | _ => false
  | .brk, _, st => match st with
    | .Break _ => true
    | _ => false
  | .cnt, _, st => match st with
    | .Continue _ => true
    | _ => false
  | .rai _ _, _, _ => false
def chkSs (J : Nm) (N : List PySem.Str) : Sms → Scope → List Stmt → Bool
  | .nil, _, [] => true
  | .cons m ms, sc, st :: sts => chkS J N m sc st && chkSs J N ms sc sts
  | _, _, _ => false
end
end Ip

set_option Elab.async false
set_option linter.all false
set_option maxRecDepth 100000
set_option maxHeartbeats 8000000
set_option autoImplicit false
/-! IpC16: the theorem about statements. -/
namespace Ip
open PySem PySem.Spec PyProof.Rows L2

theorem loc_two {T : Tx} {G : Hp} {al : Nat → Addr} {n : Nat} {xs : List D} {vs : List V} (r : RVs T G al n xs vs) (h : xs.length = 2) : ∃ x y v w, xs = [x, y] ∧ vs = [v, w] ∧ RV T G al n x v ∧ RV T G al n y w := by
  match xs, h with
  | [x, y], _ =>
    simp only [RVs] at r
    obtain ⟨v, r1, rfl, h1, w, r2, rfl, h2, rfl⟩ := r
    exact ⟨x, y, v, w, rfl, rfl, h1, h2⟩
theorem loc_three {T : Tx} {G : Hp} {al : Nat → Addr} {n : Nat} {xs : List D} {vs : List V} (r : RVs T G al n xs vs) (h : xs.length = 3) : ∃ x y z v w u, xs = [x, y, z] ∧ vs = [v, w, u] ∧ RV T G al n x v ∧ RV T G al n y w ∧ RV T G al n z u := by
  match xs, h with
  | [x, y, z], _ =>
    simp only [RVs] at r
    obtain ⟨v, r1, rfl, h1, w, r2, rfl, h2, u, r3, rfl, h3, rfl⟩ := r
    exact ⟨x, y, z, v, w, u, rfl, rfl, h1, h2, h3⟩
theorem sws_no {e : Expr} (h : isCompE e = false) (t : Expr) (l : Nat) (env : PySem.Env) : swapsWithSole [t] e l env = pure false := sw_no h (some t) l env
theorem PostS.then {T : Tx} {B : Bas} {F G : Hp} {al : Nat → Addr} {n : Nat} {α β : Type} {Rr : Hp → (Nat → Addr) → Nat → α → β → Prop} {r : R α} {ρ : Env} {k : α → Store → O} {D : Ends} {Q1 : β → Hp → Prop} (h : PostS T B F G al n (r.then ρ k) D)
    (f : ∀ d S1 G1 al1 H1 v, Ext G al n G1 al1 S1.length → Sim T B F G1 al1 S1 H1 → Rr G1 al1 S1.length d v → PostS T B F G1 al1 S1.length (k d S1) D → Q1 v H1) : Post T B F Rr G al n r Q1 := by
  cases r with
  | ok d S' => exact fun G' al' H' v e s q => f d S' G' al' H' v e s q (PostS.up (show PostS T B F G al n (k d S') D from h) e)
  | exc _ _ _ => exact h
  | fail => exact h
section
variable {T : Tx} {B : Bas} {J : Nm} {N : List PySem.Str} {k : Nat} {cx : Ec}
theorem isL_ok {X : L2.Cx} {sc : Scope} {x : PySem.Str} (g : XG T J N k sc X) (h : isL sc x = true) : X.env.scope.names.lookup x = some .local := g.loc x (of_decide_eq_true h)
theorem RE.set {G : Hp} {al : Nat → Addr} {n : Nat} {ρ : Env} {σ : L2.St} (e : RE T G al n ρ σ) {i : Nat} {d : D} {v : V} (r : RV T G al n d v) : RE T G al n (ρ.set i (some d)) (σ.set i (some v)) := by
  have := (REx.set (L := []) ⟨e.1, fun j f _ q => e.2 j f q⟩ (i := i) r)
  exact ⟨this.1, fun j f q => this.2 j f (by simp) q⟩
/-- an item is stored -/
theorem sub_put {cx : Ec} (hB : ∀ n, B n → n ≤ cx.base) {F G : Hp} {al : Nat → Addr} {S S' : Store} {H : Hp} {x i d : D} {v w u : V} {Q : Hp → Prop} (s : Sim T B F G al S H) (r : RV T G al S.length x v) (ri : RV T G al S.length i w) (rd : RV T G al S.length d u)
    (h : subS cx.base x i d S = some S') (q : ∀ H', Ext G al S.length G al S'.length → Sim T B F G al S' H' → Q H') : rSetL v w u H Q := by
  unfold subS at h
  split at h
  · rename_i i0 n0
    split at h
    · rename_i xs hi
      split at h
      · rename_i j hj
        obtain ⟨us, h1, h2⟩ := s.lstAt hi
        simp only [RV] at r
        obtain ⟨e2, s2⟩ := put_sim hB s hi (c := .lst (xs.set j d)) (o := .lst (us.set j u)) ⟨_, rfl, RVs.set rd j h2⟩ (fun n a1 a2 => by
          simp only [closedC, closedL_iff] at a1 ⊢
          intro z hz
          rcases List.mem_or_eq_of_mem_set hz with z1 | z1
          · exact a1 z z1
          · rw [z1]; exact a2) h
        exact ⟨_, us, n0, j, r.2, rv_int ri, h1, by rw [← h2.len]; exact hj, q _ e2 s2⟩
      · cases h
    · cases h
  · cases h

variable (hcall : CallOk T J k cx.call) (hB : ∀ n, B n → n ≤ cx.base)
include hcall hB
mutual
theorem sndS : ∀ (m : Sm) (sc : Scope) (X : L2.Cx) (st : Stmt), XG T J N k sc X → PassesOwn (model X.prog X.w) X.A X.env X.xe → chkS J N m sc st = true → PS X st (rs T B (evS cx m))
  | .nev, sc, X, st, g, hp, h => ⟨fun pins s σ H D I q => (rs_nofail (rs_eq q fun ρ S => by rw [evS])).elim⟩
  | .pas, sc, X, st, g, hp, h => by
    have fin : ∀ D σ H, rs T B (evS cx .pas) D σ H → tNext D σ H := fun D σ H q => by
      obtain ⟨F, G, al, ρ, S, s, e, p⟩ := q
      simp only [evS] at p
      exact p.nx s e
    unfold chkS at h
    split at h
    · exact ps_imp ps_pass fin
    · exact ps_imp ps_doc fin
    · cases h
  | .asg t m, sc, X, st, g, hp, h => by
    unfold chkS at h
    split at h
    · rename_i i x px e pos
      simp only [Bool.and_eq_true] at h
      obtain ⟨h1, h2, h3, h4⟩ := h
      have E := (sndE hcall hB m sc X e g h3).1
      have fin : ∀ D σ H, rs T B (evS cx (.asg (.nm i) m)) D σ H → tAsg (rdE T B (evE cx m)) (gName i) D σ H := fun D σ H q =>
        rs_then (k := fun ρ x S1 => taD cx (.nm i) x ρ S1) (rs_eq q fun ρ S => by rw [evS]) fun F G al ρ S d v H1 s e r p => p.nx s (e.set r)
      cases hc : isCompE e with
      | false =>
        rcases isLoc_ok h2 with z | z
        · exact ps_imp (ps_set (by rw [g.hN]; exact g.nd) (g.at_ h1) (.inl (g.loc x z)) E (sw_no hc _ _ _) (.inr (g.loc x z))) fin
        · exact ps_imp (ps_set (by rw [g.hN]; exact g.nd) (g.at_ h1) (.inr (g.cel x z).1) E (sw_no hc _ _ _) (.inl (g.cel x z).2)) fin
      | true =>
        rw [hc] at h4
        simp only [Bool.not_true, Bool.false_or] at h4
        split at h4
        · rename_i kk elt t it cs el gs scope p2
          unfold chkE at h3
          split at h3
          · rename_i el' c scope' pos' heq
            cases heq
            obtain ⟨tg, iter, ifs, az⟩ := c
            simp only [Bool.and_eq_true, decide_eq_true_eq, List.all_eq_true, Bool.not_eq_true'] at h3
            obtain ⟨c0, c1, c2, c3, c4, c5, c6, c7, c7', c8, c9⟩ := h3
            subst c0
            simp only [swC, Bool.and_eq_true, Bool.not_eq_true'] at h4
            obtain ⟨d1, d2, d3⟩ := h4
            have bok := blkOk_by c1
            have hl := isL_ok g d1
            have IT := sndIt hcall hB it sc X tg iter g c6
            refine ps_imp (ps_setLc (own := ownOf N scope) g.calm (by rw [g.hN]; exact g.nd) (g.at_ h1) hl (sw_true g.kind hl d2 d3) IT (blk_ok g bok) (fun s H C cl fp => chkTg_ok (blk_xg g bok s H C cl fp) c4)
              (fun s H C cl fp => (sndEs hcall hB cs scope _ ifs (blk_xg g bok s H C cl fp) c7).pts c7' c8) (fun s H C cl fp => (sndE hcall hB elt scope _ el (blk_xg g bok s H C cl fp) c9).1) (notSet c5)) fun D σ H q => ?_
            have q2 := fin D σ H q
            exact comp_rd (fun i hi => c2 i hi) (fun i hi => c3 i hi) (rd_eq q2 fun ρ S => by rw [evE]; rfl)
          · cases h3
        · cases h4
    · rename_i is es kk p e pos
      simp only [Bool.and_eq_true, Bool.not_eq_true'] at h
      obtain ⟨h1, h2, h3, h4⟩ := h
      have E := (sndE hcall hB m sc X e g h2).1
      obtain ⟨p1, p2, p3⟩ := chkNs_ok g h1
      refine ps_imp (ps_asg E (pg_tup g.calm p1 p2 p3) (sws_no h4 _ _ _) (noSw_ok (fun x hx => (g.cel x hx).1) h3) rfl) fun D σ H q => ?_
      refine rs_then (k := fun ρ x S1 => taD cx (.tp is) x ρ S1) (rs_eq q fun ρ S => by rw [evS]) fun F G al ρ S d v H1 s e r p => ?_
      cases ht : tgD (.tp is) d ρ S with
      | none =>
        have : taD cx (.tp is) d ρ S = .fail := by
          unfold tgD at ht
          unfold taD
          cases d <;> first | rfl | skip
          dsimp only at ht ⊢
          split at ht
          · cases ht
          · rename_i hh
            rw [if_neg hh]
        rw [this] at p
        exact p.elim
      | some ρ' =>
        have : taD cx (.tp is) d ρ S = .nx ρ' S := by
          unfold tgD at ht
          unfold taD
          cases d <;> first | (cases ht; done) | skip
          dsimp only at ht ⊢
          split at ht
          · rename_i hh
            rw [if_pos hh]
            cases ht
            rfl
          · cases ht
        rw [this] at p
        have tt := tg_ok (t := .tp is) (Q := fun σ' H' => D.nx σ' H') s (RE.ex e) r ht fun σ' er el eo => p.nx s er
        rw [g.hK]
        exact tt
    · rename_i a i o ix p e pos
      simp only [Bool.and_eq_true, Bool.not_eq_true'] at h
      obtain ⟨h1, h2, h3, h4, h5⟩ := h
      have E := (sndE hcall hB m sc X e g h3).1
      have A := (sndE hcall hB a sc X o g h1).1
      have I := (sndE hcall hB i sc X ix g h2).1
      have ha : ∀ v, assign (.Subscript o ix p) X.env v = (do
        let ov ← holding [v] (eval o X.env)
        let iv ← holding [v, ov] (eval ix X.env)
        standAt p
        holding [v, ov, iv] (setItem ov iv v)
        release [v, ov, iv] []) := by
        intro v
        cases ix <;> first | rfl | (cases h5; done)
      refine ps_imp (ps_asg E (pg_sub A I set_list ha) (sws_no h4 _ _ _) (noSw_ok (sc := sc) (fun x hx => (g.cel x hx).1) rfl) rfl) fun D σ H q => ?_
      refine rs_then (k := fun ρ x S1 => taD cx (.sub a i) x ρ S1) (rs_eq q fun ρ S => by rw [evS]) fun F G al ρ S d v H1 s e r p => ?_
      refine ⟨F, G, al, ρ, S, s, e, PostS.then p fun x S1 G1 al1 H2 w x1 s1 r1 p1 => ⟨F, G1, al1, ρ, S1, s1, e.up x1, PostS.then p1 fun kx S2 G2 al2 H3 u x2 s2 r2 p2 => ?_⟩⟩
      cases hs : subS cx.base x kx d S2 with
      | none =>
        rw [hs] at p2
        exact p2.elim
      | some S3 =>
        rw [hs] at p2
        refine sub_put hB s2 (RV.up x2 _ _ r1) r2 (RV.up (x1.trans x2) _ _ r) hs fun H' x3 s3 => p2 _ _ H' σ x3 s3 (e.up (x1.trans (x2.trans x3)))
    · cases h
  | .par is es, sc, X, st, g, hp, h => by
    unfold chkS at h
    split at h
    · rename_i i j x px y py kt pt a b k2 pt2 pos
      simp only [Bool.and_eq_true, decide_eq_true_eq, Bool.not_eq_true'] at h
      obtain ⟨h1, h2, h3, h4, h5, h6, h7, h8, h9, h10⟩ := h
      have G := sndEs hcall hB es sc X [a, b] g h8
      have hN : X.N.Nodup := by rw [g.hN]; exact g.nd
      refine ps_imp (ps_par g.calm hN (g.at_ h1) (g.at_ h2) h5 (isL_ok g h3) (isL_ok g h4) G.pa (sw_two g.kind (isL_ok g h3) (isL_ok g h4) h6 h7 (by
        have := G.pl a (by simp)
        cases a <;> first | rfl | exact (this _ _ rfl).elim) (by
        have := G.pl b (by simp)
        cases b <;> first | rfl | exact (this _ _ rfl).elim) h9 h10) rfl) fun D σ H q => ?_
      refine rs_then (k := fun ρ xs S1 => if xs.length == 2 then .nx (setAll [i, j] xs ρ) S1 else .fail) (rs_eq q fun ρ S => by rw [evS]; rfl) fun F G al ρ S ds vs H1 s e r p => ?_
      split at p
      · rename_i hl
        obtain ⟨d1, d2, v, w, rfl, rfl, r1, r2⟩ := loc_two r (by simpa using hl)
        exact ⟨v, w, rfl, p.nx s ((e.set r1).set r2)⟩
      · exact p.elim
    · rename_i i j l x px y py z pz kt pt a b c k2 pt2 pos
      simp only [Bool.and_eq_true, decide_eq_true_eq, Bool.not_eq_true'] at h
      obtain ⟨h1, h2, h3, h4, h5, h6, i1, i2, i3, x1, x2, x3, l1, l2, h8, h9, h10⟩ := h
      have G := sndEs hcall hB es sc X [a, b, c] g h8
      have hN : X.N.Nodup := by rw [g.hN]; exact g.nd
      refine ps_imp (ps_par3 g.calm hN (g.at_ h1) (g.at_ h2) (g.at_ h3) i1 i2 i3 (isL_ok g h4) (isL_ok g h5) (isL_ok g h6) G.pa (sw_three g.kind (isL_ok g h4) (isL_ok g h5) (isL_ok g h6) x1 x2 x3 l1 l2 (by
        have := G.pl a (by simp)
        cases a <;> first | rfl | exact (this _ _ rfl).elim) (by
        have := G.pl b (by simp)
        cases b <;> first | rfl | exact (this _ _ rfl).elim) (by
        have := G.pl c (by simp)
        cases c <;> first | rfl | exact (this _ _ rfl).elim) h9 h10) rfl) fun D σ H q => ?_
      refine rs_then (k := fun ρ xs S1 => if xs.length == 3 then .nx (setAll [i, j, l] xs ρ) S1 else .fail) (rs_eq q fun ρ S => by rw [evS]; rfl) fun F G al ρ S ds vs H1 s e r p => ?_
      split at p
      · rename_i hl
        obtain ⟨d1, d2, d3, v, w, u, rfl, rfl, r1, r2, r3⟩ := loc_three r (by simpa using hl)
        exact ⟨v, w, u, rfl, p.nx s (((e.set r1).set r2).set r3)⟩
      · exact p.elim
    · cases h
  | .ex m, sc, X, st, g, hp, h => by
    unfold chkS at h
    split at h
    · rename_i e pos
      simp only [Bool.and_eq_true, Bool.not_eq_true'] at h
      refine ps_imp (ps_expr (sndE hcall hB m sc X e g h.1).1 (sw_no h.2 _ _ _)) fun D σ H q => ?_
      exact rs_then (k := fun ρ x S1 => .nx ρ S1) (rs_eq q fun ρ S => by rw [evS]) fun F G al ρ S d v H1 s e r p => p.nx s e
    · cases h
  | .ret m, sc, X, st, g, hp, h => by
    unfold chkS at h
    split at h
    · rename_i e pos
      refine ps_imp (ps_ret (sndE hcall hB m sc X e g h).1) fun D σ H q => ?_
      exact rs_then (k := fun ρ x S1 => .rt x S1) (rs_eq q fun ρ S => by rw [evS]) fun F G al ρ S d v H1 s e r p => p G al H1 v Ext.refl s r
    · cases h
  | .retN, sc, X, st, g, hp, h => by
    unfold chkS at h
    split at h
    · refine ps_imp ps_retN fun D σ H q => ?_
      obtain ⟨F, G, al, ρ, S, s, e, p⟩ := q
      simp only [evS] at p
      exact p G al H _ Ext.refl s mk_non
    · cases h
  | .iff c a b, sc, X, st, g, hp, h => by
    unfold chkS at h
    split at h
    · rename_i e p q pos
      simp only [Bool.and_eq_true, Bool.not_eq_true'] at h
      obtain ⟨h1, h2, h3, h4⟩ := h
      refine ps_imp (ps_if ((sndE hcall hB c sc X e g h2).2 h1) (sndSs a sc X p g hp h3) (sndSs b sc X q g hp h4)) fun D σ H q => ?_
      refine rs_then (k := fun ρ kk S1 => if kk then evSs cx a ρ S1 else evSs cx b ρ S1) (rs_eq q fun ρ S => by rw [evS]) fun F G al ρ S d v H1 s e r p => ?_
      have r : v = d := r
      subst r
      cases v with
      | true => exact rs_of s e p
      | false => exact rs_of s e p
    · cases h
  | .for t it b, sc, X, st, g, hp, h => by
    unfold chkS at h
    split at h
    · rename_i tg e p pos
      simp only [Bool.and_eq_true, Bool.not_eq_true'] at h
      obtain ⟨h1, h2, h3, h4⟩ := h
      refine ps_imp (ps_for hp g.calm (sndIt hcall hB it sc X tg e g h3) (chkTg_ok g h1) (sndSs b sc X p g hp h4) (notSet h2)) fun D σ H q => ?_
      exact rs_for (rs_eq q fun ρ S => by first | (rw [evS]; done) | (rw [evS]; rfl))
    · cases h
  | .whl c b, sc, X, st, g, hp, h => by
    unfold chkS at h
    split at h
    · rename_i e p pos
      simp only [Bool.and_eq_true, Bool.not_eq_true'] at h
      obtain ⟨h1, h2, h3⟩ := h
      refine ps_imp (ps_while hp ((sndE hcall hB c sc X e g h2).2 h1) (sndSs b sc X p g hp h3)) fun D σ H q => ?_
      exact rs_whl (rs_eq q fun ρ S => by rw [evS])
    · cases h
  | .brk, sc, X, st, g, hp, h => by
    unfold chkS at h
    split at h
    · refine ps_imp ps_break fun D σ H q => ?_
      obtain ⟨F, G, al, ρ, S, s, e, p⟩ := q
      simp only [evS] at p
      exact p G al H σ Ext.refl s e
    · cases h
  | .cnt, sc, X, st, g, hp, h => by
    unfold chkS at h
    split at h
    · refine ps_imp ps_continue fun D σ H q => ?_
      obtain ⟨F, G, al, ρ, S, s, e, p⟩ := q
      simp only [evS] at p
      exact p G al H σ Ext.refl s e
    · cases h
  | .rai _ _, sc, X, st, g, hp, h => by
    simp only [chkS] at h
    cases h
theorem sndSs : ∀ (ms : Sms) (sc : Scope) (X : L2.Cx) (sts : List Stmt), XG T J N k sc X → PassesOwn (model X.prog X.w) X.A X.env X.xe → chkSs J N ms sc sts = true → PSs X sts (rs T B (evSs cx ms))
  | .nil, sc, X, sts, g, hp, h => by
    cases sts with
    | nil =>
      refine pss_imp pss_nil fun D σ H q => ?_
      obtain ⟨F, G, al, ρ, S, s, e, p⟩ := q
      simp only [evSs] at p
      exact p.nx s e
    | cons _ _ => simp only [chkSs] at h; cases h
  | .cons m ms, sc, X, sts, g, hp, h => by
    cases sts with
    | nil => simp only [chkSs] at h; cases h
    | cons st sts =>
      simp only [chkSs, Bool.and_eq_true] at h
      refine pss_imp (pss_cons (sndS m sc X st g hp h.1) (sndSs ms sc X sts g hp h.2)) fun D σ H q => ?_
      exact rs_seq (rs_eq q fun ρ S => by rw [evSs])
end
end
end Ip

set_option Elab.async false
set_option linter.all false
set_option maxRecDepth 100000
set_option maxHeartbeats 8000000
set_option autoImplicit false
/-! IpC17: defs. -/
namespace Ip
open PySem PySem.Spec PyProof.Rows L2

/-! ### binding -/
theorem lookup_zip {α : Type} : ∀ {ps : List PySem.Str} {us : List α} {x : PySem.Str}, ps.length = us.length → x ∈ ps → ((ps.zip us).lookup x).isSome = true
  | [], _, _, _, h => by cases h
  | p :: ps, [], _, h, _ => by simp at h
  | p :: ps, u :: us, x, h, hx => by
    rw [List.zip_cons_cons, List.lookup_cons]
    cases e : x == p with
    | true => rfl
    | false =>
      rcases List.mem_cons.mp hx with z | z
      · rw [z] at e
        simp at e
      · exact lookup_zip (by simpa using h) z
theorem filterMap_zip {α : Type} : ∀ {ps : List PySem.Str} {us : List α}, ps.Nodup → ps.length = us.length → (ps.filterMap fun n => ((ps.zip us).lookup n).map fun v => (n, v)) = ps.zip us
  | [], us, _, h => by cases us <;> rfl
  | p :: ps, [], _, h => by simp at h
  | p :: ps, u :: us, nd, h => by
    have hn := List.nodup_cons.mp nd
    rw [List.zip_cons_cons, List.filterMap_cons, List.lookup_cons]
    simp only [beq_self_eq_true, Option.map_some]
    have key : ∀ l : List PySem.Str, (∀ x ∈ l, x ∈ ps) → (l.filterMap fun n => (((p, u) :: ps.zip us).lookup n).map fun v => (n, v)) = l.filterMap fun n => ((ps.zip us).lookup n).map fun v => (n, v) := by
      intro l hl
      induction l with
      | nil => rfl
      | cons x l ih =>
        have hx := hl x List.mem_cons_self
        have e : (x == p) = false := by
          cases e : x == p with
          | false => rfl
          | true =>
            have : x = p := by simpa using e
            rw [this] at hx
            exact absurd hx hn.1
        rw [List.filterMap_cons, List.filterMap_cons, ih fun y hy => hl y (List.mem_cons_of_mem _ hy), List.lookup_cons, e]
    rw [key ps fun x hx => hx, filterMap_zip hn.2 (by simpa using h)]
/-- parameters without more -/
def plainP (p : Arguments) (ps : List PySem.Str) : Bool := p.posonlyargs.isEmpty && (decide (p.args.map (·.arg) = ps) && (p.kwonlyargs.isEmpty && (p.vararg.isNone && (p.kwarg.isNone && decide ps.Nodup))))
theorem bind_plain {fd : FuncData} {ps : List PySem.Str} (h : plainP fd.params ps = true) (hd : fd.defaults = .none) (us : List Value) (hl : us.length = ps.length) : bindArgs fd ⟨us, []⟩ = pure (ps.zip us) := by
  simp only [plainP, Bool.and_eq_true, List.isEmpty_iff, Option.isNone_iff_eq_none, decide_eq_true_eq] at h
  obtain ⟨h1, h2, h3, h4, h5, nd⟩ := h
  have e1 : (ps.filter fun n => ((ps.zip us).lookup n).isNone) = [] := by
    rw [List.filter_eq_nil_iff]
    intro x hx
    have := lookup_zip (us := us) hl.symm hx
    simp only [Option.isNone_iff_eq_none]
    intro z
    rw [z] at this
    cases this
  have e2 := filterMap_zip nd hl.symm
  unfold bindArgs
  simp only [h1, h2, h3, h4, h5, hd, List.map_nil, List.nil_append, List.append_nil]
  have e3 : seqItems? Value.none = pure none := rfl
  simp only [e3, pure_bind, Option.getD_none, List.forIn_nil, List.isEmpty_nil]
  have e4 : (us.length > ps.length) = False := by rw [hl]; simp
  simp only [List.drop_nil, List.length_nil, Nat.sub_zero, List.take_length, e1, List.drop_length, List.zip_nil_right, List.forIn_nil, List.isEmpty_nil, e2, Bool.not_true, Bool.false_eq_true, if_false, pure_bind, e4, decide_false, Bool.false_and]

/-! ### a frame's base -/
section
variable {T : Tx} {B : Bas} {F G : Hp} {al : Nat → Addr} {S : Store} {H : Hp}
theorem RC.closed {n : Nat} {c : Cell} {o : HO} (h : RC T G al n c o) : closedC n c = true := by
  cases c with
  | lst xs =>
    obtain ⟨vs, _, h2⟩ := h
    exact RVs.closed xs vs h2
  | ins k fs =>
    obtain ⟨dx, fv, _, h2⟩ := h
    exact RFs.closed fs fv h2
  | dic kvs =>
    obtain ⟨kv, h1, h2⟩ := h
    clear h1
    show (kvs.all fun p => Ip.closed n p.1 && Ip.closed n p.2) = true
    induction h2 with
    | nil => rfl
    | @cons p q _ _ a r ih =>
      obtain ⟨p1, p2⟩ := p
      obtain ⟨q1, q2⟩ := q
      rw [List.all_cons, ih, Bool.and_true, Bool.and_eq_true]
      refine ⟨?_, RV.closed _ _ a.2⟩
      cases p1 with
      | int i => rfl
      | str t => rfl
      | _ => exact a.1.elim
/-- one base more: as many cells as there are -/
theorem Sim.more (s : Sim T B F G al S H) : Sim T (fun m => B m ∨ m = S.length) F G al S H := by
  refine ⟨s.le, s.inj, s.nG, s.cell, fun n hn => ?_, s.fo, s.fc⟩
  rcases hn with hn | hn
  · exact s.bas n hn
  · subst hn
    refine ⟨Nat.le_refl _, fun i c _ hc => ?_⟩
    obtain ⟨o, _, h2⟩ := s.cell i c hc
    exact RC.closed h2
theorem Sim.less {B' : Bas} (s : Sim T B' F G al S H) (h : ∀ m, B m → B' m) : Sim T B F G al S H := ⟨s.le, s.inj, s.nG, s.cell, fun n hn => s.bas n (h n hn), s.fo, s.fc⟩
/-- what a frame leaves behind -/
theorem post_fin (s : Sim T B F G al S H) {o : O} {Q : VK} (h : Post T B F (RV T) G al S.length (finO S.length o) Q) : PostS T (fun m => B m ∨ m = S.length) F G al S.length o { nx := fun _ H' => Q .non H', rt := Q } := by
  have hmax : ∀ m, (B m ∨ m = S.length) → m ≤ S.length := fun m hm => hm.elim (fun z => (s.bas m z).1) fun z => Nat.le_of_eq z
  have key : ∀ {d : D} {S' : Store} {G' : Hp} {al' : Nat → Addr} {H' : Hp} {v : V}, Post T B F (RV T) G al S.length (fin S.length d S') Q → Ext G al S.length G' al' S'.length → Sim T (fun m => B m ∨ m = S.length) F G' al' S' H' → RV T G' al' S'.length d v → Q v H' := fun {d S' G' al' H' v} p e t r => by
    unfold fin at p
    split at p
    · rename_i hc
      obtain ⟨t1, hl⟩ := t.take (.inr rfl) hmax
      have e2 : Ext G al S.length G' al' (S'.take S.length).length := by rw [hl]; exact e.down
      exact p G' al' H' v e2 (t1.less fun m hm => .inl hm) (by rw [hl]; exact RV.low _ _ r hc)
    · exact p G' al' H' v e (t.less fun m hm => .inl hm) r
  cases o with
  | nx ρ S' => exact fun G' al' H' σ' e t _ => key h e t mk_non
  | rt d S' => exact fun G' al' H' v e t r => key h e t r
  | bk _ _ => exact h.elim
  | ct _ _ => exact h.elim
  | exc c fs ρ S' =>
    simp only [finO] at h
    split at h <;> exact h.elim
  | fail => exact h.elim
end
theorem start_re {T : Tx} {G : Hp} {al : Nat → Addr} {n : Nat} {ds : List D} {vs : List V} {N : List PySem.Str} (r : RVs T G al n ds vs) : RE T G al n (startE N.length ds) (L2.start N vs) := by
  have hl := r.len
  refine ⟨by simp [startE, L2.start, hl], fun i d h => ?_⟩
  unfold startE at h
  unfold L2.start
  by_cases hi : i < ds.length
  · rw [List.getElem?_append_left (by simpa using hi), List.getElem?_map] at h
    cases q : ds[i]? with
    | none => rw [q] at h; cases h
    | some e =>
      rw [q] at h
      cases h
      obtain ⟨v, h1, h2⟩ := r.get q
      refine ⟨v, ?_, h2⟩
      rw [List.getElem?_append_left (by simpa [← hl] using hi), List.getElem?_map, h1]
      rfl
  · rw [List.getElem?_append_right (by simpa using Nat.le_of_not_lt hi), List.getElem?_replicate] at h
    split at h <;> cases h

/-! ### a row of the table -/
structure Row where
  id : Nat
  d : He.DefD
  N : List PySem.Str
  F : Fn
def isFnK : ScopeKind → Bool
  | .function => true
  | _ => false
def isFreeK : NameKind → Bool
  | .free => true
  | _ => false
def scopeOk (N ps : List PySem.Str) (sc : Scope) : Bool := isFnK sc.kind && (!sc.isCoroutine && (!sc.isGenerator && (decide N.Nodup && (decide (N.take ps.length = ps) && (ps.all (isLoc sc) && sc.names.all fun y => !isFreeK y.2)))))
theorem scopeOk_ok {N ps : List PySem.Str} {sc : Scope} (h : scopeOk N ps sc = true) : FnScope N ps sc := by
  simp only [scopeOk, Bool.and_eq_true, Bool.not_eq_true', decide_eq_true_eq, List.all_eq_true] at h
  obtain ⟨h1, h2, h3, h4, h5, h6, h7⟩ := h
  refine ⟨?_, h2, h3, h4, h5, fun x hx => isLoc_ok (h6 x hx), fun y hy e => ?_⟩
  · cases q : sc.kind <;> rw [q] at h1 <;> first | rfl | (cases h1; done)
  · have := h7 y hy
    rw [e] at this
    cases this
def Row.ps (r : Row) : List PySem.Str := r.N.take r.F.np
def rowOk (J : Nm) (r : Row) : Bool := plainP r.d.params r.ps && (decide (r.F.np ≤ r.N.length) && (scopeOk r.N r.ps r.d.scope && (decide (r.F.ns = r.N.length) && (r.d.dfl.isEmpty && chkSs J r.N r.F.body r.d.scope r.d.body))))
theorem Row.ps_len {J : Nm} {r : Row} (h : rowOk J r = true) : r.ps.length = r.F.np := by
  simp only [rowOk, Bool.and_eq_true, decide_eq_true_eq] at h
  unfold Row.ps
  rw [List.length_take]
  omega

/-- the context of a def's body -/
theorem xg_fn {T : Tx} {J : Nm} {N : List PySem.Str} {k : Nat} {qual : PySem.Str} {sc : Scope} {f : Addr} {cd : Value} {A : Around} {outer : List PySem.Env} {s : Shared} {H : Hp} {E : XK} (hk : sc.kind = .function) (nd : N.Nodup)
    (hr : Room k (A.deeper (envOfC qual sc s.heap.objs.size f cd))) (hg : A.guards = some []) (hf : ∀ x, x ∈ J.free → T.mg x = none) :
    XG T J N k sc (L2.cxOf CX0 T.P T.w T.K T.mg T.base N qual sc f cd A outer s H E) :=
  ⟨rfl, rfl, rfl, rfl, rfl, rfl, nd, rfl, fun _ h => h, fun _ h => h, fun _ h => ⟨h, rfl⟩, fun _ h => .inr h, fun _ h => h, hk, hr, hg, hf⟩

/-- a def keeps the promise of its evaluation -/
theorem fok_row {T : Tx} {J : Nm} {P : Prog} {n k : Nat} {r : Row} {a : Addr} {fd : FuncData} {dvs : List V} {kws : List (PySem.Str × V)} (hcall : CallOk T J k (run P n)) (hf : ∀ x, x ∈ J.free → T.mg x = none) (ok : rowOk J r = true) (hget : nget r.id P.fns = some r.F)
    (FD : FunD T.K r.d.name r.d.qual r.d.params r.d.body r.d.scope dvs kws a fd) : FOk T.P T.w T.K T.mg T.base (k + 1) a fd r.ps (spC T (run P (n + 1) r.id)) := by
  have hpl := Row.ps_len ok
  simp only [rowOk, Bool.and_eq_true, decide_eq_true_eq] at ok
  obtain ⟨k1, k2, k3, k4, k5, k6⟩ := ok
  have S := scopeOk_ok k3
  obtain ⟨oc, od, dV, kV, doc, pm, an, cdv, ct, osl, rfl, lk, hcd, _, _⟩ := FD.ex
  have hrun : ∀ (ds : List D) (St : Store), run P (n + 1) r.id ds St = if ds.length == r.F.np then finO St.length (evSs (cxOf P (run P n) St.length) r.F.body (startE r.F.ns ds) St) else .fail := fun ds St => by
    rw [run, hget]
  have len : ∀ vs H Q E, spC T (run P (n + 1) r.id) vs H Q E → vs.length = r.ps.length := fun vs H Q E h => by
    obtain ⟨B, F, G, al, St, ds, s, rd, p⟩ := h
    rw [hrun] at p
    split at p
    · rename_i hl
      rw [← rd.len, hpl]
      simpa using hl
    · exact p.elim
  refine ⟨len, fun A outer s H args us vs Q hr hg e0 hb rv hsp => ?_⟩
  have hl := len _ _ _ _ hsp
  have inK : T.K.In s.heap := e0.mod.kin.keeps fun b o e => (e0.bs b o e).1
  have nl : s.heap.NoLimit := e0.mod.nolimit.keeps fun b o e => (e0.bs b o e).1
  have kinds : ∀ y ∈ r.ps.zip us, r.d.scope.names.lookup y.1 = some .local ∨ (r.d.scope.names.lookup y.1 = some .cell ∧ ((cellsFrom (s.heap.objs.size + 1) r.d.scope.names []).lookup y.1).isSome = true) := by
    rintro ⟨m, v⟩ hy
    rcases S.par m (List.of_mem_zip hy).1 with q | q
    · exact .inl q
    · exact .inr ⟨q, PySem.W.cellsFrom_some _ _ _ (.inl q)⟩
  refine codeAny_call_function hr.depth (inK _ _ lk) rfl S.co S.gen rfl (PySem.W.codeRec_of inK hcd) (hb _ _ _ _ ?_)
  refine wpAny_newFunctionEnv_cells S.kind kinds fun env he s1 x => ?_
  subst he
  refine ⟨nl.keeps x.toInCall.keep, codeAny_func ?_⟩
  have I : Inv (L2.cxOf CX0 T.P T.w T.K T.mg T.base r.N r.d.qual r.d.scope a cdv A outer s H E0) [] (L2.start r.N vs) H s1 := inv_start S hr.hd e0 hl rv x
  obtain ⟨B, F, G, al, St, ds, sm, rd, p⟩ := hsp
  rw [hrun, k4] at p
  split at p
  · rename_i hdl
    have g := xg_fn (J := J) (N := r.N) (outer := outer) (s := s) (H := H) (E := E0) (f := a) (cd := cdv) (qual := r.d.qual) S.kind S.nd (hr.deeper (envOfC r.d.qual r.d.scope s.heap.objs.size a cdv)) hg hf
    have body := sndSs (T := T) (B := fun m => B m ∨ m = St.length) (cx := cxOf P (run P n) St.length) hcall (fun m hm => hm.elim (fun z => (sm.bas m z).1) fun z => Nat.le_of_eq z) r.F.body r.d.scope _ r.d.body g PassesOwn.leaving k6
    refine wpAny_mono (body.run [] s1 (L2.start r.N vs) H { nx := fun _ H' => Q .non H', rt := Q } I ⟨F, G, al, startE r.N.length ds, St, sm.more, start_re rd, post_fin sm p⟩) (fun fl s' hs => ?_) fun e s' hs => hs
    have done : ∀ {σ' : L2.St} {H' : Hp} {v : V} {u : Value}, Inv (L2.cxOf CX0 T.P T.w T.K T.mg T.base r.N r.d.qual r.d.scope a cdv A outer s H E0) [] σ' H' s' → RelV v u → Q v H' → CE outer T.P T.w H s Q u s' := fun {σ' H' v u} I2 h1 h2 =>
      ⟨v, H', I2.os, I2.bare, I2.base, I2.hok, h1, h2⟩
    match fl, hs with
    | .ret u, ⟨v, σ', H', I2, h1, h2⟩ => exact done I2 h1 h2
    | .next, ⟨σ', H', I2, h2⟩ => exact done (v := V.non) (u := Value.none) I2 rfl h2
    | .brk, ⟨_, _, _, h2⟩ => exact h2.elim
    | .cont, ⟨_, _, _, h2⟩ => exact h2.elim
  · exact p.elim
end Ip

set_option Elab.async false
set_option linter.all false
set_option maxRecDepth 100000
set_option maxHeartbeats 4000000
set_option autoImplicit false
/-! IpC18: the table, the end. -/
namespace Ip
open PySem PySem.Spec PyProof.Rows L2

def fnsOf (tab : List Row) : List (Nat × Fn) := tab.map fun r => (r.id, r.F)
def nmOf (tab : List Row) (free : List PySem.Str) : Nm := ⟨tab.map fun r => (r.id, r.d.at_.1), free⟩
theorem nget_row {f : Nat} {x : PySem.Str} : ∀ {tab : List Row}, nget f (tab.map fun r => (r.id, r.d.at_.1)) = some x → ∃ r, r ∈ tab ∧ r.id = f ∧ r.d.at_.1 = x ∧ nget f (fnsOf tab) = some r.F
  | [], h => by cases h
  | r :: tab, h => by
    simp only [List.map_cons, nget] at h
    split at h
    · rename_i e
      cases h
      refine ⟨r, List.mem_cons_self, by simpa using e, rfl, ?_⟩
      simp only [fnsOf, List.map_cons, nget, e, if_true]
    · rename_i e
      obtain ⟨q, h1, h2, h3, h4⟩ := nget_row h
      refine ⟨q, List.mem_cons_of_mem _ h1, h2, h3, ?_⟩
      simp only [fnsOf, List.map_cons, nget]
      rw [if_neg e]
      exact h4
theorem call_all {T : Tx} {tab : List Row} {free : List PySem.Str} {P : Prog} (hP : P.fns = fnsOf tab) (ok : ∀ r ∈ tab, rowOk (nmOf tab free) r = true) (top : ∀ r ∈ tab, r.d.at_.2 = none ∧ T.mg r.d.at_.1 = some (.ref (He.ga T.K r.d.at_.1)))
    (fd : ∀ r ∈ tab, ∃ fd, FunD T.K r.d.name r.d.qual r.d.params r.d.body r.d.scope (r.d.dvs T.K) (r.d.kws T.K) (He.fAd T.K r.d.at_) fd) (hf : ∀ x, x ∈ free → T.mg x = none) : ∀ n, CallOk T (nmOf tab free) n (run P n) := by
  have one : ∀ (n : Nat) (f : Nat) (x : PySem.Str), nget f (nmOf tab free).fn = some x → (∀ r ∈ tab, nget r.id P.fns = some r.F → ∀ a fd dvs kws, FunD T.K r.d.name r.d.qual r.d.params r.d.body r.d.scope dvs kws a fd → FOk T.P T.w T.K T.mg T.base n a fd r.ps (spC T (run P n r.id))) →
      ∃ (a : Addr) (fd : FuncData) (ps : List PySem.Str), T.mg x = some (.ref a) ∧ PySem.W.keepIn T.K (.ref a) = true ∧ Binds T.K fd ps [] ∧ FOk T.P T.w T.K T.mg T.base n a fd ps (spC T (run P n f)) := by
    intro n f x hx go
    obtain ⟨r, h1, rfl, rfl, h4⟩ := nget_row hx
    obtain ⟨t1, t2⟩ := top r h1
    obtain ⟨g, FD⟩ := fd r h1
    have e : He.fAd T.K r.d.at_ = He.ga T.K r.d.at_.1 := by
      unfold He.fAd
      rw [t1]
    rw [e] at FD
    have o := ok r h1
    simp only [rowOk, Bool.and_eq_true] at o
    have hd : r.d.dvs T.K = [] := by
      have := List.isEmpty_iff.mp o.2.2.2.2.1
      show r.d.dfl.map _ = []
      rw [this] <;> rfl
    rw [hd] at FD
    refine ⟨_, g, r.ps, t2, FD.kp, FD.bindsN fun kV doc pm an cdv ct us hl => bind_plain o.1 rfl us hl, go r h1 (by rw [hP]; exact h4) _ _ _ _ FD⟩
  intro n
  induction n with
  | zero =>
    intro f x hx
    refine one 0 f x hx fun r hr hg a g dvs kws FD => ⟨fun vs H Q E h => ?_, fun A outer s H args us vs Q _ _ _ _ _ h => ?_⟩
    · obtain ⟨B, F, G, al, S, ds, _, _, p⟩ := h
      exact p.elim
    · obtain ⟨B, F, G, al, S, ds, _, _, p⟩ := h
      exact p.elim
  | succ n ih =>
    intro f x hx
    exact one (n + 1) f x hx fun r hr hg a g dvs kws FD => fok_row ih hf (ok r hr) hg FD

/-! ### the end -/
/-- the law's def is called at the script -/
theorem end_ip {P : Program} {w : World} {K : PySem.W.Frag} {mg mb : PySem.Str → Option Value} {k : Nat} {fa a : Addr} {fd : FuncData} {x : PySem.Str} {sp : Heap → Sp} {t : Shared} {vs : List Value} {ns : List Int}
    (KX : K.In t.heap) (gn : t.heap.Ns mainGlobals mg) (bn : t.heap.Ns builtinsNs mb) (bb : ∀ y : PySem.Str, y ≠ "__name__" → mb y = bootBuiltins y) (nl : t.heap.NoLimit) (gens : t.gens = #[])
    (ha : t.heap.get? a = some { cls := .type "list", data := .seq vs.toArray }) (hi : IntsAre vs ns) (hl : ns.length ≤ sizeLine) (room : Room k callerA)
    (fok : ∀ base : Heap, K.In base → base.Ns mainGlobals mg → FOk P w K mg base k fa fd [x] (sp base)) (bnd : ∀ (s : Shared) (u : Value), BindsTo s fd ⟨[u], []⟩ [(x, u)])
    (promise : ∀ (base : Heap) (H : Hp), Only H → SqL K H a (ns.map V.int) → sp base [.ref a] H (fun v _ => v = .bl true) L2.E0) :
    codeAny (model P w) callerA (.call (.ref fa) ⟨[.ref a], []⟩) (fun r s' => r = .ok (.ret (.bool true)) ∧ OldK t.heap s'.heap ∧ s'.os = t.os ∧ AllBare s'.gens) t := by
  have vals := vals_ints hi
  have vl := hi.length
  have all : ∀ H : Hp, Only H → SqL K H a (ns.map V.int) → HOk P w H t.heap → (∀ b, H b ≠ none → b = a ∧ K.lookup a = none) →
      codeAny (model P w) callerA (.call (.ref fa) ⟨[.ref a], []⟩) (fun r s' => r = .ok (.ret (.bool true)) ∧ OldK t.heap s'.heap ∧ s'.os = t.os ∧ AllBare s'.gens) t := by
    intro H only sq hok one
    have get : ∀ {b : Addr} {o : Obj}, t.heap.get? b = some o → (H b ≠ none → False) → (hidT t.heap H).get? b = some o := fun {b o} e n => hidT_get e (Classical.byContradiction fun z => n z)
    have nsx : ∀ {b : Addr} {m : PySem.Str → Option Value}, t.heap.Ns b m → (hidT t.heap H).Ns b m := fun {b m} z => by
      obtain ⟨o, es, ep, e, d, r⟩ := z
      refine ⟨o, es, ep, get e fun nz => ?_, d, r⟩
      obtain ⟨rfl, _⟩ := one b nz
      rw [ha] at e
      cases e
      exact absurd (show Data.seq vs.toArray _ = Data.dict es ep from d) (fun q => by cases q)
    have Kb : K.In (hidT t.heap H) := fun b o e => get (KX b o e) fun nz => by
      obtain ⟨rfl, q⟩ := one b nz
      rw [q] at e
      cases e
    have md : Mod K mg (hidT t.heap H) := by
      refine ⟨Kb, nsx gn, ⟨mb, nsx bn, bb⟩, ?_⟩
      obtain ⟨mc, q1, q2⟩ := nl
      exact ⟨mc, nsx q1, q2⟩
    have env : Env0 P w K mg (hidT t.heap H) callerA [] t H :=
      { frames := rfl, mod := md, bs := fun b o e => of_hidT e, bsz := Nat.le_of_eq (hidT_size _ _), funs := trivial, frf := fun b hb => (nomatch hb), hok := hok, bare := .of_eq gens }
    have res := (fok _ Kb (nsx gn)).go callerA [] t H ⟨[.ref a], []⟩ [.ref a] [.ref a] _ room rfl env (bnd t (.ref a)) (.cons rfl .nil) (promise _ H only sq)
    refine codeAny_mono res fun r s' h => ?_
    match r, h with
    | .ok (.ret u), ⟨v, H', os, bare, un, hok', rv, q⟩ =>
      have q : v = .bl true := q
      subst q
      have eu : u = Value.bool true := rv
      subst eu
      refine ⟨rfl, OldK.of_keep fun b o e => ?_, os, bare⟩
      rcases only b with z | ⟨ob, xs, z⟩
      · exact un.keep b o e z (fun m => nomatch m) (fun m => nomatch m)
      · obtain ⟨e1, _⟩ := hok b _ z
        obtain ⟨e2, _⟩ := hok' b _ (un.frzs b ob _ z)
        rw [e] at e1
        cases e1
        exact e2
  cases q : K.lookup a with
  | some o =>
    have e := KX a o q
    rw [ha] at e
    cases e
    exact all (fun _ => none) (fun _ => .inl rfl) (.inr ⟨_, vs.toArray, _, q, rfl, rfl, rfl, by rw [List.size_toArray, vl]; exact hl, by simpa using vals⟩) (fun b u z => nomatch z) fun b z => absurd rfl z
  | none =>
    refine all (fun b => if b = a then some (.frz { cls := .type "list", data := .seq vs.toArray } (.lst (ns.map V.int))) else none) (fun b => ?_) (.inl (.inr ⟨{ cls := .type "list", data := .seq vs.toArray }, if_pos rfl⟩)) (fun b u z => ?_) (fun b z => ⟨?_, q⟩)
    · by_cases c : b = a
      · exact .inr ⟨_, _, if_pos c⟩
      · exact .inl (if_neg c)
    · dsimp only at z
      by_cases c : b = a
      · rw [if_pos c] at z
        cases z
        subst c
        exact ⟨ha, by rw [List.length_map]; exact hl, vs, _, vals, ha⟩
      · rw [if_neg c] at z
        cases z
    · exact Classical.byContradiction fun c => z (if_neg c)
theorem walk_ip {l : PySem.W.OpenLaw} {n k : Nat} {q : Program} {loose : List PySem.Str} {XP : (PySem.Str → Option Value) → Heap → Prop} {YP : World → Heap → Prop} {d : DefRec} {x : PySem.Str}
    (most : l.most = some n) (line : n ≤ sizeLine) (nodef : d.params.defaults = []) (room : Room k callerA)
    (F : ∀ (w : World) (mg : PySem.Str → Option Value) (fa : Addr) (h : Heap), YP w h → h.Ns mainGlobals mg → mg d.name = some (.ref fa) →
      ∃ (K : PySem.W.Frag) (fd : FuncData) (sp : Heap → Sp), K.In h ∧ (∀ (s : Shared) (u : Value), BindsTo s fd ⟨[u], []⟩ [(x, u)]) ∧
        (∀ (base : Heap) (H : Hp) (a : Addr) (ns : List Int), ns.length ≤ n → Only H → SqL K H a (ns.map V.int) → sp base [.ref a] H (fun v _ => v = .bl true) L2.E0) ∧
        ∀ base : Heap, K.In base → base.Ns mainGlobals mg → FOk l.prog w K mg base k fa fd [x] (sp base)) :
    PySem.W.WalkO q loose XP YP l.row.toRowW d [] (fun f vs => PySem.call f vs) := by
  refine Att.attach_call most nodef fun w s0 t mg mb fa o pm cd doc a vs ns G Y o1 o2 o3 gm ha hi hl gens => ?_
  obtain ⟨K, fd, sp, KX, bnd, promise, fok⟩ := F w mg fa _ Y G.T.g gm
  exact end_ip KX G.T.g G.T.b G.T.builtins G.T.nolimit gens ha hi (Nat.le_trans hl line) room fok bnd fun base H only sq => promise base H a ns hl only sq
end Ip

set_option linter.all false
set_option maxRecDepth 100000
set_option autoImplicit false
/-! IpP: plain lemmas about the evaluator. -/
namespace Ip

@[simp] theorem bind_ok {α β : Type} (a : α) (S : Store) (f : α → Store → R β) : (R.ok a S).bind f = f a S := rfl
@[simp] theorem then_ok {α : Type} (a : α) (S : Store) (ρ : Env) (f : α → Store → O) : (R.ok a S).then ρ f = f a S := rfl
@[simp] theorem othen_nx (ρ : Env) (S : Store) (f : Env → Store → O) : (O.nx ρ S).then f = f ρ S := rfl
@[simp] theorem othen_rt (d : D) (S : Store) (f : Env → Store → O) : (O.rt d S).then f = .rt d S := rfl
@[simp] theorem othen_bk (ρ : Env) (S : Store) (f : Env → Store → O) : (O.bk ρ S).then f = .bk ρ S := rfl
@[simp] theorem othen_ct (ρ : Env) (S : Store) (f : Env → Store → O) : (O.ct ρ S).then f = .ct ρ S := rfl
@[simp] theorem of_some {α : Type} (a : α) (S : Store) : R.of (some a) S = .ok a S := rfl
@[simp] theorem cxOf_call {P : Prog} {c : Nat → List D → Store → R D} {b : Nat} : (cxOf P c b).call = c := rfl
@[simp] theorem cxOf_base {P : Prog} {c : Nat → List D → Store → R D} {b : Nat} : (cxOf P c b).base = b := rfl

/-- the script as a value -/
def scD (ns : List Int) : D := .sc (ns.map .int)
mutual
theorem sameD_rfl : ∀ d : D, sameD d d = true
  | .non => rfl
  | .bl _ => by simp [sameD]
  | .int _ => by simp [sameD]
  | .str _ => by simp [sameD]
  | .tup xs => by simp only [sameD, sameL_rfl xs]
  | .fl xs => by simp only [sameD, sameL_rfl xs]
  | .sc xs => by simp only [sameD, sameL_rfl xs]
  | .ins c fs => by simp only [sameD, sameF_rfl fs, beq_self_eq_true, Bool.and_self]
  | .ref _ => by simp [sameD]
  | .cls _ => by simp [sameD]
  | .rp d => by simp only [sameD, sameD_rfl d]
theorem sameL_rfl : ∀ xs : List D, sameL xs xs = true
  | [] => rfl
  | x :: xs => by simp only [sameL, sameD_rfl x, sameL_rfl xs, Bool.and_self]
theorem sameF_rfl : ∀ xs : List (Nat × D), sameF xs xs = true
  | [] => rfl
  | (k, x) :: xs => by simp only [sameF, sameD_rfl x, sameF_rfl xs, beq_self_eq_true, Bool.and_self]
end
@[simp] theorem lockAll_nil {S S' : Store} : lockAll [] S S' = true := rfl
theorem lock_same {d : D} {S : Store} (h : ∀ i, d = .ref i → ∃ xs, S[i]? = some (.lst xs)) : lock d S S = true := by
  cases d with
  | ref i =>
    obtain ⟨xs, e⟩ := h i rfl
    simp only [lock, e, sameL_rfl]
  | _ => rfl
theorem lock_ref {i : Nat} {xs : List D} {S S' : Store} (h : S[i]? = some (.lst xs)) (h' : S'[i]? = some (.lst xs)) : lock (.ref i) S S' = true := by
  simp only [lock, h, h', sameL_rfl]
theorem lockAll_ref {i : Nat} {xs : List D} {S S' : Store} (h : S[i]? = some (.lst xs)) (h' : S'[i]? = some (.lst xs)) : lockAll [.ref i] S S' = true := by
  simp [lockAll, lock_ref h h']
/-- a comprehension without a condition, of calls that change nothing -/
theorem compL_map {α : Type} {f : D → Store → R (Option D)} {lk : Store → Bool} {a b : α → D} {S : Store} (hl : lk S = true) : ∀ {ps : List α}, (∀ x ∈ ps, f (a x) S = .ok (some (b x)) S) → compL f lk (ps.map a) S = .ok (ps.map b) S
  | [], _ => rfl
  | x :: xs, h => by
    have h1 := h x List.mem_cons_self
    have h2 := compL_map hl (a := a) (b := b) (ps := xs) fun y hy => h y (List.mem_cons_of_mem _ hy)
    simp only [List.map_cons, compL, h1, hl, if_true, h2]
/-- .. with a condition -/
theorem compL_filter {α : Type} {f : D → Store → R (Option D)} {lk : Store → Bool} {a b : α → D} {c : α → Bool} {S : Store} (hl : lk S = true) : ∀ {ps : List α}, (∀ x ∈ ps, f (a x) S = .ok (if c x then some (b x) else none) S) → compL f lk (ps.map a) S = .ok ((ps.filter c).map b) S
  | [], _ => rfl
  | x :: xs, h => by
    have h1 := h x List.mem_cons_self
    have h2 := compL_filter hl (a := a) (b := b) (c := c) (ps := xs) fun y hy => h y (List.mem_cons_of_mem _ hy)
    cases hc : c x with
    | true => simp [List.map_cons, compL, h1, hl, h2, hc, List.filter_cons]
    | false => simp [List.map_cons, compL, h1, hl, h2, hc, List.filter_cons]
/-- a loop with an invariant by the turn -/
theorem forL_inv {body : D → Env → Store → O} {lk : Store → Bool} (I : Nat → Env → Store → Prop) : ∀ {xs : List D} {k : Nat} {ρ : Env} {S : Store}, I k ρ S → (∀ i x ρ S, xs[i]? = some x → I (k + i) ρ S → ∃ ρ' S', (body x ρ S = .nx ρ' S' ∨ body x ρ S = .ct ρ' S') ∧ lk S' = true ∧ I (k + i + 1) ρ' S') →
    ∃ ρ' S', forL body lk xs ρ S = .nx ρ' S' ∧ I (k + xs.length) ρ' S'
  | [], k, ρ, S, h, _ => ⟨ρ, S, rfl, h⟩
  | x :: xs, k, ρ, S, h, st => by
    obtain ⟨ρ1, S1, e, l, h1⟩ := st 0 x ρ S rfl h
    obtain ⟨ρ2, S2, e2, h2⟩ := forL_inv I (xs := xs) (k := k + 1) h1 fun i y ρ S hy hi => by
      have := st (i + 1) y ρ S (by simpa using hy) (by rw [show k + (i + 1) = k + 1 + i by omega]; exact hi)
      rw [show k + (i + 1) + 1 = k + 1 + i + 1 by omega] at this
      exact this
    refine ⟨ρ2, S2, ?_, by rw [List.length_cons, show k + (xs.length + 1) = k + 1 + xs.length by omega]; exact h2⟩
    rcases e with e | e
    · simp only [forL, e, l, if_true, e2]
    · simp only [forL, e, l, if_true, e2]
/-- what is wanted behind a statement, by the ways it may end -/
def W (o : O) (N C B : Env → Store → Prop) (Rt : D → Store → Prop) : Prop := match o with
  | .nx ρ S => N ρ S
  | .ct ρ S => C ρ S
  | .bk ρ S => B ρ S
  | .rt d S => Rt d S
  | _ => False
section
variable {N C B : Env → Store → Prop} {Rt : D → Store → Prop}
@[simp] theorem w_nx {ρ : Env} {S : Store} : W (.nx ρ S) N C B Rt = N ρ S := rfl
@[simp] theorem w_ct {ρ : Env} {S : Store} : W (.ct ρ S) N C B Rt = C ρ S := rfl
@[simp] theorem w_bk {ρ : Env} {S : Store} : W (.bk ρ S) N C B Rt = B ρ S := rfl
@[simp] theorem w_rt {d : D} {S : Store} : W (.rt d S) N C B Rt = Rt d S := rfl
theorem W.mono {o : O} {N' C' B' : Env → Store → Prop} {Rt' : D → Store → Prop} (h : W o N C B Rt) (h1 : ∀ ρ S, N ρ S → N' ρ S) (h2 : ∀ ρ S, C ρ S → C' ρ S) (h3 : ∀ ρ S, B ρ S → B' ρ S) (h4 : ∀ d S, Rt d S → Rt' d S) : W o N' C' B' Rt' := by
  cases o with
  | nx ρ S => exact h1 _ _ h
  | ct ρ S => exact h2 _ _ h
  | bk ρ S => exact h3 _ _ h
  | rt d S => exact h4 _ _ h
  | exc _ _ _ _ => exact h
  | fail => exact h
theorem w_then {o : O} {f : Env → Store → O} (h : W o (fun ρ S => W (f ρ S) N C B Rt) C B Rt) : W (o.then f) N C B Rt := by
  cases o <;> exact h
theorem w_cons {cx : Ec} {s : Sm} {r : Sms} {ρ : Env} {S : Store} (h : W (evS cx s ρ S) (fun ρ S => W (evSs cx r ρ S) N C B Rt) C B Rt) : W (evSs cx (.cons s r) ρ S) N C B Rt := by
  rw [evSs]
  exact w_then h
theorem w_nil {cx : Ec} {ρ : Env} {S : Store} (h : N ρ S) : W (evSs cx .nil ρ S) N C B Rt := by
  rw [evSs]
  exact h
theorem w_for {body : D → Env → Store → O} {lk : Store → Bool} (I : Nat → Env → Store → Prop) : ∀ {xs : List D} {k : Nat} {ρ : Env} {S : Store}, I k ρ S →
    (∀ i x ρ S, xs[i]? = some x → I (k + i) ρ S → W (body x ρ S) (fun ρ' S' => lk S' = true ∧ I (k + i + 1) ρ' S') (fun ρ' S' => lk S' = true ∧ I (k + i + 1) ρ' S') N Rt) → (∀ ρ S, I (k + xs.length) ρ S → N ρ S) → W (forL body lk xs ρ S) N C B Rt
  | [], k, ρ, S, h, _, q => q ρ S h
  | x :: xs, k, ρ, S, h, st, q => by
    have h1 := st 0 x ρ S rfl h
    have go : ∀ {ρ S}, I (k + 1) ρ S → W (forL body lk xs ρ S) N C B Rt := fun {ρ S} hi => w_for I (xs := xs) (k := k + 1) hi (fun i y ρ S hy hi => by
      have := st (i + 1) y ρ S (by simpa using hy) (by rw [show k + (i + 1) = k + 1 + i by omega]; exact hi)
      rw [show k + (i + 1) + 1 = k + 1 + i + 1 by omega] at this
      exact this) fun ρ S hi => q ρ S (by rw [List.length_cons, show k + (xs.length + 1) = k + 1 + xs.length by omega]; exact hi)
    unfold forL
    cases e : body x ρ S with
    | nx ρ1 S1 =>
      rw [e] at h1
      show W (if lk S1 = true then _ else _) N C B Rt
      rw [if_pos h1.1]
      exact go h1.2
    | ct ρ1 S1 =>
      rw [e] at h1
      show W (if lk S1 = true then _ else _) N C B Rt
      rw [if_pos h1.1]
      exact go h1.2
    | bk ρ1 S1 =>
      rw [e] at h1
      exact h1
    | rt d S1 =>
      rw [e] at h1
      exact h1
    | exc _ _ _ _ =>
      rw [e] at h1
      exact h1
    | fail =>
      rw [e] at h1
      exact h1
/-- a loop with an invariant by the turn -/
theorem w_loop {body : D → Env → Store → O} {lk : Store → Bool} (I : Nat → Env → Store → Prop) {xs : List D} {ρ : Env} {S : Store} (h0 : I 0 ρ S)
    (st : ∀ i x ρ S, xs[i]? = some x → I i ρ S → W (body x ρ S) (fun ρ' S' => lk S' = true ∧ I (i + 1) ρ' S') (fun ρ' S' => lk S' = true ∧ I (i + 1) ρ' S') N Rt) (q : ∀ ρ S, I xs.length ρ S → N ρ S) : W (forL body lk xs ρ S) N C B Rt :=
  w_for I (k := 0) h0 (fun i x ρ S hx hi => by
    rw [Nat.zero_add] at hi ⊢
    exact st i x ρ S hx hi) fun ρ S hi => q ρ S (by rw [Nat.zero_add] at hi; exact hi)
theorem finO_of {n : Nat} {o : O} {r : R D} (h : W o (fun _ S => fin n .non S = r) (fun _ _ => False) (fun _ _ => False) (fun d S => fin n d S = r)) : finO n o = r := by
  cases o with
  | nx ρ S => exact h
  | ct ρ S => exact h.elim
  | bk ρ S => exact h.elim
  | rt d S => exact h
  | exc _ _ _ _ => exact h.elim
  | fail => exact h.elim
/-- a call, by its body -/
theorem run_of {P : Prog} {n f : Nat} {F : Fn} {vs : List D} {S : Store} {r : R D} (h : nget f P.fns = some F) (hl : vs.length = F.np)
    (w : W (evSs (cxOf P (run P n) S.length) F.body (startE F.ns vs) S) (fun _ S' => fin S.length .non S' = r) (fun _ _ => False) (fun _ _ => False) (fun d S' => fin S.length d S' = r)) : run P (n + 1) f vs S = r := by
  rw [run, h]
  simp only [hl, beq_self_eq_true, if_true]
  exact finO_of w
theorem finO_p {n : Nat} {o : O} {p : R D → Prop} (h : W o (fun _ S => p (fin n .non S)) (fun _ _ => False) (fun _ _ => False) (fun d S => p (fin n d S))) : p (finO n o) := by
  cases o with
  | nx ρ S => exact h
  | ct ρ S => exact h.elim
  | bk ρ S => exact h.elim
  | rt d S => exact h
  | exc _ _ _ _ => exact h.elim
  | fail => exact h.elim
/-- a call, by its body, what comes back by a property -/
theorem run_p {P : Prog} {n f : Nat} {F : Fn} {vs : List D} {S : Store} {p : R D → Prop} (h : nget f P.fns = some F) (hl : vs.length = F.np)
    (w : W (evSs (cxOf P (run P n) S.length) F.body (startE F.ns vs) S) (fun _ S' => p (fin S.length .non S')) (fun _ _ => False) (fun _ _ => False) (fun d S' => p (fin S.length d S'))) : p (run P (n + 1) f vs S) := by
  rw [run, h]
  simp only [hl, beq_self_eq_true, if_true]
  exact finO_p w
end
theorem rngL_eq (lo : Int) (n : Nat) : rngL lo n = (List.range n).map fun k => D.int (lo + (k : Nat)) := rfl
end Ip

set_option Elab.async false
set_option linter.all false
set_option maxRecDepth 100000
set_option maxHeartbeats 4000000
set_option autoImplicit false
/-! IpC19: a law, from the evaluation of its def. -/
namespace Ip
open PySem PySem.Spec PyProof.Rows L2

def faOf (tab : List Row) (free : List PySem.Str) : List He.Fa := (tab.map fun r => He.Fa.glo r.d.at_.1) ++ free.map He.Fa.free
def defsOf (tab : List Row) : List He.DefD := tab.map fun r => r.d
def progOf (tab : List Row) : Prog := ⟨fnsOf tab, [], [], []⟩
def topRow (r : Row) : Bool := r.d.at_.2.isNone
theorem rvs_ints {T : Tx} {G : Hp} {al : Nat → Addr} {n : Nat} : ∀ {ns : List Int}, RVs T G al n (ns.map .int) (ns.map V.int)
  | [] => RVs.nil
  | i :: ns => RVs.cons mk_int rvs_ints
theorem law_ip {l : PySem.W.OpenLaw} {n m : Nat} {q : Program} {loose : List PySem.Str} {XP : (PySem.Str → Option Value) → Heap → Prop} {d : DefRec} {x : PySem.Str} {tab : List Row} {free : List PySem.Str} {r : Row}
    (most : l.most = some n) (line : n ≤ sizeLine) (nodef : d.params.defaults = []) (room : Room (m + 1) callerA) (ok : (tab.all fun r => rowOk (nmOf tab free) r && topRow r) = true) (hr : r ∈ tab) (hget : nget r.id (fnsOf tab) = some r.F) (hps : r.ps = [x]) (hname : d.name = r.d.at_.1)
    (ev : ∀ ns : List Int, ns.length ≤ n → run (progOf tab) (m + 1) r.id [scD ns] [] = .ok (.bl true) []) :
    PySem.W.WalkO q loose XP (fun w h => ∃ K : PySem.W.Frag, K.In h ∧ He.SaysD (faOf tab free) (defsOf tab) K) l.row.toRowW d [] (fun f vs => PySem.call f vs) := by
  have oks : ∀ r ∈ tab, rowOk (nmOf tab free) r = true ∧ r.d.at_.2 = none := fun r h => by
    have := List.all_eq_true.mp ok r h
    simp only [Bool.and_eq_true, topRow, Option.isNone_iff_eq_none] at this
    exact this
  refine walk_ip (k := m + 1) (x := x) most line nodef room fun w mg fa h Y gn gm => ?_
  obtain ⟨K, KX, c⟩ := Y
  have top : ∀ r ∈ tab, r.d.at_.2 = none ∧ mg r.d.at_.1 = some (.ref (He.ga K r.d.at_.1)) := fun r h => ⟨(oks r h).2, He.glo_ok KX gn (c.facts (f := .glo r.d.at_.1) (List.mem_append_left _ (List.mem_map.mpr ⟨r, h, rfl⟩)))⟩
  have fds : ∀ r ∈ tab, ∃ fd, FunD K r.d.name r.d.qual r.d.params r.d.body r.d.scope (r.d.dvs K) (r.d.kws K) (He.fAd K r.d.at_) fd := fun r h => c.defs (List.mem_map.mpr ⟨r, h, rfl⟩)
  have frees : ∀ y, y ∈ free → mg y = none := fun y hy => He.free_ok KX gn (c.facts (f := .free y) (List.mem_append_right _ (List.mem_map.mpr ⟨y, hy, rfl⟩)))
  obtain ⟨fd, FD⟩ := fds r hr
  have efa : fa = He.fAd K r.d.at_ := by
    have e1 := (top r hr).2
    rw [← hname, gm] at e1
    have e2 : fa = He.ga K r.d.at_.1 := by
      rw [← hname]
      exact Value.ref.inj (Option.some.inj e1)
    rw [e2]
    unfold He.fAd
    rw [(top r hr).1]
  rw [← efa] at FD
  have o := (oks r hr).1
  have o2 := o
  simp only [rowOk, Bool.and_eq_true] at o2
  have hd : r.d.dvs K = [] := by
    have := List.isEmpty_iff.mp o2.2.2.2.2.1
    show r.d.dfl.map _ = []
    rw [this] <;> rfl
  refine ⟨K, fd, fun base => spC ⟨l.prog, w, K, mg, base, fun _ => 0, fun _ => Str.empty⟩ (run (progOf tab) (m + 1) r.id), KX, fun s u => ?_, fun base H a ns hl only sq => ?_, fun base Kb gb => ?_⟩
  · rw [hd] at FD
    have := FD.bindsA (ps := r.ps) (fun kV doc pm an cdv ct us hl => bind_plain o2.1 rfl us hl) s [u] (by rw [hps] <;> rfl)
    rw [hps] at this
    exact this
  · refine ⟨fun _ => False, fun _ => none, H, fun _ => 0, [], [scD ns], ⟨fun a o z => z, fun i j hi => absurd hi (Nat.not_lt_zero i), fun i hi => absurd hi (Nat.not_lt_zero i), fun i c hc => absurd hc (by simp), fun n hn => False.elim hn, fun a o z => absurd (show (none : Option HO) = some o from z) (by simp), fun i hi => absurd hi (Nat.not_lt_zero i)⟩, ?_, ?_⟩
    · refine RVs.cons ?_ RVs.nil
      simp only [scD, RV]
      exact ⟨a, _, rfl, sq, rvs_ints⟩
    · rw [ev ns hl]
      exact fun G' al' H' v _ _ rv => rv_bl rv
  · have C := call_all (T := ⟨l.prog, w, K, mg, base, fun _ => 0, fun _ => Str.empty⟩) (P := progOf tab) rfl (fun r h => (oks r h).1) top fds frees m
    have := fok_row (T := ⟨l.prog, w, K, mg, base, fun _ => 0, fun _ => Str.empty⟩) C frees o hget FD
    rw [hps] at this
    exact this
end Ip

set_option linter.all false
set_option maxRecDepth 100000
set_option maxHeartbeats 4000000
set_option autoImplicit false
namespace K42
open Ip
def f1 : Fn := ⟨2, 2, (.cons (.ret (.bi .max2 false (.cons false (.lit (.int 0)) (.cons false (.bi .int false (.cons false (.bin .sub (.var 0) (.var 1)) .nil)) .nil)))) .nil)⟩ -- lacking
def f2 : Fn := ⟨3, 5, (.cons (.ret (.bi .max1 false (.cons false (.comp false (.bi .int false (.cons false (.bin .add (.call 1 (.cons false (.var 3) (.cons false (.var 1) .nil))) (.call 1 (.cons false (.var 4) (.cons false (.bin .sub (.var 0) (.var 1)) .nil)))) .nil)) (.tp [3, 4]) (.seq (.var 2)) .nil) .nil))) .nil)⟩ -- unserved
def f3 : Fn := ⟨2, 6, (.cons (.asg (.nm 2) (.comp false (.call 2 (.cons false (.var 0) (.cons false (.var 4) (.cons false (.var 1) .nil)))) (.nm 4) (.rng1 (.bin .add (.var 0) (.lit (.int 1)))) .nil)) (.cons (.asg (.nm 3) (.bi .min1 false (.cons false (.comp false (.bi .int false (.cons false (.var 5) .nil)) (.nm 5) (.seq (.var 2)) .nil) .nil))) (.cons (.ret (.bi .tuple false (.cons false (.comp false (.var 4) (.tp [4, 5]) (.enum (.var 2)) (.cons false (.cmp .eq (.var 5) (.var 3)) .nil)) .nil))) .nil)))⟩ -- best_splits
def f4 : Fn := ⟨3, 6, (.cons (.asg (.nm 3) (.ite (.cmp .lt (.var 1) (.bi .len false (.cons false (.var 0) .nil))) (.bi .abs false (.cons false (.sub (.var 0) (.var 1)) .nil)) (.lit (.int 0)))) (.cons (.asg (.nm 4) (.bin .add (.bin .add (.bin .mul (.lit (.int 100279)) (.var 2)) (.bin .mul (.lit (.int 7741)) (.var 1))) (.lit (.int 37)))) (.cons (.for (.nm 5) (.seq (.slc (.var 0) (.lit .non) (.lit (.int 40)))) (.cons (.asg (.nm 4) (.bin .mod (.bi .int false (.cons false (.bin .add (.bin .add (.bin .mul (.var 4) (.lit (.int 16807))) (.bin .mod (.bi .abs false (.cons false (.var 5) .nil)) (.lit (.int 2147483629)))) (.var 1)) .nil)) (.lit (.int 2147483647)))) .nil)) (.cons (.ret (.lst true (.cons false (.ite (.cmp .ge (.var 3) (.bin .pow (.lit (.int 10)) (.lit (.int 18)))) (.var 3) (.lit (.int 0))) (.cons false (.bin .add (.var 4) (.lit (.int 1))) .nil)))) .nil))))⟩ -- _law_box
def f5 : Fn := ⟨2, 3, (.cons (.iff (.cmp .gt (.sub (.var 0) (.lit (.int 0))) (.lit (.int 0))) (.cons (.asg (.nm 2) (.bin .mod (.bi .int false (.cons false (.sub (.var 0) (.lit (.int 0))) .nil)) (.var 1))) (.cons (.asg (.sub (.var 0) (.lit (.int 0))) (.bin .fdiv (.sub (.var 0) (.lit (.int 0))) (.var 1))) (.cons (.ret (.var 2)) .nil))) .nil) (.cons (.asg (.sub (.var 0) (.lit (.int 1))) (.bin .mod (.bi .int false (.cons false (.bin .add (.bin .mul (.sub (.var 0) (.lit (.int 1))) (.lit (.int 48271))) (.lit (.int 40031))) .nil)) (.lit (.int 2147483647)))) (.cons (.ret (.bin .mod (.bi .int false (.cons false (.bin .fdiv (.sub (.var 0) (.lit (.int 1))) (.lit (.int 64))) .nil)) (.var 1))) .nil)))⟩ -- _law_take
def f6 : Fn := ⟨3, 6, (.cons (.asg (.nm 3) (.lit (.int 0))) (.cons (.for (.tp [4, 5]) (.seq (.tup (.cons false (.tup (.cons false (.sub (.var 2) (.lit (.int 0))) (.cons false (.var 1) .nil))) (.cons false (.tup (.cons false (.sub (.var 2) (.lit (.int 1))) (.cons false (.bin .sub (.var 0) (.var 1)) .nil))) .nil)))) (.cons (.asg (.nm 3) (.bin .add (.var 3) (.ite (.cmp .gt (.var 4) (.var 5)) (.bin .sub (.var 4) (.var 5)) (.lit (.int 0))))) .nil)) (.cons (.ret (.var 3)) .nil)))⟩ -- _law_lacks
def f7 : Fn := ⟨1, 14, (.cons (.for (.nm 1) (.rng1 (.bi .max2 false (.cons false (.lit (.int 1)) (.cons false (.bi .min2 false (.cons false (.lit (.int 4)) (.cons false (.bi .len false (.cons false (.var 0) .nil)) .nil))) .nil)))) (.cons (.asg (.nm 2) (.call 4 (.cons false (.var 0) (.cons false (.var 1) (.cons false (.lit (.int 42)) .nil))))) (.cons (.for (.nm 3) (.rng1 (.lit (.int 4))) (.cons (.asg (.tp [8, 9]) (.tup (.cons false (.call 5 (.cons false (.var 2) (.cons false (.lit (.int 10)) .nil))) (.cons false (.lst true .nil) .nil)))) (.cons (.for (.nm 4) (.rng1 (.bin .add (.lit (.int 1)) (.call 5 (.cons false (.var 2) (.cons false (.lit (.int 6)) .nil))))) (.cons (.ex (.bm .append (.var 9) (.cons false (.tup (.cons false (.call 5 (.cons false (.var 2) (.cons false (.lit (.int 10)) .nil))) (.cons false (.call 5 (.cons false (.var 2) (.cons false (.lit (.int 10)) .nil))) .nil))) .nil))) .nil)) (.cons (.par [10, 11] (.cons false (.lst true .nil) (.cons false (.bi .list false (.cons false (.var 9) .nil)) .nil))) (.cons (.for (.nm 5) (.rng1 (.bin .add (.var 8) (.lit (.int 1)))) (.cons (.ex (.bm .append (.var 10) (.cons false (.bi .max1 false (.cons false (.comp false (.bi .int false (.cons false (.call 6 (.cons false (.var 8) (.cons false (.var 5) (.cons false (.var 13) .nil)))) .nil)) (.nm 13) (.seq (.var 9)) .nil) .nil)) .nil))) (.cons (.iff (.cmp .ne (.bi .repr false (.cons false (.call 2 (.cons false (.var 8) (.cons false (.var 5) (.cons false (.var 9) .nil)))) .nil)) (.bi .repr false (.cons false (.sub (.var 10) (.neg (.lit (.int 1)))) .nil))) (.cons (.ret (.lit (.bl false))) .nil) .nil) (.cons (.iff (.cmp .ne (.call 2 (.cons false (.var 8) (.cons false (.var 5) (.cons false (.bi .tuple false (.cons false (.var 9) .nil)) .nil)))) (.sub (.var 10) (.neg (.lit (.int 1))))) (.cons (.ret (.lit (.bl false))) .nil) .nil) .nil)))) (.cons (.asg (.nm 6) (.bi .min1 false (.cons false (.comp false (.bi .int false (.cons false (.var 12) .nil)) (.nm 12) (.seq (.var 10)) .nil) .nil))) (.cons (.asg (.nm 7) (.bi .tuple false (.cons false (.comp false (.var 5) (.tp [5, 12]) (.enum (.var 10)) (.cons false (.cmp .eq (.var 12) (.var 6)) .nil)) .nil))) (.cons (.iff (.or (.cons false (.cmp .ne (.bi .repr false (.cons false (.call 3 (.cons false (.var 8) (.cons false (.var 9) .nil))) .nil)) (.bi .repr false (.cons false (.var 7) .nil))) (.cons false (.cmp .ne (.call 3 (.cons false (.var 8) (.cons false (.bi .tuple false (.cons false (.var 9) .nil)) .nil))) (.var 7)) (.cons false (.cmp .ne (.var 9) (.var 11)) .nil)))) (.cons (.ret (.lit (.bl false))) .nil) .nil) .nil)))))))) .nil))) (.cons (.ret (.lit (.bl true))) .nil))⟩ -- law
theorem run_f1 {P : Prog} {n : Nat} (h : nget 1 P.fns = some f1) (w s : Int) (S : Store) : run P (n + 1) 1 [.int w, .int s] S = .ok (.int (if w - s > 0 then w - s else 0)) S := by
  rw [run, h]
  simp [f1, startE, evSs, evS, evE, evEs, binD, biD, finO, fin, closed]
def pr (p : Int × Int) : D := .tup [.int p.1, .int p.2]
def lk1 (s h : Int) (p : Int × Int) : Int := (if p.1 - h > 0 then p.1 - h else 0) + (if p.2 - (s - h) > 0 then p.2 - (s - h) else 0)
theorem intsOf_map {α : Type} (f : α → Int) : ∀ ps : List α, intsOf (ps.map fun p => D.int (f p)) = some (ps.map f)
  | [] => rfl
  | p :: ps => by
    have := intsOf_map f ps
    simp only [intsOf] at this
    simp [intsOf, mapO, asI, this]
/-- what may be walked as these pairs -/
def Pairs (x : D) (S : Store) (ps : List (Int × Int)) : Prop := x = .tup (ps.map pr) ∨ x = .fl (ps.map pr) ∨ ∃ i, x = .ref i ∧ S[i]? = some (.lst (ps.map pr))
theorem seq_pairs {cx : Ec} {e : Ex} {ρ : Env} {S : Store} {x : D} {ps : List (Int × Int)} (he : evE cx e ρ S = .ok x S) (h : Pairs x S ps) : ∃ l, evIt cx (.seq e) ρ S = .ok ⟨ps.map pr, l⟩ S ∧ lockAll l S S = true := by
  rw [evIt, he]
  rcases h with rfl | rfl | ⟨i, rfl, hi⟩
  · exact ⟨_, rfl, rfl⟩
  · exact ⟨_, rfl, rfl⟩
  · simp only [bind_ok, itemsL, hi]
    exact ⟨_, rfl, lockAll_ref hi hi⟩
theorem run_f2 {P : Prog} {n : Nat} (h1 : nget 1 P.fns = some f1) (h : nget 2 P.fns = some f2) (s here : Int) (ps : List (Int × Int)) (x : D) (S : Store) (hi : Pairs x S ps) (hz : ps.length ≤ 100000) {v : Int} (hv : maxL (ps.map (lk1 s here)) = some v) :
    run P (n + 2) 2 [.int s, .int here, x] S = .ok (.int v) S := by
  rw [run, h]
  obtain ⟨l, e, hl⟩ := seq_pairs (cx := cxOf P (run P (n + 1)) S.length) (e := .var 2) (ρ := startE 5 [.int s, .int here, x]) (S := S) (x := x) (by simp [evE, startE]) hi
  simp only [f2, evSs, evS, evE, evEs, e, bind_ok]
  rw [compL_map (b := fun p => .int (lk1 s here p)) hl (fun p hp => by
    simp [startE, tgD, pr, setAll, evCs, evE, evEs, run_f1 h1, binD, biD, lk1])]
  simp [hz, newL, biD, itemsL, intsOf_map, hv, finO, fin, closed]
theorem lookup_take (S : Store) (i : Nat) (c : Cell) : (S.set i c).take S.length = S.set i c := by
  rw [List.take_of_length_le (by simp)]
theorem run_take {P : Prog} {n : Nat} (h : nget 5 P.fns = some f5) (i : Nat) (a b lim : Int) (S : Store) (hi : S[i]? = some (.lst [.int a, .int b])) (h0 : 0 < lim) (h1 : lim < 1073741824) :
    ∃ d a' b' : Int, 0 ≤ d ∧ d < lim ∧ run P (n + 1) 5 [.ref i, .int lim] S = .ok (.int d) (S.set i (.lst [.int a', .int b'])) := by
  have hl : i < S.length := (List.getElem?_eq_some_iff.mp hi).1
  have hs : ∀ c, (S.set i c)[i]? = some c := fun c => List.getElem?_set_self hl
  by_cases ha : 0 < a
  · refine ⟨a % lim, a / lim, b, Int.emod_nonneg _ (by omega), Int.emod_lt_of_pos _ h0, ?_⟩
    rw [run, h]
    simp [f5, startE, evSs, evS, evE, evEs, evT, binD, biD, cmpD, truD, subD, items, hi, ixOf, ha, h0, h1, taD, subS, put, closed, finO, fin, hs, lookup_take]
  · refine ⟨(b * 48271 + 40031) % 2147483647 / 64 % lim, a, (b * 48271 + 40031) % 2147483647, Int.emod_nonneg _ (by omega), Int.emod_lt_of_pos _ h0, ?_⟩
    rw [run, h]
    simp [f5, startE, evSs, evS, evE, evEs, evT, binD, biD, cmpD, truD, subD, items, hi, ixOf, ha, h0, h1, taD, subS, put, closed, finO, fin, hs, lookup_take, small]
theorem run_f6 {P : Prog} {n : Nat} (h : nget 6 P.fns = some f6) (s here : Int) (p : Int × Int) (S : Store) : run P (n + 1) 6 [.int s, .int here, pr p] S = .ok (.int (lk1 s here p)) S := by
  rw [run, h]
  have key : ∀ x y : Int, (if y < x then x - y else 0) = if x - y > 0 then x - y else 0 := fun x y => by
    by_cases c : y < x
    · rw [if_pos c, if_pos (by omega)]
    · rw [if_neg c, if_neg (by omega)]
  by_cases c1 : here < p.1 <;> by_cases c2 : s - here < p.2 <;>
  simp [f6, startE, evSs, evS, evE, evEs, evT, evIt, binD, biD, cmpD, truD, subD, items, ixOf, pr, taD, tgD, setAll, forL, lockAll, lock, finO, fin, closed, lk1, c1, c2] <;> omega

theorem run_f4 {P : Prog} {n : Nat} (h : nget 4 P.fns = some f4) (ns : List Int) (k own : Nat) (S : Store) :
    ∃ a b : Int, run P (n + 1) 4 [scD ns, .int k, .int own] S = .ok (.ref S.length) (S ++ [.lst [.int a, .int b]]) := by
  obtain ⟨c, hc⟩ : ∃ c : Int, ∀ ρ : Env, ρ[0]? = some (some (scD ns)) → ρ[1]? = some (some (.int k)) → evE (cxOf P (run P n) S.length) (.ite (.cmp .lt (.var 1) (.bi .len false (.cons false (.var 0) .nil))) (.bi .abs false (.cons false (.sub (.var 0) (.var 1)) .nil)) (.lit (.int 0))) ρ S = .ok (.int c) S := by
    by_cases hk : k < ns.length
    · refine ⟨if ns[k] < 0 then -ns[k] else ns[k], fun ρ h0 h1 => ?_⟩
      have e : (ns.map D.int)[k]? = some (.int ns[k]) := by simp [hk]
      simp [evE, evEs, h0, h1, biD, scD, items, cmpD, truD, subD, ixOf, hk, e]
    · exact ⟨0, fun ρ h0 h1 => by simp [evE, evEs, h0, h1, biD, scD, items, cmpD, truD, hk]⟩
  have hsl : slcD (scD ns) .non (.int 40) S = some (.fl (cutL (ns.map D.int) 0 (min 40 ns.length))) := by
    simp [slcD, scD, itemsL, clipD]
  refine run_p (vs := [scD ns, .int k, .int own]) (S := S) (n := n) (p := fun r => ∃ a b : Int, r = .ok (.ref S.length) (S ++ [.lst [.int a, .int b]])) h rfl ?_
  simp only [f4, evSs]
  refine w_then ?_
  rw [evS, hc _ rfl rfl]
  simp only [then_ok, taD, w_nx]
  refine w_then ?_
  simp only [evS, evE, evEs, binD, small]
  simp [startE, taD]
  refine w_then ?_
  simp only [evS, evIt, evE, evEs, endD, isNonL]
  simp [hsl, itemsL]
  refine w_loop (fun _ ρ S' => ρ.length = 6 ∧ ρ[0]? = some (some (scD ns)) ∧ ρ[1]? = some (some (.int k)) ∧ ρ[3]? = some (some (.int c)) ∧ (∃ s : Int, ρ[4]? = some (some (.int s))) ∧ S' = S) ⟨rfl, rfl, rfl, rfl, ⟨_, rfl⟩, rfl⟩ ?_ ?_
  · rintro i x ρ S' hx ⟨hl, h0, h1, h3, ⟨s, h4⟩, rfl⟩
    obtain ⟨v, rfl⟩ : ∃ v : Int, x = .int v := by
      have hm := List.mem_of_getElem? hx
      unfold cutL at hm
      obtain ⟨v, _, e⟩ := List.mem_map.mp (List.mem_of_mem_drop (List.mem_of_mem_take hm))
      exact ⟨v, e.symm⟩
    simp [-getElem?_pos, tgD, evSs, evS, evE, evEs, taD, List.getElem?_set, hl, h0, h1, h3, h4, binD, biD, small, lockAll, lock]
  · rintro ρ S' ⟨hl, h0, h1, h3, ⟨s, h4⟩, rfl⟩
    by_cases c1 : 1000000000000000000 ≤ c
    · simp [-getElem?_pos, evSs, evS, evE, evEs, h3, h4, binD, small, cmpD, truD, c1, newL, fin, closed]
    · simp [-getElem?_pos, evSs, evS, evE, evEs, h3, h4, binD, small, cmpD, truD, c1, newL, fin, closed]

end K42

set_option linter.all false
set_option maxRecDepth 100000
set_option maxHeartbeats 4000000
set_option autoImplicit false
namespace K42
open Ip
/-! ### the best splits -/
theorem enumL_app : ∀ (k : Nat) (xs ys : List D), enumL k (xs ++ ys) = enumL k xs ++ enumL (k + xs.length) ys
  | k, [], ys => rfl
  | k, x :: xs, ys => by
    simp only [List.cons_append, enumL, enumL_app (k + 1) xs ys, List.length_cons]
    rw [show k + 1 + xs.length = k + (xs.length + 1) by omega]
theorem enumL_range (f : Nat → D) : ∀ n : Nat, enumL 0 ((List.range n).map f) = (List.range n).map fun i => .tup [.int (i : Nat), f i]
  | 0 => rfl
  | n + 1 => by
    rw [List.range_succ, List.map_append, List.map_append, enumL_app, enumL_range f n]
    simp [enumL]
theorem maxL_some : ∀ {xs : List Int}, xs ≠ [] → ∃ v, maxL xs = some v
  | [], h => (h rfl).elim
  | x :: xs, _ => ⟨_, rfl⟩
theorem minL_some : ∀ {xs : List Int}, xs ≠ [] → ∃ v, minL xs = some v
  | [], h => (h rfl).elim
  | x :: xs, _ => ⟨_, rfl⟩
/-- the most that lack, at so many seats here -/
def mx (s : Int) (ps : List (Int × Int)) (here : Nat) : Int := (maxL (ps.map (lk1 s here))).getD 0
theorem mx_eq {s : Int} {ps : List (Int × Int)} {here : Nat} (h : ps ≠ []) : maxL (ps.map (lk1 s here)) = some (mx s ps here) := by
  obtain ⟨v, e⟩ := maxL_some (xs := ps.map (lk1 s here)) (by simpa using h)
  unfold mx
  rw [e] <;> rfl
def least (s : Nat) (ps : List (Int × Int)) : Int := (minL ((List.range (s + 1)).map (mx s ps))).getD 0
theorem least_eq {s : Nat} {ps : List (Int × Int)} : minL ((List.range (s + 1)).map (mx s ps)) = some (least s ps) := by
  obtain ⟨v, e⟩ := minL_some (xs := (List.range (s + 1)).map (mx s ps)) (by simp)
  unfold least
  rw [e] <;> rfl
def bestL (s : Nat) (ps : List (Int × Int)) : List D := ((List.range (s + 1)).filter fun h => mx s ps h == least s ps).map fun h => .int (h : Nat)
theorem eqD_int {x y : Int} {S : Store} : eqD (.int x) (.int y) S = some (x == y) := by
  simp [eqD, deep, deepest, eqv]
theorem run_f3 {P : Prog} {n : Nat} (h1 : nget 1 P.fns = some f1) (h2 : nget 2 P.fns = some f2) (h : nget 3 P.fns = some f3) (s : Nat) (si : Int) (hsi : si = s) (ps : List (Int × Int)) (x : D) (S : Store) (hi : Pairs x S ps) (hz : ps.length ≤ 100000) (hp : ps ≠ []) (hs : s < 1000) :
    run P (n + 3) 3 [.int si, x] S = .ok (.tup (bestL s ps)) S := by
  refine run_of h rfl ?_
  have e0 : startE 6 [.int si, x] = [some (.int si), some x, none, none, none, none] := rfl
  have b1 : big62 (si + 1) = true := by
    unfold big62
    simp only [Bool.and_eq_true, decide_eq_true_eq]
    omega
  have e1 : (si + 1).toNat = s + 1 := by omega
  simp only [f3, e0]
  refine w_cons ?_
  simp only [evS, evE, evIt]
  simp [binD, b1, e1, rngL_eq]
  rw [compL_map (b := fun k : Nat => .int (mx s ps k)) rfl (fun k hk => by
    have : run P (n + 2) 2 [.int si, .int k, x] S = .ok (.int (mx s ps k)) S := by
      rw [hsi]
      exact run_f2 (n := n) h1 h2 s k ps x S hi hz (mx_eq hp)
    simp [tgD, evCs, evE, evEs, this])]
  have e2 : s + 1 ≤ 100000 := by omega
  simp [show s ≤ 99999 by omega, newL, taD]
  refine w_cons ?_
  simp only [evS, evE, evEs, evIt]
  simp [itemsL]
  rw [compL_map (b := fun k : Nat => .int (mx s ps k)) rfl (fun k hk => by
    simp [tgD, evCs, evE, evEs, biD])]
  simp [show s ≤ 99999 by omega, newL, biD, itemsL, intsOf_map, least_eq, taD]
  refine w_cons ?_
  simp only [evS, evE, evEs, evIt]
  simp [itemsL, enumL_range]
  rw [compL_filter (b := fun k : Nat => .int (k : Nat)) (c := fun k => mx s ps k == least s ps) rfl (fun k hk => by
    by_cases c : mx s ps k = least s ps
    · simp [tgD, setAll, evCs, evE, evEs, cmpD, eqD_int, c, truD]
    · simp [tgD, setAll, evCs, evE, evEs, cmpD, eqD_int, c, truD])]
  simp [show s ≤ 99999 by omega, newL, biD, itemsL, fin, bestL]
end K42

set_option linter.all false
set_option maxRecDepth 100000
set_option maxHeartbeats 4000000
set_option autoImplicit false
namespace K42
open Ip
/-! ### texts and equality -/
theorem mapO_id {f : D → Option D} : ∀ {xs : List D}, (∀ x ∈ xs, f x = some x) → mapO f xs = some xs
  | [], _ => rfl
  | x :: xs, h => by
    have h1 := h x List.mem_cons_self
    have h2 := mapO_id (xs := xs) fun y hy => h y (List.mem_cons_of_mem _ hy)
    simp only [mapO, h1, h2, Option.map_some]
theorem deep_int {S : Store} {n : Nat} {i : Int} : deep S (n + 1) (.int i) = some (.int i) := rfl
theorem deep_pr {S : Store} {n : Nat} {q : Int × Int} : deep S (n + 2) (pr q) = some (pr q) := rfl
theorem deep_pairs {S : Store} {n : Nat} {ps : List (Int × Int)} : mapO (deep S (n + 2)) (ps.map pr) = some (ps.map pr) := mapO_id fun x hx => by
  obtain ⟨q, _, rfl⟩ := List.mem_map.mp hx
  exact deep_pr
theorem eqv_pr {q : Int × Int} : eqv (pr q) (pr q) = true := by simp [pr, eqv, eqvL]
theorem eqvL_pairs : ∀ {ps : List (Int × Int)}, eqvL (ps.map pr) (ps.map pr) = true
  | [] => rfl
  | p :: ps => by simp only [List.map_cons, eqvL, eqv_pr, eqvL_pairs, Bool.and_self]
theorem eq_kept {S : Store} {p : Nat} {ps : List (Int × Int)} (h : S[p]? = some (.lst (ps.map pr))) : eqD (.ref p) (.fl (ps.map pr)) S = some true := by
  have e1 : deep S deepest (.ref p) = some (.fl (ps.map pr)) := by
    show (match S[p]? with
      | some (.lst xs) => (mapO (deep S 19) xs).map D.fl
      | _ => none) = _
    rw [h]
    show (mapO (deep S 19) (ps.map pr)).map D.fl = _
    rw [deep_pairs (n := 17)] <;> rfl
  have e2 : deep S deepest (.fl (ps.map pr)) = some (.fl (ps.map pr)) := by
    show (mapO (deep S 19) (ps.map pr)).map D.fl = _
    rw [deep_pairs (n := 17)] <;> rfl
  simp only [eqD, e1, e2, eqv, eqvL_pairs]
def intsD (l : List Nat) : List D := l.map fun h => .int (h : Nat)
theorem deep_ints {S : Store} {n : Nat} {l : List Nat} : mapO (deep S (n + 1)) (intsD l) = some (intsD l) := mapO_id fun x hx => by
  obtain ⟨q, _, rfl⟩ := List.mem_map.mp hx
  rfl
theorem eqvL_ints : ∀ {l : List Nat}, eqvL (intsD l) (intsD l) = true
  | [] => rfl
  | p :: l => by
    have := eqvL_ints (l := l)
    unfold intsD at this ⊢
    simp only [List.map_cons, eqvL, eqv, beq_self_eq_true, this, Bool.and_self]
theorem eq_tups {S : Store} {l : List Nat} : eqD (.tup (intsD l)) (.tup (intsD l)) S = some true := by
  have e : deep S deepest (.tup (intsD l)) = some (.tup (intsD l)) := by
    show (mapO (deep S 19) (intsD l)).map D.tup = _
    rw [deep_ints (n := 18)] <;> rfl
  simp only [eqD, e, eqv, eqvL_ints]
theorem rp_int {S : Store} {i : Int} (h : i.natAbs < 10 ^ 40) : biD .repr [.int i] S = some (.rp (.int i)) := by
  have e : rpD (.int i) = some (.rp (.int i)) := by
    unfold rpD okRp bulk
    rw [if_pos (by rw [decide_eq_true h]; rfl)]
  exact e
theorem okL : ∀ {l : List Nat}, (∀ x ∈ l, x < 1000) → okRpL (intsD l) = true
  | [], _ => rfl
  | p :: l, h => by
    have h1 := h p List.mem_cons_self
    have := okL (l := l) fun x hx => h x (List.mem_cons_of_mem _ hx)
    unfold intsD at this ⊢
    simp only [List.map_cons, okRpL, okRp, this, Bool.and_true, decide_eq_true_eq]
    have h2 : (p : Int).natAbs = p := Int.natAbs_natCast p
    rw [h2]
    exact Nat.lt_trans h1 (by decide)
theorem bulk_ints : ∀ {l : List Nat}, bulkL (intsD l) = l.length
  | [] => rfl
  | p :: l => by
    have := bulk_ints (l := l)
    unfold intsD at this ⊢
    simp only [List.map_cons, bulkL, bulk, this, List.length_cons]
    omega
theorem rp_tup {S : Store} {l : List Nat} (h : ∀ x ∈ l, x < 1000) (hl : l.length ≤ 1000) : biD .repr [.tup (intsD l)] S = some (.rp (.tup (intsD l))) := by
  have e : deep S deepest (.tup (intsD l)) = some (.tup (intsD l)) := by
    show (mapO (deep S 19) (intsD l)).map D.tup = _
    rw [deep_ints (n := 18)] <;> rfl
  have e2 : rpD (.tup (intsD l)) = some (.rp (.tup (intsD l))) := by
    unfold rpD okRp bulk
    rw [if_pos (by rw [okL h, bulk_ints, decide_eq_true (Nat.le_trans hl (by decide))]; rfl)]
  show (deep S deepest (.tup (intsD l))).bind rpD = _
  rw [e]
  exact e2
theorem eq_rp {S : Store} {d : D} : eqD (.rp d) (.rp d) S = some true := by
  simp only [eqD, sameD_rfl, if_true]
/-! ### bounds -/
theorem fold_mem (f : Int → Int → Int) (hf : ∀ a b, f a b = a ∨ f a b = b) : ∀ (l : List Int) (a : Int), l.foldl f a = a ∨ l.foldl f a ∈ l
  | [], a => .inl rfl
  | b :: l, a => by
    rw [List.foldl_cons]
    rcases fold_mem f hf l (f a b) with h | h
    · rcases hf a b with q | q
      · left
        rw [h, q]
      · right
        rw [h, q]
        exact List.mem_cons_self
    · exact .inr (List.mem_cons_of_mem _ h)
theorem maxL_mem {l : List Int} {v : Int} (h : maxL l = some v) : v ∈ l := by
  cases l with
  | nil => cases h
  | cons a l =>
    simp only [maxL, Option.some.injEq] at h
    rcases fold_mem (fun a b => if a < b then b else a) (fun a b => by by_cases c : a < b <;> simp [c]) l a with q | q
    · rw [← h, q]
      exact List.mem_cons_self
    · rw [← h]
      exact List.mem_cons_of_mem _ q
def Sml (q : Int × Int) : Prop := 0 ≤ q.1 ∧ q.1 < 10 ∧ 0 ≤ q.2 ∧ q.2 < 10
theorem mx_small {s : Nat} {ps : List (Int × Int)} {h : Nat} (hp : ps ≠ []) (hs : s < 1000) (hh : h ≤ s) (sm : ∀ q ∈ ps, Sml q) : (mx s ps h).natAbs < 10 ^ 40 := by
  have := maxL_mem (mx_eq (s := s) (here := h) hp)
  obtain ⟨q, hq, e⟩ := List.mem_map.mp this
  obtain ⟨a, b, c, d⟩ := sm q hq
  have b1 : 0 ≤ lk1 s h q ∧ lk1 s h q < 2000 := by
    unfold lk1
    constructor <;> (split <;> split <;> omega)
  rw [← e]
  refine Nat.lt_trans (m := 2000) ?_ (by decide)
  omega
end K42

set_option linter.all false
set_option maxRecDepth 100000
set_option maxHeartbeats 4000000
set_option autoImplicit false
namespace K42
open Ip
/-! ### the law -/
/-- the source of draws at its place -/
def IsBox (S : Store) (j : Nat) : Prop := ∃ a b : Int, S[j]? = some (.lst [.int a, .int b])
theorem take_box {P : Prog} {n : Nat} (h : nget 5 P.fns = some f5) (j : Nat) (lim : Int) (S : Store) (hb : IsBox S j) (h0 : 0 < lim) (h1 : lim < 1073741824) :
    ∃ (d a' b' : Int), 0 ≤ d ∧ d < lim ∧ run P (n + 1) 5 [.ref j, .int lim] S = .ok (.int d) (S.set j (.lst [.int a', .int b'])) := by
  obtain ⟨a, b, hi⟩ := hb
  exact run_take h j a b lim S hi h0 h1
theorem box_set {S : Store} {j : Nat} (hb : IsBox S j) (a b : Int) : IsBox (S.set j (.lst [.int a, .int b])) j := by
  obtain ⟨x, y, hi⟩ := hb
  exact ⟨a, b, List.getElem?_set_self (List.getElem?_eq_some_iff.mp hi).1⟩
theorem box_lt {S : Store} {j : Nat} (hb : IsBox S j) : j < S.length := by
  obtain ⟨x, y, hi⟩ := hb
  exact (List.getElem?_eq_some_iff.mp hi).1
/-- the inner body: what is asked at one split -/
def bodyH : Sms := (.cons (.ex (.bm .append (.var 10) (.cons false (.bi .max1 false (.cons false (.comp false (.bi .int false (.cons false (.call 6 (.cons false (.var 8) (.cons false (.var 5) (.cons false (.var 13) .nil)))) .nil)) (.nm 13) (.seq (.var 9)) .nil) .nil)) .nil))) (.cons (.iff (.cmp .ne (.bi .repr false (.cons false (.call 2 (.cons false (.var 8) (.cons false (.var 5) (.cons false (.var 9) .nil)))) .nil)) (.bi .repr false (.cons false (.sub (.var 10) (.neg (.lit (.int 1)))) .nil))) (.cons (.ret (.lit (.bl false))) .nil) .nil) (.cons (.iff (.cmp .ne (.call 2 (.cons false (.var 8) (.cons false (.var 5) (.cons false (.bi .tuple false (.cons false (.var 9) .nil)) .nil)))) (.sub (.var 10) (.neg (.lit (.int 1))))) (.cons (.ret (.lit (.bl false))) .nil) .nil) .nil)))
theorem w_bodyH {P : Prog} {n : Nat} (g1 : nget 1 P.fns = some f1) (g2 : nget 2 P.fns = some f2) (g6 : nget 6 P.fns = some f6) {ρ : Env} {S : Store} {s k p c : Nat} {si ki : Int} (hsi : si = s) (hki : ki = k) {ps : List (Int × Int)} {cs : List D} (hl : ρ.length = 14) (h5 : ρ[5]? = some (some (.int ki))) (h8 : ρ[8]? = some (some (.int si))) (h9 : ρ[9]? = some (some (.ref p)))
    (h10 : ρ[10]? = some (some (.ref c))) (hp : S[p]? = some (.lst (ps.map pr))) (hc : S[c]? = some (.lst cs)) (hpc : p ≠ c) (ne : ps ≠ []) (sm : ∀ q ∈ ps, Sml q) (hs : s < 1000) (hk : k ≤ s) (hz : ps.length ≤ 1000) (hcs : cs.length ≤ 1000) {N C B : Env → Store → Prop} {Rt : D → Store → Prop}
    (q : N ρ (S.set c (.lst (cs ++ [.int (mx s ps k)])))) : W (evSs (cxOf P (run P (n + 2)) 0) bodyH ρ S) N C B Rt := by
  unfold bodyH
  refine w_cons ?_
  obtain ⟨l, e, hlk⟩ := seq_pairs (cx := cxOf P (run P (n + 2)) 0) (e := .var 9) (ρ := ρ) (S := S) (x := .ref p) (by simp [evE, h9, -getElem?_pos]) (.inr (.inr ⟨p, rfl, hp⟩))
  simp only [evS, evE, evEs, h10, e, bind_ok]
  rw [compL_map (b := fun q => .int (lk1 s k q)) hlk (fun q hq => by
    have r6 : run P (n + 2) 6 [.int si, .int ki, pr q] S = .ok (.int (lk1 s k q)) S := by
      rw [hsi, hki]
      exact run_f6 (n := n + 1) g6 s k q S
    simp [-getElem?_pos, tgD, evCs, evE, evEs, List.getElem?_set, hl, h8, h5, r6, biD])]
  have z1 : ps.length ≤ 100000 := by omega
  have z2 : cs.length < 100000 := by omega
  have hlt : c < S.length := (List.getElem?_eq_some_iff.mp hc).1
  simp [-getElem?_pos, z1, z2, newL, biD, itemsL, intsOf_map, mx_eq ne, bmTy, hc, bmD, put, closed]
  have hS : ∀ x, (S.set c x)[c]? = some x := fun x => List.getElem?_set_self hlt
  have hP : ∀ x, (S.set c x)[p]? = some (.lst (ps.map pr)) := fun x => by rw [List.getElem?_set_ne (Ne.symm hpc)]; exact hp
  generalize hS1 : S.set c (.lst (cs ++ [.int (mx s ps k)])) = S1 at q ⊢
  have hc1 : S1[c]? = some (.lst (cs ++ [.int (mx s ps k)])) := by rw [← hS1]; exact hS _
  have hp1 : S1[p]? = some (.lst (ps.map pr)) := by rw [← hS1]; exact hP _
  have r1 : run P (n + 2) 2 [.int si, .int ki, .ref p] S1 = .ok (.int (mx s ps k)) S1 := by
    rw [hsi, hki]
    exact run_f2 (n := n) g1 g2 s k ps (.ref p) S1 (.inr (.inr ⟨p, rfl, hp1⟩)) z1 (mx_eq ne)
  have r2 : run P (n + 2) 2 [.int si, .int ki, .tup (ps.map pr)] S1 = .ok (.int (mx s ps k)) S1 := by
    rw [hsi, hki]
    exact run_f2 (n := n) g1 g2 s k ps (.tup (ps.map pr)) S1 (.inl rfl) z1 (mx_eq ne)
  have last : subD (.ref c) (.int (-1)) S1 = some (.int (mx s ps k)) := by
    have e0 : (cs ++ [D.int (mx s ps k)]).length = cs.length + 1 := by simp
    have e1 : ixOf (cs ++ [D.int (mx s ps k)]).length (-1) = some cs.length := by
      rw [e0]
      unfold ixOf
      rw [if_neg (by decide), if_pos (by omega)]
      congr 1
      omega
    simp only [subD, items, hc1, e1]
    simp
  refine w_cons ?_
  simp only [evS, evT, evE, evEs, h8, h5, h9, h10, bind_ok, cxOf_call, r1, Bool.false_eq_true, if_false, rp_int (mx_small ne hs hk sm), negD, last, of_some, cmpD, eq_rp, Option.map_some, Bool.not_true, truD, then_ok]
  refine w_nil ?_
  refine w_cons ?_
  simp only [evS, evT, evE, evEs, h8, h5, h9, h10, bind_ok, cxOf_call, biD, itemsL, hp1, Option.map_some, r2, Bool.false_eq_true, if_false, negD, last, of_some, cmpD, eqD_int, beq_self_eq_true, Bool.not_true, truD, then_ok]
  refine w_nil (w_nil q)
end K42

set_option linter.all false
set_option maxRecDepth 100000
set_option maxHeartbeats 4000000
set_option autoImplicit false
namespace K42
open Ip
theorem rng_get {lo : Int} {n i : Nat} {d : D} (h : (rngL lo n)[i]? = some d) : i < n ∧ d = .int (lo + (i : Nat)) := by
  unfold rngL at h
  rw [List.getElem?_map] at h
  cases q : (List.range n)[i]? with
  | none => rw [q] at h; cases h
  | some j =>
    rw [q] at h
    cases h
    obtain ⟨h1, h2⟩ := List.getElem?_eq_some_iff.mp q
    rw [List.length_range] at h1
    rw [List.getElem_range] at h2
    exact ⟨h1, by rw [h2]⟩
theorem app_new (S : Store) (c : Cell) : (S ++ [c])[S.length]? = some c := by simp
theorem app_old {S : Store} {c : Cell} {j : Nat} (h : j < S.length) : (S ++ [c])[j]? = S[j]? := List.getElem?_append_left h
theorem big_small {x : Int} (h0 : 0 ≤ x) (h1 : x < 1000) : big62 x = true := by
  unfold big62
  simp only [Bool.and_eq_true, decide_eq_true_eq]
  omega
/-- a pair is drawn and put behind the others -/
def bodyM : Sms := (.cons (.ex (.bm .append (.var 9) (.cons false (.tup (.cons false (.call 5 (.cons false (.var 2) (.cons false (.lit (.int 10)) .nil))) (.cons false (.call 5 (.cons false (.var 2) (.cons false (.lit (.int 10)) .nil))) .nil))) .nil))) .nil)
theorem w_bodyM {P : Prog} {n : Nat} (g5 : nget 5 P.fns = some f5) {ρ : Env} {S : Store} {j p : Nat} {ps : List (Int × Int)} (h2 : ρ[2]? = some (some (.ref j))) (h9 : ρ[9]? = some (some (.ref p))) (hb : IsBox S j) (hjp : j ≠ p) (hp : S[p]? = some (.lst (ps.map pr))) (sm : ∀ q ∈ ps, Sml q) (hz : ps.length ≤ 1000)
    {N C B : Env → Store → Prop} {Rt : D → Store → Prop} (q : ∀ (S' : Store) (x : Int × Int), IsBox S' j → Sml x → S'[p]? = some (.lst ((ps ++ [x]).map pr)) → N ρ S') : W (evSs (cxOf P (run P (n + 1)) 0) bodyM ρ S) N C B Rt := by
  unfold bodyM
  refine w_cons ?_
  obtain ⟨d1, a1, b1, u1, u2, e1⟩ := take_box (n := n) g5 j 10 S hb (by decide) (by decide)
  have hb1 := box_set hb a1 b1
  have hp1 : (S.set j (.lst [.int a1, .int b1]))[p]? = some (.lst (ps.map pr)) := by rw [List.getElem?_set_ne hjp]; exact hp
  obtain ⟨S1, hS1⟩ : ∃ S1 : Store, S1 = S.set j (.lst [.int a1, .int b1]) := ⟨_, rfl⟩
  rw [← hS1] at e1 hb1 hp1
  obtain ⟨d2, a2, b2, v1, v2, e2⟩ := take_box (n := n) g5 j 10 S1 hb1 (by decide) (by decide)
  have hb2 := box_set hb1 a2 b2
  have hp2 : (S1.set j (.lst [.int a2, .int b2]))[p]? = some (.lst (ps.map pr)) := by rw [List.getElem?_set_ne hjp]; exact hp1
  obtain ⟨S2, hS2⟩ : ∃ S2 : Store, S2 = S1.set j (.lst [.int a2, .int b2]) := ⟨_, rfl⟩
  rw [← hS2] at e2 hb2 hp2
  have z : (ps.map pr).length < 100000 := by rw [List.length_map]; omega
  have hlt : p < S2.length := (List.getElem?_eq_some_iff.mp hp2).1
  have ty : bmTy .append (.ref p) S = true := by
    simp only [bmTy, itemsL, hp, Option.isSome_some]
  simp only [evS, evE, evEs, h9, h2, bind_ok, ty, if_true, cxOf_call, cxOf_base, Bool.false_eq_true, if_false, e1, e2, bmD]
  have z' : ps.length < 100000 := by omega
  simp [-getElem?_pos, hp2, z', put, closed, closedL]
  refine w_nil (q _ (d1, d2) ?_ ⟨u1, u2, v1, v2⟩ ?_)
  · obtain ⟨x, y, hx⟩ := hb2
    exact ⟨x, y, by rw [List.getElem?_set_ne (Ne.symm hjp)]; exact hx⟩
  · rw [List.getElem?_set_self hlt, List.map_append]
    rfl
/-- what comes behind the draws -/
def bodyT : Sms := (.cons (.asg (.tp [8, 9]) (.tup (.cons false (.call 5 (.cons false (.var 2) (.cons false (.lit (.int 10)) .nil))) (.cons false (.lst true .nil) .nil)))) (.cons (.for (.nm 4) (.rng1 (.bin .add (.lit (.int 1)) (.call 5 (.cons false (.var 2) (.cons false (.lit (.int 6)) .nil))))) bodyM) (.cons (.par [10, 11] (.cons false (.lst true .nil) (.cons false (.bi .list false (.cons false (.var 9) .nil)) .nil))) (.cons (.for (.nm 5) (.rng1 (.bin .add (.var 8) (.lit (.int 1)))) bodyH) (.cons (.asg (.nm 6) (.bi .min1 false (.cons false (.comp false (.bi .int false (.cons false (.var 12) .nil)) (.nm 12) (.seq (.var 10)) .nil) .nil))) (.cons (.asg (.nm 7) (.bi .tuple false (.cons false (.comp false (.var 5) (.tp [5, 12]) (.enum (.var 10)) (.cons false (.cmp .eq (.var 12) (.var 6)) .nil)) .nil))) (.cons (.iff (.or (.cons false (.cmp .ne (.bi .repr false (.cons false (.call 3 (.cons false (.var 8) (.cons false (.var 9) .nil))) .nil)) (.bi .repr false (.cons false (.var 7) .nil))) (.cons false (.cmp .ne (.call 3 (.cons false (.var 8) (.cons false (.bi .tuple false (.cons false (.var 9) .nil)) .nil))) (.var 7)) (.cons false (.cmp .ne (.var 9) (.var 11)) .nil)))) (.cons (.ret (.lit (.bl false))) .nil) .nil) .nil)))))))
theorem f7_eq : f7 = ⟨1, 14, (.cons (.for (.nm 1) (.rng1 (.bi .max2 false (.cons false (.lit (.int 1)) (.cons false (.bi .min2 false (.cons false (.lit (.int 4)) (.cons false (.bi .len false (.cons false (.var 0) .nil)) .nil))) .nil)))) (.cons (.asg (.nm 2) (.call 4 (.cons false (.var 0) (.cons false (.var 1) (.cons false (.lit (.int 42)) .nil))))) (.cons (.for (.nm 3) (.rng1 (.lit (.int 4))) bodyT) .nil))) (.cons (.ret (.lit (.bl true))) .nil))⟩ := rfl
/-- the last look -/
def bodyE : Sms := (.cons (.asg (.nm 6) (.bi .min1 false (.cons false (.comp false (.bi .int false (.cons false (.var 12) .nil)) (.nm 12) (.seq (.var 10)) .nil) .nil))) (.cons (.asg (.nm 7) (.bi .tuple false (.cons false (.comp false (.var 5) (.tp [5, 12]) (.enum (.var 10)) (.cons false (.cmp .eq (.var 12) (.var 6)) .nil)) .nil))) (.cons (.iff (.or (.cons false (.cmp .ne (.bi .repr false (.cons false (.call 3 (.cons false (.var 8) (.cons false (.var 9) .nil))) .nil)) (.bi .repr false (.cons false (.var 7) .nil))) (.cons false (.cmp .ne (.call 3 (.cons false (.var 8) (.cons false (.bi .tuple false (.cons false (.var 9) .nil)) .nil))) (.var 7)) (.cons false (.cmp .ne (.var 9) (.var 11)) .nil)))) (.cons (.ret (.lit (.bl false))) .nil) .nil) .nil)))
theorem w_bodyE {P : Prog} {n : Nat} (g1 : nget 1 P.fns = some f1) (g2 : nget 2 P.fns = some f2) (g3 : nget 3 P.fns = some f3) {ρ : Env} {S : Store} {s p c : Nat} {si : Int} (hsi : si = s) {ps : List (Int × Int)} (hl : ρ.length = 14) (h8 : ρ[8]? = some (some (.int si))) (h9 : ρ[9]? = some (some (.ref p)))
    (h10 : ρ[10]? = some (some (.ref c))) (h11 : ρ[11]? = some (some (.fl (ps.map pr)))) (hp : S[p]? = some (.lst (ps.map pr))) (hc : S[c]? = some (.lst ((List.range (s + 1)).map fun k => .int (mx s ps k)))) (ne : ps ≠ []) (hs : s < 1000) (hz : ps.length ≤ 1000)
    {N C B : Env → Store → Prop} {Rt : D → Store → Prop} (q : ∀ a b, N ((ρ.set 6 a).set 7 b) S) : W (evSs (cxOf P (run P (n + 3)) 0) bodyE ρ S) N C B Rt := by
  unfold bodyE
  have e2 : s ≤ 99999 := by omega
  refine w_cons ?_
  simp only [evS, evE, evEs, evIt, h10, bind_ok, itemsL, hc]
  rw [compL_map (b := fun k : Nat => .int (mx s ps k)) (lockAll_ref hc hc) (fun k hk => by
    simp [-getElem?_pos, tgD, evCs, evE, evEs, List.getElem?_set, hl, biD])]
  simp [-getElem?_pos, e2, newL, biD, itemsL, intsOf_map, least_eq, taD]
  refine w_cons ?_
  simp only [evS, evE, evEs, evIt]
  simp [-getElem?_pos, List.getElem?_set, hl, h10, itemsL, hc, enumL_range]
  rw [compL_filter (b := fun k : Nat => .int (k : Nat)) (c := fun k => mx s ps k == least s ps) (lockAll_ref hc hc) (fun k hk => by
    by_cases c : mx s ps k = least s ps
    · simp [-getElem?_pos, tgD, setAll, evCs, evE, evEs, List.getElem?_set, hl, cmpD, eqD_int, c, truD]
    · simp [-getElem?_pos, tgD, setAll, evCs, evE, evEs, List.getElem?_set, hl, cmpD, eqD_int, c, truD])]
  have r3 : run P (n + 3) 3 [.int si, .ref p] S = .ok (.tup (bestL s ps)) S := run_f3 (n := n) g1 g2 g3 s si hsi ps (.ref p) S (.inr (.inr ⟨p, rfl, hp⟩)) (by omega) ne hs
  have r3' : run P (n + 3) 3 [.int si, .tup (ps.map pr)] S = .ok (.tup (bestL s ps)) S := run_f3 (n := n) g1 g2 g3 s si hsi ps (.tup (ps.map pr)) S (.inl rfl) (by omega) ne hs
  have bl : bestL s ps = intsD ((List.range (s + 1)).filter fun h => mx s ps h == least s ps) := rfl
  generalize hls : ((List.range (s + 1)).filter fun h => mx s ps h == least s ps) = ls at bl ⊢
  have b1 : ∀ x ∈ ls, x < 1000 := fun x hx => by
    rw [← hls] at hx
    have := List.mem_range.mp (List.mem_filter.mp hx).1
    omega
  have b2 : ls.length ≤ 1000 := by
    rw [← hls]
    refine Nat.le_trans (List.length_filter_le _ _) ?_
    rw [List.length_range]
    omega
  have fold : ls.map (fun k : Nat => D.int (k : Nat)) = intsD ls := rfl
  rw [fold]
  rw [bl] at r3 r3'
  simp [-getElem?_pos, e2, newL, biD, itemsL, taD]
  refine w_cons ?_
  have k8 : ∀ a b, ((ρ.set 6 a).set 7 b)[8]? = some (some (.int si)) := fun a b => by simp [-getElem?_pos, List.getElem?_set, h8]
  have k9 : ∀ a b, ((ρ.set 6 a).set 7 b)[9]? = some (some (.ref p)) := fun a b => by simp [-getElem?_pos, List.getElem?_set, h9]
  have k11 : ∀ a b, ((ρ.set 6 a).set 7 b)[11]? = some (some (.fl (ps.map pr))) := fun a b => by simp [-getElem?_pos, List.getElem?_set, h11]
  have k7 : ∀ a b, ((ρ.set 6 a).set 7 b)[7]? = some b := fun a b => by simp [-getElem?_pos, List.getElem?_set, hl]
  have it : biD .tuple [.ref p] S = some (.tup (ps.map pr)) := by simp only [biD, itemsL, hp, Option.map_some]
  simp only [evS, evT, evE, evEs, evOr, k8, k9, k11, k7, bind_ok, cxOf_call, Bool.false_eq_true, if_false, r3, r3', it, rp_tup b1 b2, cmpD, eq_rp, eq_tups, eq_kept hp, Option.map_some, Bool.not_true, of_some, truD, then_ok]
  exact w_nil (w_nil (q _ _))
end K42

set_option linter.all false
set_option maxRecDepth 100000
set_option maxHeartbeats 4000000
set_option autoImplicit false
namespace K42
open Ip
theorem ne_of_len {ps : List (Int × Int)} {k : Nat} (h : ps.length = k) (hk : 1 ≤ k) : ps ≠ [] := fun z => by
  rw [z] at h
  simp at h
  omega
/-- what stands ahead of a turn -/
def Turn (sc : D) (ρ : Env) (S : Store) : Prop := ρ.length = 14 ∧ ρ[0]? = some (some sc) ∧ ∃ j, ρ[2]? = some (some (.ref j)) ∧ IsBox S j
theorem w_bodyT {P : Prog} {n : Nat} (g1 : nget 1 P.fns = some f1) (g2 : nget 2 P.fns = some f2) (g3 : nget 3 P.fns = some f3) (g5 : nget 5 P.fns = some f5) (g6 : nget 6 P.fns = some f6) {sc : D} {ρ : Env} {S : Store} (ht : Turn sc ρ S)
    {N C B : Env → Store → Prop} {Rt : D → Store → Prop} (q : ∀ ρ S, Turn sc ρ S → N ρ S) : W (evSs (cxOf P (run P (n + 3)) 0) bodyT ρ S) N C B Rt := by
  obtain ⟨hl, h0, j, h2, hb⟩ := ht
  unfold bodyT
  refine w_cons ?_
  obtain ⟨d, a1, b1, u1, u2, e1⟩ := take_box (n := n + 2) g5 j 10 S hb (by decide) (by decide)
  have hb1 := box_set hb a1 b1
  obtain ⟨S1, hS1⟩ : ∃ S1 : Store, S1 = S.set j (.lst [.int a1, .int b1]) := ⟨_, rfl⟩
  rw [← hS1] at e1 hb1
  have hj := box_lt hb1
  simp only [evS, evE, evEs, h2, bind_ok, cxOf_call, Bool.false_eq_true, if_false, e1]
  simp [-getElem?_pos, newL, taD, setAll]
  have hp0 : (S1 ++ [Cell.lst []])[S1.length]? = some (.lst (([] : List (Int × Int)).map pr)) := app_new S1 _
  have hb2 : IsBox (S1 ++ [Cell.lst []]) j := by
    obtain ⟨x, y, hx⟩ := hb1
    exact ⟨x, y, by rw [app_old hj]; exact hx⟩
  have hjp : j ≠ S1.length := Nat.ne_of_lt hj
  generalize S1.length = p at hp0 hjp ⊢
  obtain ⟨S2, hS2⟩ : ∃ S2 : Store, S2 = S1 ++ [Cell.lst []] := ⟨_, rfl⟩
  rw [← hS2] at hp0 hb2 ⊢
  clear hS2 hS1 e1 hj hb1
  refine w_cons ?_
  obtain ⟨d6, a6, b6, v1, v2, e6⟩ := take_box (n := n + 2) g5 j 6 S2 hb2 (by decide) (by decide)
  have hb3 := box_set hb2 a6 b6
  obtain ⟨S3, hS3⟩ : ∃ S3 : Store, S3 = S2.set j (.lst [.int a6, .int b6]) := ⟨_, rfl⟩
  have hp3 : S3[p]? = some (.lst (([] : List (Int × Int)).map pr)) := by rw [hS3, List.getElem?_set_ne hjp]; exact hp0
  rw [← hS3] at e6 hb3
  have k2 : ((ρ.set 8 (some (.int d))).set 9 (some (.ref p)))[2]? = some (some (.ref j)) := by simp [-getElem?_pos, List.getElem?_set, h2]
  have bg : big62 (1 + d6) = true := big_small (by omega) (by omega)
  simp only [evS, evIt, evE, evEs, k2, bind_ok, cxOf_call, Bool.false_eq_true, if_false, e6, binD, bg, if_true, then_ok]
  refine w_loop (fun k ρ S => ρ.length = 14 ∧ ρ[0]? = some (some sc) ∧ ρ[2]? = some (some (.ref j)) ∧ ρ[8]? = some (some (.int d)) ∧ ρ[9]? = some (some (.ref p)) ∧ IsBox S j ∧ ∃ ps : List (Int × Int), ps.length = k ∧ (∀ q ∈ ps, Sml q) ∧ S[p]? = some (.lst (ps.map pr)))
    ⟨by simp [hl], by simp [-getElem?_pos, List.getElem?_set, h0], k2, by simp [-getElem?_pos, List.getElem?_set, hl], by simp [-getElem?_pos, List.getElem?_set, hl], hb3, [], rfl, by simp, hp3⟩ ?_ ?_
  · rintro i x ρ S hx ⟨hl, h0, h2, h8, h9, hb, ps, hps, sm, hp⟩
    obtain ⟨hi, rfl⟩ := rng_get hx
    simp only [tgD]
    have hz : ps.length ≤ 1000 := by omega
    refine w_bodyM (n := n + 2) g5 (ρ := ρ.set 4 (some (.int (0 + (i : Nat))))) (j := j) (p := p) (ps := ps) (by simp [-getElem?_pos, List.getElem?_set, h2]) (by simp [-getElem?_pos, List.getElem?_set, h9]) hb hjp hp sm hz fun S' x hb' sx hp' => ?_
    exact ⟨rfl, by simp [hl], by simp [-getElem?_pos, List.getElem?_set, h0], by simp [-getElem?_pos, List.getElem?_set, h2], by simp [-getElem?_pos, List.getElem?_set, h8], by simp [-getElem?_pos, List.getElem?_set, h9], hb', ps ++ [x], by simp [hps], fun y hy => (List.mem_append.mp hy).elim (sm y) fun z => by
      rw [List.mem_singleton.mp z]
      exact sx, hp'⟩
  clear hS3 hp3 hb3 e6 k2 hb2 hp0 hb h2 h0 hl
  rintro ρ S ⟨hl, h0, h2, h8, h9, hb, ps, hps, sm, hp⟩
  rw [show (rngL 0 (1 + d6).toNat).length = (1 + d6).toNat by simp [rngL]] at hps
  have ne := ne_of_len hps (by omega)
  have hz : ps.length ≤ 1000 := by omega
  refine w_cons ?_
  have hj := box_lt hb
  have hpl : p < S.length := (List.getElem?_eq_some_iff.mp hp).1
  have it : biD .list [.ref p] (S ++ [Cell.lst []]) = some (.fl (ps.map pr)) := by
    simp only [biD, items, app_old hpl, hp, Option.map_some]
  simp only [evS, evE, evEs, h9, bind_ok, Bool.false_eq_true, if_false, newL, if_true, List.length_nil, Nat.zero_le, it, then_ok]
  simp [-getElem?_pos, setAll]
  have hc0 : (S ++ [Cell.lst []])[S.length]? = some (.lst ((List.range 0).map fun k => D.int (mx d.toNat ps k))) := app_new S _
  have hb2 : IsBox (S ++ [Cell.lst []]) j := by
    obtain ⟨x, y, hx⟩ := hb
    exact ⟨x, y, by rw [app_old hj]; exact hx⟩
  have hp2 : (S ++ [Cell.lst []])[p]? = some (.lst (ps.map pr)) := by rw [app_old hpl]; exact hp
  have hjc : j ≠ S.length := Nat.ne_of_lt hj
  have hpc : p ≠ S.length := Nat.ne_of_lt hpl
  generalize S.length = c at hc0 hjc hpc ⊢
  obtain ⟨S2, hS2⟩ : ∃ S2 : Store, S2 = S ++ [Cell.lst []] := ⟨_, rfl⟩
  rw [← hS2] at hc0 hb2 hp2 ⊢
  have hd : d = d.toNat := by omega
  have ds : d.toNat < 1000 := by omega
  refine w_cons ?_
  have bg2 : big62 (d + 1) = true := big_small (by omega) (by omega)
  have k8 : ((ρ.set 10 (some (.ref c))).set 11 (some (.fl (ps.map pr))))[8]? = some (some (.int d)) := by simp [-getElem?_pos, List.getElem?_set, h8]
  simp only [evS, evIt, evE, k8, bind_ok, binD, bg2, if_true, then_ok]
  have ed : (d + 1 - 0).toNat = d.toNat + 1 := by omega
  refine w_loop (fun k ρ S => ρ.length = 14 ∧ ρ[0]? = some (some sc) ∧ ρ[2]? = some (some (.ref j)) ∧ ρ[8]? = some (some (.int d)) ∧ ρ[9]? = some (some (.ref p)) ∧ ρ[10]? = some (some (.ref c)) ∧ ρ[11]? = some (some (.fl (ps.map pr))) ∧ IsBox S j ∧ S[p]? = some (.lst (ps.map pr)) ∧ S[c]? = some (.lst ((List.range k).map fun k => D.int (mx d.toNat ps k))))
    ⟨by simp [hl], by simp [-getElem?_pos, List.getElem?_set, h0], by simp [-getElem?_pos, List.getElem?_set, h2], k8, by simp [-getElem?_pos, List.getElem?_set, h9], by simp [-getElem?_pos, List.getElem?_set, hl], by simp [-getElem?_pos, List.getElem?_set, hl], hb2, hp2, hc0⟩ ?_ ?_
  · rintro i x ρ S hx ⟨hl, h0, h2, h8, h9, h10, h11, hb, hp, hc⟩
    obtain ⟨hi, rfl⟩ := rng_get hx
    simp only [tgD]
    refine w_bodyH (n := n + 1) g1 g2 g6 (ρ := ρ.set 5 (some (.int (0 + (i : Nat))))) (s := d.toNat) (k := i) (si := d) (ki := 0 + (i : Nat)) hd (by omega) (by simp [hl]) (by simp [-getElem?_pos, List.getElem?_set, hl]) (by simp [-getElem?_pos, List.getElem?_set, h8]) (by simp [-getElem?_pos, List.getElem?_set, h9]) (by simp [-getElem?_pos, List.getElem?_set, h10])
      hp hc hpc ne sm ds (by omega) hz (by rw [List.length_map, List.length_range]; omega) ?_
    have hcl : c < S.length := (List.getElem?_eq_some_iff.mp hc).1
    refine ⟨rfl, by simp [hl], by simp [-getElem?_pos, List.getElem?_set, h0], by simp [-getElem?_pos, List.getElem?_set, h2], by simp [-getElem?_pos, List.getElem?_set, h8], by simp [-getElem?_pos, List.getElem?_set, h9], by simp [-getElem?_pos, List.getElem?_set, h10], by simp [-getElem?_pos, List.getElem?_set, h11], ?_, ?_, ?_⟩
    · obtain ⟨x, y, hx⟩ := hb
      exact ⟨x, y, by rw [List.getElem?_set_ne (Ne.symm hjc)]; exact hx⟩
    · rw [List.getElem?_set_ne (Ne.symm hpc)]
      exact hp
    · rw [List.getElem?_set_self hcl, List.range_succ, List.map_append]
      rfl
  clear hS2 hc0 hb2 hp2 k8 hb
  rintro ρ S ⟨hl, h0, h2, h8, h9, h10, h11, hb, hp, hc⟩
  rw [show (rngL 0 (d + 1).toNat).length = d.toNat + 1 by simp [rngL]; omega] at hc
  refine w_bodyE (n := n) g1 g2 g3 (s := d.toNat) (si := d) hd hl h8 h9 h10 h11 hp hc ne ds hz fun a b => q _ _ ⟨by simp [hl], by simp [-getElem?_pos, List.getElem?_set, h0], j, by simp [-getElem?_pos, List.getElem?_set, h2], hb⟩

theorem law_run {P : Prog} {n : Nat} (g1 : nget 1 P.fns = some f1) (g2 : nget 2 P.fns = some f2) (g3 : nget 3 P.fns = some f3) (g4 : nget 4 P.fns = some f4) (g5 : nget 5 P.fns = some f5) (g6 : nget 6 P.fns = some f6) (g7 : nget 7 P.fns = some f7) (ns : List Int) :
    run P (n + 4) 7 [scD ns] [] = .ok (.bl true) [] := by
  refine run_of (n := n + 3) g7 rfl ?_
  rw [f7_eq]
  have e0 : startE 14 [scD ns] = [some (scD ns), none, none, none, none, none, none, none, none, none, none, none, none, none] := rfl
  simp only [List.length_nil, e0]
  refine w_cons ?_
  obtain ⟨m, hm0, hm1, hm⟩ : ∃ m : Int, 0 ≤ m ∧ m < 1000 ∧ biD .max2 [.int 1, .int (if (ns.map D.int).length < (4 : Int) then (ns.map D.int).length else 4)] ([] : Store) = some (.int m) := by
    refine ⟨_, ?_, ?_, rfl⟩
    · split <;> split <;> omega
    · split <;> split <;> omega
  have mn : biD .min2 [.int 4, .int (ns.map D.int).length] ([] : Store) = some (.int (if (ns.map D.int).length < (4 : Int) then (ns.map D.int).length else 4)) := rfl
  have ln : biD .len [scD ns] ([] : Store) = some (.int (ns.map D.int).length) := rfl
  have bg : big62 m = true := big_small hm0 hm1
  simp only [evS, evIt, evE, evEs, List.getElem?_cons_zero, bind_ok, Bool.false_eq_true, if_false, ln, mn, hm, bg, if_true, then_ok]
  refine w_loop (fun _ ρ S => ρ.length = 14 ∧ ρ[0]? = some (some (scD ns))) ⟨rfl, rfl⟩ ?_ ?_
  · rintro i x ρ S hx ⟨hl, h0⟩
    obtain ⟨hi, rfl⟩ := rng_get hx
    simp only [tgD]
    obtain ⟨a, b, r4⟩ := run_f4 (n := n + 2) g4 ns i 42 S
    have r4' : run P (n + 3) 4 [scD ns, .int (0 + (i : Nat)), .int 42] S = .ok (.ref S.length) (S ++ [.lst [.int a, .int b]]) := by
      rw [Int.zero_add]
      exact r4
    have k0 : ∀ v, (ρ.set 1 v)[0]? = some (some (scD ns)) := fun v => by simp [-getElem?_pos, List.getElem?_set, h0]
    have k1 : ∀ v, (ρ.set 1 v)[1]? = some v := fun v => by simp [-getElem?_pos, List.getElem?_set, hl]
    refine w_cons ?_
    simp only [evS, evE, evEs, k0, k1, bind_ok, cxOf_call, Bool.false_eq_true, if_false, r4', then_ok, taD, w_nx]
    have hb : IsBox (S ++ [Cell.lst [.int a, .int b]]) S.length := ⟨a, b, app_new S _⟩
    generalize S.length = j at hb ⊢
    obtain ⟨S2, hS2⟩ : ∃ S2 : Store, S2 = S ++ [Cell.lst [.int a, .int b]] := ⟨_, rfl⟩
    rw [← hS2] at hb ⊢
    refine w_cons ?_
    have bg4 : big62 4 = true := by decide
    simp only [evS, evIt, evE, bind_ok, bg4, if_true, then_ok]
    refine w_loop (fun _ ρ S => Turn (scD ns) ρ S) ⟨by simp [hl], by simp [-getElem?_pos, List.getElem?_set, h0], j, by simp [-getElem?_pos, List.getElem?_set, hl], hb⟩ ?_ ?_
    · rintro i x ρ S hx ⟨hl, h0, j, h2, hb⟩
      obtain ⟨hi, rfl⟩ := rng_get hx
      simp only [tgD]
      exact w_bodyT (n := n) g1 g2 g3 g5 g6 ⟨by simp [hl], by simp [-getElem?_pos, List.getElem?_set, h0], j, by simp [-getElem?_pos, List.getElem?_set, h2], hb⟩ fun ρ S t => ⟨rfl, t⟩
    · rintro ρ S ⟨hl, h0, _⟩
      exact w_nil ⟨rfl, hl, h0⟩
  · rintro ρ S _
    refine w_cons ?_
    simp only [evS, evE, then_ok, w_rt]
    simp [fin, closed]
end K42

set_option Elab.async false
set_option linter.all false
set_option maxRecDepth 100000
set_option maxHeartbeats 0
set_option autoImplicit false
namespace K42
open PySem PySem.Spec PyProof.Rows L2 Ip
abbrev prg : Program := PySem.Challenge.pw_lapseseats_k42_seats_split
def top (i : Nat) : Stmt := prg.main.body.getD i (.Pass ⟨0, 0, 0, 0⟩)
def r1 : Ip.Row := ⟨1, ⟨("lacking", none), "lacking", "lacking", defArgs (top 1), defBody (top 1), defScope (top 1), [], []⟩, ["wanted", "seats"], f1⟩
def r2 : Ip.Row := ⟨2, ⟨("unserved", none), "unserved", "unserved", defArgs (top 2), defBody (top 2), defScope (top 2), [], []⟩, ["seats", "here", "wishes", "one", "other"], f2⟩
def r3 : Ip.Row := ⟨3, ⟨("best_splits", none), "best_splits", "best_splits", defArgs (top 3), defBody (top 3), defScope (top 3), [], []⟩, ["seats", "wishes", "counts", "least", "here", "count"], f3⟩
def r4 : Ip.Row := ⟨4, ⟨("_law_box", none), "_law_box", "_law_box", defArgs (top 5), defBody (top 5), defScope (top 5), [], []⟩, ["_law_script", "_law_k", "_law_own", "_law_cell", "_law_seed", "_law_one"], f4⟩
def r5 : Ip.Row := ⟨5, ⟨("_law_take", none), "_law_take", "_law_take", defArgs (top 6), defBody (top 6), defScope (top 6), [], []⟩, ["_law_box_here", "_law_limit", "_law_digit"], f5⟩
def r6 : Ip.Row := ⟨6, ⟨("_law_lacks", none), "_law_lacks", "_law_lacks", defArgs (top 7), defBody (top 7), defScope (top 7), [], []⟩, ["_law_seats", "_law_here", "_law_pair", "_law_found", "_law_wanted", "_law_part"], f6⟩
def r7 : Ip.Row := ⟨7, ⟨("law", none), "law", "law", defArgs (top 8), defBody (top 8), defScope (top 8), [], []⟩, ["_law_script", "_law_k", "_law_box_here", "_law_turn", "_law_more", "_law_here", "_law_least", "_law_due", "_law_seats", "_law_pairs", "_law_counts", "_law_kept", "_law_count", "_law_pair"], f7⟩
def tab : List Ip.Row := [r1, r2, r3, r4, r5, r6, r7]
def free : List PySem.Str := ["max", "int", "tuple", "enumerate", "min", "range", "abs", "len", "repr", "list"]
-- law: r7 at 8; loose: ["lacking", "unserved", "best_splits", "_law_box", "_law_take", "_law_lacks"]
/-! ### the rows are read rightly -/
theorem rows_ok : (tab.all fun r => rowOk (nmOf tab free) r && topRow r) = true := by decide +kernel
/-! ### the head -/
abbrev orow : PySem.W.OpenRow := PySem.W.OpenLaw.row PySem.Challenge.rw_lapseseats_k42_seats_split
abbrev hook : PySem.W.Hook := He.hookD 4 (faOf tab free) (defsOf tab)
def look (s : PySem.W.SharedT) : He.AlD := He.obsDG 4 (faOf tab free) (defsOf tab) (HandSHeadRun.getT s)
theorem look_eq (s : PySem.W.SharedT) : look s = hook.obs s.abs := He.obsDG_eq (HandSHeadRun.getT_eq s)
theorem top_run (w : World) : HandSHeadRun.RunEq orow (PySem.W.view orow.prog [8]) hook look 400 ["lacking", "unserved", "best_splits", "_law_box", "_law_take", "_law_lacks"] w := by
  intro os
  kernel_rfl
theorem law_true (ns : List Int) (h : ns.length ≤ 63) : run (progOf tab) 6 7 [scD ns] [] = .ok (.bl true) [] :=
  law_run (n := 2) (P := progOf tab) rfl rfl rfl rfl rfl rfl rfl ns
end K42
open PySem PySem.W PySem.Calls PyProof.Rows
theorem PySem.Challenge.cw_lapseseats_k42_seats_split_holds : PySem.Challenge.rw_lapseseats_k42_seats_split.Holds := by
  w_on; o_law
  refine HandSHeadRun.head_any (r := K42.orow) (q := view K42.orow.prog [8]) (H := K42.hook) (ob := K42.look) (M := 400) (loose := ["lacking", "unserved", "best_splits", "_law_box", "_law_take", "_law_lacks"]) (d := HandSHeadRun.topDef K42.orow.prog 8) (kwd := []) K42.look_eq
    (by kernel_rfl) (fun s => by kernel_rfl) K42.top_run (by kernel_rfl) (by kernel_rfl) (by kernel_rfl) (by rfl) (by first | assumption | decide +kernel) (by decide +kernel) ⟨rfl, rfl, rfl, rfl, rfl, by decide +kernel⟩ ?hw ?hc
  case hw => w_witness2
  case hc =>
    exact Ip.law_ip (l := PySem.Challenge.rw_lapseseats_k42_seats_split) (n := 63) (m := 5) (x := "_law_script") (tab := K42.tab) (free := K42.free) (r := K42.r7) rfl (by decide) (by kernel_rfl) ⟨rfl, by decide, by decide⟩ K42.rows_ok (by simp [K42.tab]) (by rfl) (by decide +kernel) (by kernel_rfl) K42.law_true

