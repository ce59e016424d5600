import PyProof.Rows.All
import Wide.All
import OpenK.AllK
import Wide.FinOn
import HandS.ForMost
import HandS.ForExc
import HandS.Deep
import HandS.Zip
import HandS.IsInst
import HandS.TupAny
import HandS.TupMul
import HandS.SortOrd
import HandS.SortInts
import HandS.Conv
import HandS.TupSets
import HandS.TupLen
import HandS.Lambda
import KE.KDictKeyed
import KE.KDictWalk
import KE.KDictList
import KE.GoesEnum
import HandS.ExcIs
import PyProof.DictUpdate
import HandS.Walk
import HandS.Defaults
import KE.KDictCopyH
import KE.KDictDisplayH
import KE.SortCalls
import PyProof.TupleOfSeq
import KE.KRevSl
import HandS.CallLocal
import HandS.NoneIn
import HandS.Style
import PyProof.ExcBaseAll.ValueError
import HandS.EndTab
import HandS.EndOwn
import PySem.Challenge.RW_onerecords_k02_groups
set_option Elab.async false
set_option linter.all false
set_option maxRecDepth 100000
set_option maxHeartbeats 4000000
/-! Lang: values, a store, a small language for the program's defs, and its interpreter. Core Lean alone. -/
namespace G11

/-- a value; ref i: the i-th object of the store -/
inductive D where
  | non | bl (b : Bool) | int (i : Int) | str (x : List Nat) | tup (xs : List D) | lst (xs : List D) | ref (i : Nat) | fn (f : Nat) | scl (ns : List Int)
deriving Inhabited

/-- a dict's key -/
inductive KY where
  | i (n : Int) | s (x : List Nat)
deriving DecidableEq

abbrev LL := List (List Int)

/-- an object of the store -/
inductive O where
  | lst (xs : List D)
  | dk (kvs : List (KY × D))
  | dt (kvs : List (LL × D))
  | fz (kvs : List (LL × D))
  | ins (c : Nat) (fs : List (Nat × D))
deriving Inhabited

abbrev Store := List O
abbrev EnvD := List (Option D)

inductive R (α : Type) where
  | ok (a : α) (S : Store)
  | exc (c : Nat) (S : Store)
  | bad
abbrev M (α : Type) := Store → R α

@[reducible] def M.pure {α : Type} (a : α) : M α := fun S => .ok a S
@[reducible] def M.bind {α β : Type} (m : M α) (f : α → M β) : M β := fun S => match m S with
  | .ok a S' => f a S'
  | .exc c S' => .exc c S'
  | .bad => .bad
@[reducible] def M.bad {α : Type} : M α := fun _ => .bad
/-- a value or no answer -/
@[reducible] def M.of {α : Type} (o : Option α) : M α := fun S => match o with
  | some a => .ok a S
  | none => .bad

/-! ### python's == on data; no refs, depth at most n -/
mutual
def okD : Nat → D → Bool
  | _, .non => true
  | _, .bl _ => true
  | _, .int _ => true
  | _, .str x => x.all fun c => decide (c < 128)
  | 0, .tup _ => false
  | 0, .lst _ => false
  | n + 1, .tup xs => okDs n xs
  | n + 1, .lst xs => okDs n xs
  | _, .ref _ => false
  | _, .fn _ => false
  | _, .scl _ => false
def okDs : Nat → List D → Bool
  | _, [] => true
  | n, x :: xs => okD n x && okDs n xs
end

mutual
def deq : D → D → Bool
  | .non, .non => true
  | .bl a, .bl b => a == b
  | .bl a, .int j => (if a then 1 else 0) == j
  | .int i, .bl b => i == (if b then 1 else 0)
  | .int i, .int j => i == j
  | .str x, .str y => x == y
  | .lst xs, .lst ys => deqs xs ys
  | .tup xs, .tup ys => deqs xs ys
  | _, _ => false
def deqs : List D → List D → Bool
  | [], [] => true
  | x :: xs, y :: ys => deq x y && deqs xs ys
  | [], _ :: _ => false
  | _ :: _, [] => false
end

/-! ### order -/
def lexL : List Int → List Int → Bool
  | [], [] => false
  | [], _ :: _ => true
  | _ :: _, [] => false
  | x :: xs, y :: ys => if x = y then lexL xs ys else decide (x < y)
def lexLL : LL → LL → Bool
  | [], [] => false
  | [], _ :: _ => true
  | _ :: _, [] => false
  | x :: xs, y :: ys => if x = y then lexLL xs ys else lexL x y

def asInt : D → Option Int
  | .int i => some i
  | _ => none
def asInts : List D → Option (List Int)
  | [] => some []
  | x :: xs => match asInt x, asInts xs with
    | some i, some is => some (i :: is)
    | _, _ => none
def asTup : D → Option (List Int)
  | .tup xs => asInts xs
  | _ => none
def asTups : List D → Option LL
  | [] => some []
  | x :: xs => match asTup x, asTups xs with
    | some i, some is => some (i :: is)
    | _, _ => none
def asTT : D → Option LL
  | .tup xs => asTups xs
  | _ => none
def tupI (ns : List Int) : D := .tup (ns.map .int)
def tupT (ls : LL) : D := .tup (ls.map tupI)

/-- the kinds of things that are sorted -/
inductive Kd where
  | i | t | tt | p
deriving DecidableEq
def keyOf : Kd → D → Option LL
  | .i, .int n => some [[n]]
  | .t, .tup (x :: xs) => (asInts (x :: xs)).map fun l => [l]
  | .tt, .tup (x :: xs) => asTups (x :: xs)
  | .p, .tup [.int n, y] => (asTup y).map fun l => [[n], l]
  | _, _ => none
def ofKey : Kd → LL → D
  | .i, [[n]] => .int n
  | .t, [l] => tupI l
  | .tt, ls => tupT ls
  | .p, [[n], l] => .tup [.int n, tupI l]
  | _, _ => .non
def keysOf (k : Kd) : List D → Option (List LL)
  | [] => some []
  | x :: xs => match keyOf k x, keysOf k xs with
    | some a, some as => some (a :: as)
    | _, _ => none
def insLL (x : LL) : List LL → List LL
  | [] => [x]
  | y :: ys => if lexLL x y then x :: y :: ys else y :: insLL x ys
def sortLL : List LL → List LL
  | [] => []
  | x :: xs => insLL x (sortLL xs)
def kindOf : List D → Option (Kd × List LL)
  | xs => match keysOf .i xs with
    | some ks => some (.i, ks)
    | none => match keysOf .t xs with
      | some ks => some (.t, ks)
      | none => match keysOf .tt xs with
        | some ks => some (.tt, ks)
        | none => (keysOf .p xs).map fun ks => (.p, ks)
def lim : Nat := 1000000
def sortD (xs : List D) : Option (List D) := (kindOf xs).map fun p => (sortLL p.2).map (ofKey p.1)
/-- each once -/
def dedup : List LL → List LL
  | [] => []
  | x :: xs => if xs.contains x then dedup xs else x :: dedup xs
def sortSet (xs : List D) : Option (List D) := (kindOf xs).bind fun p =>
  if xs.length < 64 && (p.1 == .i || p.1 == .t) then some ((sortLL (dedup p.2)).map (ofKey p.1)) else none

/-! ### the language -/
inductive Bop where | add | sub | mul | fdiv | mod | pow
deriving DecidableEq
inductive Cop where | eq | ne | lt | le | gt | ge | isin | notin
deriving DecidableEq
inductive Ty where | int | bool | tuple | str
deriving DecidableEq
inductive Bi where | len | all | any | sorted | tuple | list | isi (t : Ty)
deriving DecidableEq
inductive Mt where | append | extend | pop | get | index
deriving DecidableEq
inductive Tg where | nm (i : Nat) | tp (is : List Nat)
deriving DecidableEq

mutual
inductive E where
  | var (i : Nat) | glb (g : Nat)
  | non | bl (b : Bool) | int (i : Int) | str (x : List Nat)
  | tup (es : Es) | lst (es : Es) | newL (es : Es) | newK (kvs : Es) | newT (kvs : Es)
  | newS (a b c d e f : List Nat)
  | bin (op : Bop) (a b : E) | neg (a : E)
  | cmp (op : Cop) (a b : E) | isN (a : E) | notN (a : E)
  | chain (op op' : Cop) (a b c : E)
  | and (es : Es) | or (es : Es) | not (a : E)
  | ife (c a b : E) | ifL (i : Nat) (a b : E)
  | idx (a i : E) | sl (a : E) (lo hi : Oe) | rev (a : E)
  | call (f : Nat) (es : Es) | callK (f : Nat) (es ks : Es) | fnv (f : Nat) | callV (r i : Nat) (es : Es) | cat (a b : E)
  | bi (b : Bi) (e : E)
  | sset (e : E)
  | vals (e : E)
  | meth (m : Mt) (o : E) (es : Es)
  | lc (own : List Nat) (tg : Tg) (sr : Sr) (cs : Es) (elt : E)
  | lcD (own : List Nat) (tg : Tg) (e : E) (cs : Es) (elt : E)
  | tupR (sr : Sr) | lstR (sr : Sr)
inductive Es where
  | nil | cons (e : E) (es : Es)
inductive Oe where
  | no | some (e : E)
inductive Sr where
  | val (e : E) | rng (e : E) | rng2 (a b : E) | enum (e : E) | zip (a b : E)
end

mutual
inductive St where
  | set (i : Nat) (e : E)
  | unp (is : List Nat) (e : E)
  | unpL (is : List Nat) (e : E)
  | par (is : List Nat) (es : Es)
  | setI (o i v : E)
  | aug (i : Nat) (e : E)
  | ife (c : E) (a b : Sts)
  | for (tg : Tg) (sr : Sr) (b : Sts)
  | whl (c : E) (b : Sts)
  | ret (e : E)
  | ex (e : E)
  | cont | pass
  | raise (c : Nat)
inductive Sts where
  | nil | cons (s : St) (ss : Sts)
end

inductive Fl where
  | nx | ret (d : D) | cont

/-! ### operations on values -/
def bound (i : Int) : Bool := decide (-(2 ^ 64) < i) && decide (i < 2 ^ 64)
def doBin : Bop → D → D → Option D
  | .add, .int i, .int j => some (.int (i + j))
  | .add, .tup xs, .tup ys => if xs.length + ys.length ≤ lim then some (.tup (xs ++ ys)) else none
  | .add, .lst xs, .lst ys => if xs.length + ys.length ≤ lim then some (.lst (xs ++ ys)) else none
  | .sub, .int i, .int j => some (.int (i - j))
  | .mul, .int i, .int j => if bound i || bound j then some (.int (i * j)) else none
  | .mul, .lst xs, .int k => if decide (0 ≤ k) && decide (k ≤ 1000) && decide (xs.length ≤ 100) then some (.lst (List.replicate k.toNat xs).flatten) else none
  | .mul, .tup xs, .int k => if !xs.isEmpty && decide (1 ≤ k) && decide (k ≤ 1000) && decide (xs.length ≤ 1000) then some (.tup (List.replicate k.toNat xs).flatten) else none
  | .fdiv, .int i, .int j => if decide (0 < j) && decide (j < 1073741824) then some (.int (i / j)) else none
  | .mod, .int i, .int j => if decide (0 < j) then some (.int (i % j)) else none
  | .pow, .int i, .int j => if decide (0 ≤ j) && decide (j ≤ 1000) && bound i then some (.int (i ^ j.toNat)) else none
  | _, _, _ => none

def anyEq (x : D) : List D → Bool
  | [] => false
  | y :: ys => deq y x || anyEq x ys
def ltD : D → D → Option Bool
  | .int i, .int j => some (decide (i < j))
  | .tup xs, .tup ys => match asInts xs, asInts ys with
    | some a, some b => some (lexL a b)
    | _, _ => none
  | _, _ => none
def doCmp : Cop → D → D → Option Bool
  | .eq, x, y => if okD 60 x && okD 60 y then some (deq x y) else none
  | .ne, x, y => if okD 60 x && okD 60 y then some (!deq x y) else none
  | .lt, x, y => ltD x y
  | .le, .int i, .int j => some (decide (i ≤ j))
  | .gt, .int i, .int j => some (decide (j < i))
  | .ge, .int i, .int j => some (decide (j ≤ i))
  | .isin, x, .tup ys => if okD 60 x && okDs 60 ys then some (anyEq x ys) else none
  | .isin, x, .lst ys => if okD 60 x && okDs 60 ys then some (anyEq x ys) else none
  | .notin, x, .tup ys => if okD 60 x && okDs 60 ys then some (!anyEq x ys) else none
  | .notin, x, .lst ys => if okD 60 x && okDs 60 ys then some (!anyEq x ys) else none
  | _, _, _ => none

def asKY : D → Option KY
  | .int i => some (.i i)
  | .str x => some (.s x)
  | _ => none
/-- what stands under a partition -/
def lkT : List (LL × D) → LL → Option D
  | [], _ => none
  | (a, b) :: r, k => if k = a then some b else lkT r k
def putT (kvs : List (LL × D)) (k : LL) (v : D) : List (LL × D) :=
  if (lkT kvs k).isSome then kvs.map fun p => if p.1 = k then (p.1, v) else p else kvs ++ [(k, v)]
def putA {κ : Type} [DecidableEq κ] (kvs : List (κ × D)) (k : κ) (v : D) : List (κ × D) :=
  if (kvs.lookup k).isSome then kvs.map fun p => if p.1 = k then (p.1, v) else p else kvs ++ [(k, v)]

/-- k in d, d an object -/
def hasK (S : Store) (i : Nat) (x : D) : Option Bool := match S[i]? with
  | some (.dk kvs) => (asKY x).map fun k => (kvs.lookup k).isSome
  | some (.dt kvs) => (asTT x).map fun k => (lkT kvs k).isSome
  | some (.fz kvs) => (asTT x).map fun k => (lkT kvs k).isSome
  | some (.lst ys) => if okD 60 x && okDs 60 ys then some (anyEq x ys) else none
  | _ => none
/-- a list of the store, as it is -/
def derefL (S : Store) : D → D
  | .ref i => match S[i]? with
    | some (.lst xs) => .lst xs
    | _ => .ref i
  | d => d
def doCmpS (op : Cop) (x y : D) : M D := fun S => match op, y with
  | .eq, y => match doCmp .eq (derefL S x) (derefL S y) with
    | some b => .ok (.bl b) S
    | none => .bad
  | .ne, y => match doCmp .ne (derefL S x) (derefL S y) with
    | some b => .ok (.bl b) S
    | none => .bad
  | .isin, .ref i => match hasK S i x with
    | some b => .ok (.bl b) S
    | none => .bad
  | .notin, .ref i => match hasK S i x with
    | some b => .ok (.bl (!b)) S
    | none => .bad
  | _, _ => match doCmp op x y with
    | some b => .ok (.bl b) S
    | none => .bad

/-- python's index into n things -/
def ixI (n : Nat) (i : Int) : Option Nat := if 0 ≤ i then (if i < n then some i.toNat else none) else if -(n : Int) ≤ i then some (i + n).toNat else none
def nth (xs : List D) (i : Int) : Option D := (ixI xs.length i).bind fun j => xs[j]?
def getK (S : Store) (i : Nat) (x : D) : Option D := match S[i]? with
  | some (.dk kvs) => (asKY x).bind fun k => kvs.lookup k
  | some (.dt kvs) => (asTT x).bind fun k => lkT kvs k
  | some (.fz kvs) => (asTT x).bind fun k => lkT kvs k
  | some (.lst ys) => match x with
    | .int j => nth ys j
    | _ => none
  | _ => none
def doIdx (a x : D) : M D := fun S => match a with
  | .tup xs => match x with
    | .int j => match nth xs j with
      | some d => .ok d S
      | none => .bad
    | _ => .bad
  | .lst xs => match x with
    | .int j => match nth xs j with
      | some d => .ok d S
      | none => .bad
    | _ => .bad
  | .ref i => match getK S i x with
    | some d => .ok d S
    | none => .bad
  | .scl ns => match x with
    | .int j => match nth (ns.map .int) j with
      | some d => .ok d S
      | none => .bad
    | _ => .bad
  | _ => .bad

def sIx (n d : Nat) : Option Int → Nat
  | none => d
  | some i => if i < 0 then (i + n).toNat else min i.toNat n
def cutD (xs : List D) (lo hi : Option Int) : List D := (xs.drop (sIx xs.length 0 lo)).take (sIx xs.length xs.length hi - sIx xs.length 0 lo)
def doSl (a : D) (lo hi : Option Int) : Option D := match a with
  | .tup xs => some (.tup (cutD xs lo hi))
  | .lst xs => some (.lst (cutD xs lo hi))
  | _ => none

def bools : List D → Option (List Bool)
  | [] => some []
  | .bl b :: xs => (bools xs).map fun bs => b :: bs
  | _ :: _ => none
def isiD : Ty → D → Option Bool
  | .int, .int _ => some true
  | .int, .bl _ => some true
  | .int, .non => some false
  | .int, .str _ => some false
  | .int, .tup _ => some false
  | .int, .lst _ => some false
  | .bool, .bl _ => some true
  | .bool, .int _ => some false
  | .bool, .non => some false
  | .bool, .str _ => some false
  | .bool, .tup _ => some false
  | .bool, .lst _ => some false
  | .tuple, .tup _ => some true
  | .tuple, .bl _ => some false
  | .tuple, .int _ => some false
  | .tuple, .non => some false
  | .tuple, .str _ => some false
  | .tuple, .lst _ => some false
  | .str, .str _ => some true
  | .str, .bl _ => some false
  | .str, .int _ => some false
  | .str, .non => some false
  | .str, .tup _ => some false
  | .str, .lst _ => some false
  | _, _ => none
def doBi (b : Bi) (x : D) : M D := fun S => match b with
  | .len => match x with
    | .tup xs => .ok (.int xs.length) S
    | .lst xs => .ok (.int xs.length) S
    | .ref i => match S[i]? with
      | some (.lst xs) => .ok (.int xs.length) S
      | some (.dt kvs) => .ok (.int kvs.length) S
      | _ => .bad
    | .scl xs => .ok (.int xs.length) S
    | _ => .bad
  | .all => match x with
    | .lst xs => match bools xs with
      | some bs => .ok (.bl (bs.all id)) S
      | none => .bad
    | _ => .bad
  | .any => match x with
    | .lst xs => match bools xs with
      | some bs => .ok (.bl (bs.any id)) S
      | none => .bad
    | _ => .bad
  | .sorted => match x with
    | .tup xs => match sortD xs with
      | some ys => .ok (.lst ys) S
      | none => .bad
    | .lst xs => match sortD xs with
      | some ys => .ok (.lst ys) S
      | none => .bad
    | .ref i => match S[i]? with
      | some (.lst xs) => match sortD xs with
        | some ys => .ok (.lst ys) S
        | none => .bad
      | some (.dt kvs) => match sortD (kvs.map fun p => tupT p.1) with
        | some ys => .ok (.lst ys) S
        | none => .bad
      | _ => .bad
    | _ => .bad
  | .tuple => match x with
    | .tup xs => .ok (.tup xs) S
    | .lst xs => .ok (.tup xs) S
    | .ref i => match S[i]? with
      | some (.lst xs) => .ok (.tup xs) S
      | _ => .bad
    | _ => .bad
  | .list => match x with
    | .tup xs => .ok (.lst xs) S
    | .lst xs => .ok (.lst xs) S
    | .ref i => match S[i]? with
      | some (.lst xs) => .ok (.lst xs) S
      | _ => .bad
    | _ => .bad
  | .isi t => match isiD t x with
    | some r => .ok (.bl r) S
    | none => .bad

def doSset (x : D) : M D := fun S => match x with
  | .lst xs => match sortSet xs with
    | some ys => .ok (.lst ys) S
    | none => .bad
  | .tup xs => match sortSet xs with
    | some ys => .ok (.lst ys) S
    | none => .bad
  | .ref i => match S[i]? with
    | some (.lst xs) => match sortSet xs with
      | some ys => .ok (.lst ys) S
      | none => .bad
    | _ => .bad
  | _ => .bad
def doVals (x : D) : M D := fun S => match x with
  | .ref i => match S[i]? with
    | some (.dt kvs) => .ok (.lst (kvs.map (·.2))) S
    | _ => .bad
  | _ => .bad
def idxOf (x : D) : List D → Option Nat
  | [] => none
  | y :: ys => if deq y x then some 0 else (idxOf x ys).map (· + 1)
def doMeth (m : Mt) (o : D) (as : List D) : M D := fun S => match m, o, as with
  | .append, .ref i, [x] => match S[i]? with
    | some (.lst xs) => if xs.length < lim then .ok .non (S.set i (.lst (xs ++ [x]))) else .bad
    | _ => .bad
  | .extend, .ref i, [.lst ys] => match S[i]? with
    | some (.lst xs) => if xs.length + ys.length ≤ lim then .ok .non (S.set i (.lst (xs ++ ys))) else .bad
    | _ => .bad
  | .extend, .ref i, [.tup ys] => match S[i]? with
    | some (.lst xs) => if xs.length + ys.length ≤ lim then .ok .non (S.set i (.lst (xs ++ ys))) else .bad
    | _ => .bad
  | .pop, .ref i, [] => match S[i]? with
    | some (.lst xs) => match xs[xs.length - 1]? with
      | some y => .ok y (S.set i (.lst xs.dropLast))
      | none => .bad
    | _ => .bad
  | .get, .ref i, [k, z] => match S[i]? with
    | some (.dk kvs) => match asKY k with
      | some k => .ok ((kvs.lookup k).getD z) S
      | none => .bad
    | some (.dt kvs) => match asTT k with
      | some k => .ok ((lkT kvs k).getD z) S
      | none => .bad
    | _ => .bad
  | .index, .lst xs, [x] => if okD 60 x && okDs 60 xs then match idxOf x xs with
      | some j => .ok (.int j) S
      | none => .bad
    else .bad
  | .index, .ref i, [x] => match S[i]? with
    | some (.lst xs) => if okD 60 x && okDs 60 xs then match idxOf x xs with
        | some j => .ok (.int j) S
        | none => .bad
      else .bad
    | _ => .bad
  | _, _, _ => .bad

/-- of the method's type, ahead of its arguments -/
def mtOk (m : Mt) (x : D) (S : Store) : Bool := match x with
  | .ref i => match S[i]? with
    | some (.lst _) => m != .get
    | some (.dk _) => m == .get
    | some (.dt _) => m == .get
    | _ => false
  | .lst _ => m == .index
  | _ => false
def setItem (o i v : D) : M Unit := fun S => match o with
  | .ref a => match S[a]? with
    | some (.dk kvs) => match asKY i with
      | some k => if kvs.length < lim then .ok () (S.set a (.dk (putA kvs k v))) else .bad
      | none => .bad
    | some (.dt kvs) => match asTT i with
      | some k => if kvs.length < lim then .ok () (S.set a (.dt (putT kvs k v))) else .bad
      | none => .bad
    | _ => .bad
  | _ => .bad

/-! ### environments -/
def wipeD (env : EnvD) : List Nat → EnvD
  | [] => env
  | v :: vs => (wipeD env vs).set v none
def setAll (env : EnvD) : List Nat → List D → Option EnvD
  | [], [] => some env
  | i :: is, d :: ds => setAll (env.set i (some d)) is ds
  | _, _ => none
def bindTg (env : EnvD) : Tg → D → Option EnvD
  | .nm i, d => some (env.set i (some d))
  | .tp is, .tup ds => setAll env is ds
  | _, _ => none

def enumD : Nat → List D → List D
  | _, [] => []
  | n, x :: xs => .tup [.int n, x] :: enumD (n + 1) xs
def zipD : List D → List D → List D
  | x :: xs, y :: ys => .tup [x, y] :: zipD xs ys
  | _, _ => []
def rangeD (lo : Int) : Nat → List D
  | 0 => []
  | n + 1 => .int lo :: rangeD (lo + 1) n
def seqD : D → Option (List D)
  | .tup xs => some xs
  | .lst xs => some xs
  | _ => none
def lcM (f : D → M (Option D)) : List D → M (List D)
  | [] => fun S => .ok [] S
  | x :: xs => fun S => match f x S with
    | .ok r S' => match lcM f xs S' with
      | .ok ys S'' => .ok (match r with
        | some y => y :: ys
        | none => ys) S''
      | .exc c S'' => .exc c S''
      | .bad => .bad
    | .exc c S' => .exc c S'
    | .bad => .bad
def noExc {α : Type} (r : R α) : R α := match r with
  | .ok a S => .ok a S
  | _ => .bad

/-- a list of the store and a list -/
def doCat (x y : D) : M D := fun S => match x, y with
  | .ref i, .lst ys => match S[i]? with
    | some (.lst xs) => if xs.length + ys.length ≤ lim then .ok (.lst (xs ++ ys)) S else .bad
    | _ => .bad
  | _, _ => .bad
section
variable (Γ : Nat → List D → M D) (G : List D)
mutual
def ev : E → EnvD → M D
  | .var i, env => fun S => match env[i]? with
    | some (some d) => .ok d S
    | _ => .bad
  | .glb g, _ => fun S => match G[g]? with
    | some d => .ok d S
    | none => .bad
  | .non, _ => fun S => .ok .non S
  | .bl b, _ => fun S => .ok (.bl b) S
  | .int i, _ => fun S => .ok (.int i) S
  | .str x, _ => fun S => .ok (.str x) S
  | .tup es, env => fun S => match evs es env S with
    | .ok ds S' => if ds.length ≤ lim then .ok (.tup ds) S' else .bad
    | .exc c S' => .exc c S'
    | .bad => .bad
  | .lst es, env => fun S => match evs es env S with
    | .ok ds S' => if ds.length ≤ lim then .ok (.lst ds) S' else .bad
    | .exc c S' => .exc c S'
    | .bad => .bad
  | .newL es, env => fun S => match evs es env S with
    | .ok ds S' => if ds.length ≤ lim then .ok (.ref S'.length) (S' ++ [.lst ds]) else .bad
    | .exc c S' => .exc c S'
    | .bad => .bad
  | .newK kvs, env => fun S => match evs kvs env S with
    | .ok [] S' => .ok (.ref S'.length) (S' ++ [.dk []])
    | .ok [k, v] S' => match asKY k with
      | some k => .ok (.ref S'.length) (S' ++ [.dk [(k, v)]])
      | none => .bad
    | .ok [k, v, k2, v2] S' => match asKY k, asKY k2 with
      | some k, some k2 => if k = k2 then .bad else .ok (.ref S'.length) (S' ++ [.dk [(k, v), (k2, v2)]])
      | _, _ => .bad
    | .ok _ _ => .bad
    | .exc c S' => .exc c S'
    | .bad => .bad
  | .newT kvs, env => fun S => match evs kvs env S with
    | .ok [] S' => .ok (.ref S'.length) (S' ++ [.dt []])
    | .ok [k, v] S' => match asTT k with
      | some k => .ok (.ref S'.length) (S' ++ [.dt [(k, v)]])
      | none => .bad
    | .ok _ _ => .bad
    | .exc c S' => .exc c S'
    | .bad => .bad
  | .newS a b c d e f, _ => fun S => if a = c ∨ a = e ∨ c = e then .bad else .ok (.ref S.length) (S ++ [.dk [(.s a, .str b), (.s c, .str d), (.s e, .str f)]])
  | .bin op a b, env => M.bind (ev a env) fun x => M.bind (ev b env) fun y => M.of (doBin op x y)
  | .neg a, env => M.bind (ev a env) fun x => match x with
    | .int i => M.pure (.int (-i))
    | _ => M.bad
  | .cmp op a b, env => M.bind (ev a env) fun x => M.bind (ev b env) fun y => doCmpS op x y
  | .isN a, env => M.bind (ev a env) fun x => match x with
    | .non => M.pure (.bl true)
    | _ => M.pure (.bl false)
  | .notN a, env => M.bind (ev a env) fun x => match x with
    | .non => M.pure (.bl false)
    | _ => M.pure (.bl true)
  | .chain op op' a b c, env => M.bind (ev a env) fun x => M.bind (ev b env) fun y => M.bind (doCmpS op x y) fun r => match r with
    | .bl true => M.bind (ev c env) fun z => doCmpS op' y z
    | .bl false => M.pure (.bl false)
    | _ => M.bad
  | .and es, env => evAnd es env
  | .or es, env => evOr es env
  | .not a, env => M.bind (ev a env) fun x => match x with
    | .bl b => M.pure (.bl (!b))
    | _ => M.bad
  | .ife c a b, env => M.bind (ev c env) fun x => match x with
    | .bl true => ev a env
    | .bl false => ev b env
    | _ => M.bad
  | .ifL i a b, env => fun S => match env[i]? with
    | some (some (.scl ns)) => if ns.isEmpty then ev b env S else ev a env S
    | _ => .bad
  | .idx a i, env => M.bind (ev a env) fun x => M.bind (ev i env) fun y => doIdx x y
  | .sl a lo hi, env => M.bind (ev a env) fun x => M.bind (evO lo env) fun l => M.bind (evO hi env) fun h => M.of (doSl x l h)
  | .rev a, env => M.bind (ev a env) fun x => match x with
    | .tup xs => M.pure (.tup xs.reverse)
    | _ => M.bad
  | .call f es, env => M.bind (evs es env) fun ds => Γ f ds
  | .callK f es ks, env => M.bind (evs es env) fun ds => M.bind (evs ks env) fun cs => Γ f (ds ++ cs)
  | .fnv f, _ => fun S => .ok (.fn f) S
  | .callV r i es, env => fun S => match env[i]? with
    | some (some (.fn f)) => M.bind (evs es env) (fun ds => Γ (r + f) ds) S
    | _ => .bad
  | .cat a b, env => M.bind (ev a env) fun x => M.bind (ev b env) fun y => doCat x y
  | .bi b e, env => M.bind (ev e env) fun x => doBi b x
  | .sset e, env => M.bind (ev e env) fun x => doSset x
  | .vals e, env => M.bind (ev e env) fun x => doVals x
  | .meth m o es, env => M.bind (ev o env) fun x S => if mtOk m x S then M.bind (evs es env) (fun ds => doMeth m x ds) S else .bad
  | .lc own tg sr cs elt, env => M.bind (evSr sr env) fun xs => fun S =>
    match noExc (lcM (fun x => match bindTg (wipeD env own) tg x with
      | none => M.bad
      | some env' => M.bind (evC cs env') fun b => if b then M.bind (ev elt env') fun y => M.pure (some y) else M.pure none) xs S) with
    | .ok ys S' => .ok (.lst ys) S'
    | .exc c S' => .exc c S'
    | .bad => .bad
  | .lcD own tg e cs elt, env => M.bind (ev e env) fun x => fun S => match x with
    | .ref i => match S[i]? with
      | some (.dt kvs) => match noExc (lcM (fun x => match bindTg (wipeD env own) tg x with
          | none => M.bad
          | some env' => M.bind (evC cs env') fun b => if b then M.bind (ev elt env') fun y => M.pure (some y) else M.pure none) (kvs.map fun p => tupT p.1) (S.set i (.fz kvs))) with
        | .ok ys S' => .ok (.lst ys) (S'.set i (.dt kvs))
        | .exc c S' => .exc c S'
        | .bad => .bad
      | _ => .bad
    | _ => .bad
  | .tupR sr, env => M.bind (evSr sr env) fun xs => M.pure (.tup xs)
  | .lstR sr, env => M.bind (evSr sr env) fun xs => M.pure (.lst xs)
def evs : Es → EnvD → M (List D)
  | .nil, _ => fun S => .ok [] S
  | .cons e es, env => M.bind (ev e env) fun x => M.bind (evs es env) fun xs => M.pure (x :: xs)
def evO : Oe → EnvD → M (Option Int)
  | .no, _ => fun S => .ok none S
  | .some e, env => M.bind (ev e env) fun x => match x with
    | .int i => M.pure (some i)
    | _ => M.bad
def evC : Es → EnvD → M Bool
  | .nil, _ => fun S => .ok true S
  | .cons e .nil, env => M.bind (ev e env) fun x => match x with
    | .bl b => M.pure b
    | _ => M.bad
  | .cons _ (.cons _ _), _ => M.bad
def evAnd : Es → EnvD → M D
  | .nil, _ => M.bad
  | .cons e .nil, env => M.bind (ev e env) fun x => match x with
    | .bl b => M.pure (.bl b)
    | _ => M.bad
  | .cons e (.cons e' es), env => M.bind (ev e env) fun x => match x with
    | .bl true => evAnd (.cons e' es) env
    | .bl false => M.pure (.bl false)
    | _ => M.bad
def evOr : Es → EnvD → M D
  | .nil, _ => M.bad
  | .cons e .nil, env => M.bind (ev e env) fun x => match x with
    | .bl b => M.pure (.bl b)
    | _ => M.bad
  | .cons e (.cons e' es), env => M.bind (ev e env) fun x => match x with
    | .bl false => evOr (.cons e' es) env
    | .bl true => M.pure (.bl true)
    | _ => M.bad
def evSr : Sr → EnvD → M (List D)
  | .val e, env => M.bind (ev e env) fun x => M.of (seqD x)
  | .rng e, env => M.bind (ev e env) fun x => match x with
    | .int n => if decide (-1000000 ≤ n) && decide (n ≤ 1000000) then M.pure (rangeD 0 n.toNat) else M.bad
    | _ => M.bad
  | .rng2 a b, env => M.bind (ev a env) fun x => M.bind (ev b env) fun y => match x, y with
    | .int lo, .int hi => if decide (0 ≤ lo) && decide (lo ≤ 1000000) && decide (-1000000 ≤ hi) && decide (hi ≤ 1000000) then M.pure (rangeD lo (hi - lo).toNat) else M.bad
    | _, _ => M.bad
  | .enum e, env => M.bind (ev e env) fun x => match x with
    | .tup xs => M.pure (enumD 0 xs)
    | _ => M.bad
  | .zip a b, env => M.bind (ev a env) fun x => M.bind (ev b env) fun y => match x, y with
    | .tup xs, .tup ys => M.pure (zipD xs ys)
    | _, _ => M.bad
end

def forM (f : D → EnvD → M (Fl × EnvD)) : List D → EnvD → M (Fl × EnvD)
  | [], env => fun S => .ok (.nx, env) S
  | x :: xs, env => fun S => match f x env S with
    | .ok (.nx, env') S' => forM f xs env' S'
    | .ok (.cont, env') S' => forM f xs env' S'
    | .ok (.ret d, env') S' => .ok (.ret d, env') S'
    | .exc c S' => .exc c S'
    | .bad => .bad
def whlM (c : EnvD → M Bool) (f : EnvD → M (Fl × EnvD)) : Nat → EnvD → M (Fl × EnvD)
  | 0, _ => fun _ => .bad
  | n + 1, env => fun S => match c env S with
    | .ok true S1 => match f env S1 with
      | .ok (.nx, env') S' => whlM c f n env' S'
      | .ok (.cont, env') S' => whlM c f n env' S'
      | .ok (.ret d, env') S' => .ok (.ret d, env') S'
      | .exc c S' => .exc c S'
      | .bad => .bad
    | .ok false S1 => .ok (.nx, env) S1
    | .exc c S1 => .exc c S1
    | .bad => .bad
def fuel : Nat := 2 ^ 64

mutual
def ex : St → EnvD → M (Fl × EnvD)
  | .set i e, env => M.bind (ev Γ G e env) fun d => M.pure (.nx, env.set i (some d))
  | .unp is e, env => M.bind (ev Γ G e env) fun d => match d with
    | .tup ds => match setAll env is ds with
      | some env' => M.pure (.nx, env')
      | none => M.bad
    | _ => M.bad
  | .unpL is e, env => M.bind (ev Γ G e env) fun d => match d with
    | .lst ds => match setAll env is ds with
      | some env' => M.pure (.nx, env')
      | none => M.bad
    | _ => M.bad
  | .par is es, env => M.bind (evs Γ G es env) fun ds => match setAll env is ds with
    | some env' => M.pure (.nx, env')
    | none => M.bad
  | .setI o i v, env => M.bind (ev Γ G v env) fun x => M.bind (ev Γ G o env) fun a => M.bind (ev Γ G i env) fun k => M.bind (setItem a k x) fun _ => M.pure (.nx, env)
  | .aug i e, env => fun S => match env[i]? with
    | some (some (.int n)) => match ev Γ G e env S with
      | .ok (.int m) S' => .ok (.nx, env.set i (some (.int (n + m)))) S'
      | .ok _ _ => .bad
      | .exc c S' => .exc c S'
      | .bad => .bad
    | _ => .bad
  | .ife c a b, env => M.bind (ev Γ G c env) fun x => match x with
    | .bl true => exs a env
    | .bl false => exs b env
    | _ => M.bad
  | .for tg sr b, env => M.bind (evSr Γ G sr env) fun xs => forM (fun x env' => match bindTg env' tg x with
    | none => M.bad
    | some env2 => exs b env2) xs env
  | .whl c b, env => whlM (fun env' => M.bind (ev Γ G c env') fun x => match x with
    | .bl b => M.pure b
    | _ => M.bad) (fun env' => exs b env') fuel env
  | .ret e, env => M.bind (ev Γ G e env) fun d => M.pure (.ret d, env)
  | .ex e, env => M.bind (ev Γ G e env) fun _ => M.pure (.nx, env)
  | .cont, env => M.pure (.cont, env)
  | .pass, env => M.pure (.nx, env)
  | .raise c, _ => fun S => .exc c S
def exs : Sts → EnvD → M (Fl × EnvD)
  | .nil, env => fun S => .ok (.nx, env) S
  | .cons s ss, env => fun S => match ex s env S with
    | .ok (.nx, env') S' => exs ss env' S'
    | .ok (f, env') S' => .ok (f, env') S'
    | .exc c S' => .exc c S'
    | .bad => .bad
end

/-- a def: how many names, how many parameters; pur: it is run over a store of its own and hands back data -/
structure Fn where
  names : Nat
  pars : Nat
  pur : Bool
  body : Sts

def startD (n : Nat) (ds : List D) : EnvD := ds.map some ++ List.replicate (n - ds.length) none
def runBody (f : Fn) (ds : List D) : M D := fun S =>
  if ds.length = f.pars then match exs Γ G f.body (startD f.names ds) S with
    | .ok (.nx, _) S' => .ok .non S'
    | .ok (.ret d, _) S' => .ok d S'
    | .ok (.cont, _) _ => .bad
    | .exc c S' => .exc c S'
    | .bad => .bad
  else .bad
end

mutual
/-- data without refs -/
def dat : D → Bool
  | .tup xs => dats xs
  | .lst xs => dats xs
  | .ref _ => false
  | .fn _ => false
  | _ => true
def dats : List D → Bool
  | [] => true
  | x :: xs => dat x && dats xs
end
def freeze (S : Store) : D → Option D
  | .ref i => match S[i]? with
    | some (.lst xs) => if dats xs then some (.lst xs) else none
    | _ => none
  | d => if dat d then some d else none

/-- the words of _law_result for the classes of exceptions, by number -/
def wordC : Nat → Option (List Nat)
  | 1 => some [114, 101, 99, 111, 114, 100, 115]
  | 2 => some [114, 117, 108, 101, 115]
  | 3 => some [103, 114, 111, 117, 112]
  | 4 => some [114, 117, 110]
  | 5 => some [112, 97, 114, 116, 105, 116, 105, 111, 110]
  | 6 => some [110, 117, 109, 98, 101, 114]
  | 7 => some [114, 101, 99, 111, 114, 100]
  | 8 => some [116, 101, 120, 116]
  | 9 => some [109, 97, 116, 99, 104]
  | 10 => some [109, 97, 110, 121]
  | 11 => some [97, 108, 111, 110, 101]
  | 12 => some [117, 110, 100, 111]
  | _ => none
def sRet : List Nat := [114, 101, 116, 117, 114, 110, 115]
/-- what _law_result makes of a call -/
def resOf : R D → R D
  | .ok d S => .ok (.tup [.str sRet, d]) S
  | .exc c S => match wordC c with
    | some w => .ok (.tup [.str w]) S
    | none => .bad
  | .bad => .bad
/-- from here on the numbers mean _law_result(lambda: f(..)) -/
def resN : Nat := 100000
def callI (T : Nat → Option Fn) (G : List D) : Nat → Nat → List D → M D
  | 0, _, _ => fun _ => .bad
  | 1, f, ds => fun S => match T f with
    | none => .bad
    | some fn => if fn.pur then
        if dats ds then match runBody (fun _ _ _ => .bad) G fn ds [] with
          | .ok d S' => match freeze S' d with
            | some d' => .ok d' S
            | none => .bad
          | .exc c _ => .exc c S
          | .bad => .bad
        else .bad
      else runBody (fun _ _ _ => .bad) G fn ds S
  | k + 2, f, ds => fun S => match T f with
    | none => if f < resN then .bad else resOf (callI T G k (f - resN) ds S)
    | some fn => if fn.pur then
        if dats ds then match runBody (callI T G (k + 1)) G fn ds [] with
          | .ok d S' => match freeze S' d with
            | some d' => .ok d' S
            | none => .bad
          | .exc c _ => .exc c S
          | .bad => .bad
        else .bad
      else runBody (callI T G (k + 1)) G fn ds S
/-- one level, whatever the next -/
theorem callI_succ (T : Nat → Option Fn) (G : List D) (k f : Nat) (ds : List D) (S : Store) {fn : Fn} (h : T f = some fn) : callI T G (k + 1) f ds S = (if fn.pur then
        if dats ds then match runBody (callI T G k) G fn ds [] with
          | .ok d S' => match freeze S' d with
            | some d' => .ok d' S
            | none => .bad
          | .exc c _ => .exc c S
          | .bad => .bad
        else .bad
      else runBody (callI T G k) G fn ds S) := by
  have e0 : callI T G 0 = fun _ _ _ => .bad := by funext f ds S; simp only [callI]
  cases k with
  | zero => simp only [callI, h, e0]
  | succ k => simp only [callI, h]
theorem callI_none (T : Nat → Option Fn) (G : List D) (k f : Nat) (ds : List D) (S : Store) (h : T f = none) (hf : f < resN) : callI T G (k + 1) f ds S = .bad := by
  cases k with
  | zero => simp only [callI, h]
  | succ k => simp only [callI, h, hf, if_true]
theorem callI_res (T : Nat → Option Fn) (G : List D) (k f : Nat) (ds : List D) (S : Store) (h : T (resN + f) = none) : callI T G (k + 2) (resN + f) ds S = resOf (callI T G k f ds S) := by
  have h2 : ¬ (resN + f < resN) := by omega
  simp only [callI, h, h2, if_false, Nat.add_sub_cancel_left]
end G11

/-! Rel: what stands in the heap for a value of the interpreter -/
namespace G11
open PySem PySem.Spec PyProof.Rows L2

/-- what a law's program tells: the tables of the defs that make lambdas; where the defs stand -/
class Fns where
  tabs : List (Addr × Str)
  cs : List (Addr × Addr)
  fa : Nat → Option Addr
variable [Fns]
/-- the places of the store's objects, and places that data do not touch -/
structure Ms where
  ix : List Addr
  hid : List Addr
/-- a list that nothing changes -/
def SqF (K : PySem.W.Frag) (H : Hp) (a : Addr) (xs : List V) : Prop := (∃ o, H a = some (.frz o (.lst xs))) ∨
  ∃ (o : Obj) (its : Array Value) (n : Nat), K.lookup a = some o ∧ o.cls = .type "list" ∧ o.dict = none ∧ o.data = .seq its n ∧ its.size ≤ sizeLine ∧ Vals xs its.toList
theorem SqF.sql {K : PySem.W.Frag} {H : Hp} {a : Addr} {xs : List V} (h : SqF K H a xs) : SqL K H a xs := by
  rcases h with ⟨o, h⟩ | h
  · exact .inl (.inr ⟨o, h⟩)
  · exact .inr h
def Ms.out (m : Ms) (a : Addr) : Prop := a ∉ m.ix ∧ a ∉ m.hid
/-- the script: a list that nothing changes, or one beside the store -/
def SqS (K : PySem.W.Frag) (H : Hp) (m : Ms) (a : Addr) (xs : List V) : Prop := SqF K H a xs ∨ (H a = some (.lst xs) ∧ m.out a)
theorem SqS.sql {K : PySem.W.Frag} {H : Hp} {m : Ms} {a : Addr} {xs : List V} (h : SqS K H m a xs) : SqL K H a xs := by
  rcases h with h | h
  · exact h.sql
  · exact .inl (.inl h.1)
section
variable (K : PySem.W.Frag) (H : Hp) (m : Ms)
mutual
def RD : D → V → Prop
  | .non, v => v = .non
  | .bl b, v => v = .bl b
  | .int i, v => v = .int i
  | .str x, v => v = .str ⟨x.toArray⟩
  | .tup ds, v => ∃ a xs, v = .ref a ∧ SqT K H a xs ∧ RDs ds xs ∧ ds.length ≤ lim
  | .lst ds, v => ∃ a xs, v = .ref a ∧ H a = some (.lst xs) ∧ m.out a ∧ RDs ds xs ∧ ds.length ≤ lim
  | .ref i, v => ∃ a, m.ix[i]? = some a ∧ v = .ref a
  | .fn f, v => ∃ a, Fns.fa f = some a ∧ v = .ref a
  | .scl ns, v => ∃ a, v = .ref a ∧ SqS K H m a (ns.map V.int)
def RDs : List D → List V → Prop
  | [], vs => vs = []
  | d :: ds, vs => ∃ v vs', vs = v :: vs' ∧ RD d v ∧ RDs ds vs'
end
/-- keys -/
def keyV : KY → Key
  | .i n => .inl n
  | .s x => .inr ⟨x.toArray⟩
def RDk : List (KY × D) → List (Key × V) → Prop
  | [], vs => vs = []
  | (k, d) :: ds, vs => ∃ v vs', vs = (keyV k, v) :: vs' ∧ RD K H m d v ∧ RDk ds vs'
end

/-! ### a dict keyed by partitions -/
def hI (l : List Int) : Int := reduceHash (Builtin.Tuple.tupleHashOf (l.map hashInt))
def hLL (l : LL) : Int := reduceHash (Builtin.Tuple.tupleHashOf (l.map hI))
def nkI (l : List Int) : NestedKey := .tup (l.map .num)
def nkL (l : LL) : NestedKey := .tup (l.map nkI)
def entD (x : LL × Addr × Value) : DictEntry := ⟨hLL x.1, .ref x.2.1, x.2.2⟩
/-- the object of such a dict -/
def dtO (a : Addr) (xs : List (LL × Addr × Value)) : HO := .ext fun h => ∃ o es ep, h.get? a = some o ∧ o.ExactDict ∧ o.data = .dict es ep ∧ es.toList = xs.map entD
def DTe (K : PySem.W.Frag) (H : Hp) (m : Ms) : List (LL × D) → List (LL × Addr × Value) → Prop
  | [], xs => xs = []
  | (l, d) :: r, xs => ∃ b u v xs', xs = (l, b, u) :: xs' ∧ RD K H m (tupT l) (.ref b) ∧ RelV v u ∧ RD K H m d v ∧ DTe K H m r xs'
structure DTx (K : PySem.W.Frag) (H : Hp) (m : Ms) (a : Addr) (kvs : List (LL × D)) (xs : List (LL × Addr × Value)) : Prop where
  ent : DTe K H m kvs xs
  sys : (a == sysModules) = false
  nd : (kvs.map (·.1)).Nodup
  len : kvs.length ≤ lim
def DTok (K : PySem.W.Frag) (H : Hp) (m : Ms) (a : Addr) (kvs : List (LL × D)) : Prop := ∃ xs, H a = some (dtO a xs) ∧ DTx K H m a kvs xs
def FZok (K : PySem.W.Frag) (H : Hp) (m : Ms) (a : Addr) (kvs : List (LL × D)) : Prop := ∃ xs o, H a = some (.frz o (dtO a xs)) ∧ DTx K H m a kvs xs

def OR (K : PySem.W.Frag) (H : Hp) (m : Ms) (a : Addr) : O → Prop
  | .lst ds => ∃ vs, H a = some (.lst vs) ∧ RDs K H m ds vs ∧ ds.length ≤ lim
  | .dk kvs => ∃ kvs', H a = some (.dK kvs') ∧ RDk K H m kvs kvs' ∧ kvs.length ≤ lim
  | .dt kvs => DTok K H m a kvs
  | .fz kvs => FZok K H m a kvs
  | .ins _ _ => False

structure OkS (K : PySem.W.Frag) (H : Hp) (m : Ms) (S : Store) : Prop where
  len : m.ix.length = S.length
  nd : m.ix.Nodup
  hd : ∀ a ∈ m.hid, (H a).isSome
  obj : ∀ (i : Nat) (a : Addr) (o : O), m.ix[i]? = some a → S[i]? = some o → OR K H m a o
  tabs : LamX.Tabs Fns.tabs H

/-- what is not of the store is kept; the store's new places were free -/
structure Ext (H : Hp) (m : Ms) (H' : Hp) (m' : Ms) : Prop where
  keepN : ∀ a o, H a = some o → a ∉ m.ix → (∀ ps, o ≠ .tbl ps) → H' a = some o
  tup : ∀ a xs, H a = some (.tup xs) → H' a = some (.tup xs)
  frz : ∀ a o u, H a = some (.frz o u) → H' a = some (.frz o u)
  grow : ∃ n, m'.ix = m.ix ++ n ∧ ∀ a ∈ n, H a = none
  hid : ∀ a ∈ m.hid, a ∈ m'.hid
  hidN : ∀ a ∈ m'.hid, a ∈ m.hid ∨ H a = none
  old : ∀ a, (H a).isSome → (H' a).isSome
  tab : LamX.Tabs Fns.tabs H → LamX.Tabs Fns.tabs H'
/-- no code object of a table stands at a -/
def NoCode (a : Addr) (o : HO) : Prop := (∀ ps, o ≠ .tbl ps) ∧ ∀ q, o ≠ LamX.CodeO a q
theorem tab_keep {H H' : Hp} (k : ∀ a o, H a = some o → H' a = some o ∨ NoCode a o) {P : Addr} {q : Str} (t : LamX.TabS H P q) : LamX.TabS H' P q := by
  obtain ⟨ps, h1, h2, h3⟩ := t
  have k1 := (k P _ h1).resolve_right fun z => z.1 ps rfl
  refine ⟨ps, k1, h2, fun pos cv hc => ?_⟩
  obtain ⟨c, e1, e2⟩ := h3 pos cv hc
  exact ⟨c, e1, (k c _ e2).resolve_right fun z => z.2 q rfl⟩
theorem Ext.refl (H : Hp) (m : Ms) : Ext H m H m := ⟨fun _ _ h _ _ => h, fun _ _ h => h, fun _ _ _ h => h, ⟨[], by simp, fun _ h => by cases h⟩, fun _ h => h, fun _ h => .inl h, fun _ h => h, fun h => h⟩
theorem Ext.kept {H H' : Hp} {m m' : Ms} (e : Ext H m H' m') {a : Addr} (h : (H a).isSome) : (H' a).isSome := e.old a h
theorem Ext.trans {H H1 H2 : Hp} {m m1 m2 : Ms} (a : Ext H m H1 m1) (b : Ext H1 m1 H2 m2) : Ext H m H2 m2 := by
  obtain ⟨n, e1, n1⟩ := a.grow
  obtain ⟨n', e2, n2⟩ := b.grow
  have none_of : ∀ x, H1 x = none → H x = none := fun x hx => by
    cases q : H x with
    | none => rfl
    | some o =>
      have z := a.old x (by rw [q]; rfl)
      rw [hx] at z; cases z
  refine ⟨fun x o h hx ho => b.keepN x o (a.keepN x o h hx ho) ?_ ho, fun x xs h => b.tup x xs (a.tup x xs h), fun x o u h => b.frz x o u (a.frz x o u h), ⟨n ++ n', by rw [e2, e1, List.append_assoc], fun x hx => ?_⟩, fun x hx => b.hid x (a.hid x hx), fun x hx => ?_, fun x h => b.old x (a.old x h), fun h => b.tab (a.tab h)⟩
  · rw [e1]
    intro hm
    rcases List.mem_append.mp hm with hm | hm
    · exact hx hm
    · rw [n1 x hm] at h; cases h
  · rcases List.mem_append.mp hx with hx | hx
    · exact n1 x hx
    · exact none_of x (n2 x hx)
  · rcases b.hidN x hx with z | z
    · exact a.hidN x z
    · exact .inr (none_of x z)

theorem Ext.mem {H H' : Hp} {m m' : Ms} (e : Ext H m H' m') {i : Nat} {a : Addr} (h : m.ix[i]? = some a) : m'.ix[i]? = some a := by
  obtain ⟨n, e1, _⟩ := e.grow
  rw [e1, List.getElem?_append_left (List.getElem?_eq_some_iff.mp h).1]
  exact h
theorem Ext.rd {H H' : Hp} {m m' : Ms} (e : Ext H m H' m') {a : Addr} {xs : List V} (h : Rd H a (.tup xs)) : Rd H' a (.tup xs) := by
  rcases h with h | ⟨o, h⟩
  · exact .inl (e.tup _ _ h)
  · exact .inr ⟨o, e.frz _ _ _ h⟩
theorem Ext.sqt {K : PySem.W.Frag} {H H' : Hp} {m m' : Ms} (e : Ext H m H' m') {a : Addr} {xs : List V} (h : SqT K H a xs) : SqT K H' a xs := by
  rcases h with h | h
  · exact .inl (e.rd h)
  · exact .inr h

/-- what data lean on -/
structure Ext0 (H : Hp) (m : Ms) (H' : Hp) (m' : Ms) : Prop where
  keep : ∀ a xs, H a = some (.lst xs) → m.out a → H' a = some (.lst xs) ∧ m'.out a
  tup : ∀ a xs, H a = some (.tup xs) → H' a = some (.tup xs)
  frz : ∀ a o u, (∀ φ, u ≠ .ext φ) → H a = some (.frz o u) → H' a = some (.frz o u)
  mem : ∀ (i : Nat) (a : Addr), m.ix[i]? = some a → m'.ix[i]? = some a
theorem Ext.to0 {H H' : Hp} {m m' : Ms} (e : Ext H m H' m') : Ext0 H m H' m' := by
  refine ⟨fun a xs h hm => ⟨e.keepN a _ h hm.1 (fun _ z => by cases z), ?_, fun z => (e.hidN a z).elim hm.2 fun z2 => by rw [z2] at h; cases h⟩, e.tup, fun a o u _ h => e.frz a o u h, fun i a h => e.mem h⟩
  obtain ⟨n, q, hn⟩ := e.grow
  rw [q]
  intro hm'
  rcases List.mem_append.mp hm' with hm' | hm'
  · exact hm.1 hm'
  · rw [hn a hm'] at h; cases h
theorem Ext0.sqt {K : PySem.W.Frag} {H H' : Hp} {m m' : Ms} (e : Ext0 H m H' m') {a : Addr} {xs : List V} (h : SqT K H a xs) : SqT K H' a xs := by
  rcases h with (h | ⟨o, h⟩) | h
  · exact .inl (.inl (e.tup _ _ h))
  · exact .inl (.inr ⟨o, e.frz _ _ _ (fun _ z => by cases z) h⟩)
  · exact .inr h
section
variable {K : PySem.W.Frag} {H H' : Hp} {m m' : Ms}
mutual
theorem RD.mono0 (e : Ext0 H m H' m') : ∀ {d : D} {v : V}, RD K H m d v → RD K H' m' d v
  | .non, _, h => h
  | .bl _, _, h => h
  | .int _, _, h => h
  | .str _, _, h => h
  | .tup ds, v, h => by
    simp only [RD] at h ⊢
    obtain ⟨a, xs, e1, e2, e3, e4⟩ := h
    exact ⟨a, xs, e1, e.sqt e2, RDs.mono0 e e3, e4⟩
  | .lst ds, v, h => by
    simp only [RD] at h ⊢
    obtain ⟨a, xs, e1, e2, e3, e4, e5⟩ := h
    have z := e.keep _ _ e2 e3
    exact ⟨a, xs, e1, z.1, z.2, RDs.mono0 e e4, e5⟩
  | .ref i, v, h => by
    simp only [RD] at h ⊢
    obtain ⟨a, e1, e2⟩ := h
    exact ⟨a, e.mem _ _ e1, e2⟩
  | .fn _, _, h => by simp only [RD] at h ⊢; exact h
  | .scl ns, v, h => by
    simp only [RD] at h ⊢
    obtain ⟨a, e1, e2⟩ := h
    refine ⟨a, e1, ?_⟩
    rcases e2 with (⟨o, e2⟩ | e2) | ⟨e2, e3⟩
    · exact .inl (.inl ⟨o, e.frz _ _ _ (fun _ z => by cases z) e2⟩)
    · exact .inl (.inr e2)
    · exact .inr (e.keep _ _ e2 e3)
theorem RDs.mono0 (e : Ext0 H m H' m') : ∀ {ds : List D} {vs : List V}, RDs K H m ds vs → RDs K H' m' ds vs
  | [], _, h => by simp only [RDs] at h ⊢; exact h
  | d :: ds, _, h => by
    simp only [RDs] at h ⊢
    obtain ⟨v, vs', e1, e2, e3⟩ := h
    exact ⟨v, vs', e1, RD.mono0 e e2, RDs.mono0 e e3⟩
end
theorem RDk.mono0 (e : Ext0 H m H' m') : ∀ {ds : List (KY × D)} {vs : List (Key × V)}, RDk K H m ds vs → RDk K H' m' ds vs
  | [], _, h => h
  | (k, d) :: ds, _, h => by
    obtain ⟨v, vs', e1, e2, e3⟩ := h
    exact ⟨v, vs', e1, RD.mono0 e e2, RDk.mono0 e e3⟩
theorem DTe.mono0 (e : Ext0 H m H' m') : ∀ {kvs : List (LL × D)} {xs : List (LL × Addr × Value)}, DTe K H m kvs xs → DTe K H' m' kvs xs
  | [], _, h => h
  | (l, d) :: r, _, h => by
    obtain ⟨b, u, v, xs', e1, e2, e3, e4, e5⟩ := h
    exact ⟨b, u, v, xs', e1, RD.mono0 e e2, e3, RD.mono0 e e4, DTe.mono0 e e5⟩
theorem DTx.mono0 {a : Addr} {kvs : List (LL × D)} {xs : List (LL × Addr × Value)} (e : Ext0 H m H' m') (h : DTx K H m a kvs xs) : DTx K H' m' a kvs xs := ⟨h.ent.mono0 e, h.sys, h.nd, h.len⟩
theorem RD.mono (e : Ext H m H' m') {d : D} {v : V} (h : RD K H m d v) : RD K H' m' d v := h.mono0 e.to0
theorem RDs.mono (e : Ext H m H' m') {d : List D} {v : List V} (h : RDs K H m d v) : RDs K H' m' d v := h.mono0 e.to0
theorem RDk.mono (e : Ext H m H' m') {d : List (KY × D)} {v : List (Key × V)} (h : RDk K H m d v) : RDk K H' m' d v := h.mono0 e.to0
end

section
variable {K : PySem.W.Frag} {H : Hp} {m : Ms}
theorem RDs.length : ∀ {ds : List D} {vs : List V}, RDs K H m ds vs → vs.length = ds.length
  | [], _, h => by simp only [RDs] at h; rw [h]; rfl
  | d :: ds, _, h => by
    simp only [RDs] at h
    obtain ⟨v, vs', e1, _, e3⟩ := h
    rw [e1, List.length_cons, List.length_cons, RDs.length e3]
theorem RDs.get : ∀ {ds : List D} {vs : List V} {i : Nat} {d : D}, RDs K H m ds vs → ds[i]? = some d → ∃ v, vs[i]? = some v ∧ RD K H m d v
  | [], _, _, _, _, e => by simp at e
  | d :: ds, _, 0, x, h, e => by
    simp only [RDs] at h
    obtain ⟨v, vs', e1, e2, _⟩ := h
    simp at e; subst e
    exact ⟨v, by rw [e1]; rfl, e2⟩
  | d :: ds, _, i + 1, x, h, e => by
    simp only [RDs] at h
    obtain ⟨v, vs', e1, _, e3⟩ := h
    obtain ⟨u, q1, q2⟩ := RDs.get (i := i) (d := x) e3 (by simpa using e)
    exact ⟨u, by rw [e1]; simpa using q1, q2⟩
theorem RDs.append : ∀ {ds es : List D} {vs us : List V}, RDs K H m ds vs → RDs K H m es us → RDs K H m (ds ++ es) (vs ++ us)
  | [], _, _, _, h, h2 => by simp only [RDs] at h; rw [h]; exact h2
  | d :: ds, es, _, us, h, h2 => by
    simp only [RDs] at h
    obtain ⟨v, vs', e1, e2, e3⟩ := h
    rw [e1]
    show RDs K H m (d :: (ds ++ es)) (v :: (vs' ++ us))
    simp only [RDs]
    exact ⟨v, _, rfl, e2, RDs.append e3 h2⟩
theorem RDs.one {d : D} {v : V} (h : RD K H m d v) : RDs K H m [d] [v] := by
  simp only [RDs]; exact ⟨v, [], rfl, h, rfl⟩
theorem RDs.drop : ∀ {ds : List D} {vs : List V} (n : Nat), RDs K H m ds vs → RDs K H m (ds.drop n) (vs.drop n)
  | _, _, 0, h => h
  | [], _, n + 1, h => by simp only [RDs] at h; rw [h]; simp [RDs]
  | d :: ds, _, n + 1, h => by
    simp only [RDs] at h
    obtain ⟨v, vs', e1, _, e3⟩ := h
    rw [e1]
    exact RDs.drop n e3
theorem RDs.take : ∀ {ds : List D} {vs : List V} (n : Nat), RDs K H m ds vs → RDs K H m (ds.take n) (vs.take n)
  | _, _, 0, h => by simp [RDs]
  | [], _, n + 1, h => by simp only [RDs] at h; rw [h]; simp [RDs]
  | d :: ds, _, n + 1, h => by
    simp only [RDs] at h
    obtain ⟨v, vs', e1, e2, e3⟩ := h
    rw [e1]
    show RDs K H m (d :: ds.take n) (v :: vs'.take n)
    simp only [RDs]
    exact ⟨v, _, rfl, e2, RDs.take n e3⟩
theorem RDs.reverse : ∀ {ds : List D} {vs : List V}, RDs K H m ds vs → RDs K H m ds.reverse vs.reverse
  | [], _, h => by simp only [RDs] at h; rw [h]; simp [RDs]
  | d :: ds, _, h => by
    simp only [RDs] at h
    obtain ⟨v, vs', e1, e2, e3⟩ := h
    rw [e1, List.reverse_cons, List.reverse_cons]
    exact RDs.append (RDs.reverse e3) (RDs.one e2)
theorem RDs.rep {ds : List D} {vs : List V} (h : RDs K H m ds vs) : ∀ n : Nat, RDs K H m (List.replicate n ds).flatten (List.replicate n vs).flatten
  | 0 => by simp [RDs]
  | n + 1 => by
    rw [List.replicate_succ, List.replicate_succ, List.flatten_cons, List.flatten_cons]
    exact RDs.append h (RDs.rep h n)
theorem RDs.ints : ∀ {ds : List D} {vs : List V} {ns : List Int}, RDs K H m ds vs → asInts ds = some ns → vs = ns.map V.int
  | [], _, _, h, e => by simp only [RDs] at h; simp [asInts] at e; rw [h, e]; rfl
  | d :: ds, _, ns, h, e => by
    simp only [RDs] at h
    obtain ⟨v, vs', e1, e2, e3⟩ := h
    unfold asInts at e
    cases d with
    | int i =>
      simp only [asInt] at e
      cases q : asInts ds with
      | none => rw [q] at e; cases e
      | some is =>
        rw [q] at e
        simp only [Option.some.injEq] at e
        subst e
        simp only [RD] at e2
        rw [e1, e2, RDs.ints e3 q]; rfl
    | _ => simp [asInt] at e
theorem RDs.bools : ∀ {ds : List D} {vs : List V} {bs : List Bool}, RDs K H m ds vs → G11.bools ds = some bs → vs = bs.map V.bl
  | [], _, _, h, e => by simp only [RDs] at h; simp [G11.bools] at e; rw [h, e]; rfl
  | d :: ds, _, ns, h, e => by
    simp only [RDs] at h
    obtain ⟨v, vs', e1, e2, e3⟩ := h
    unfold G11.bools at e
    cases d with
    | bl i =>
      simp only at e
      cases q : G11.bools ds with
      | none => rw [q] at e; cases e
      | some is =>
        rw [q] at e
        simp only [Option.map_some, Option.some.injEq] at e
        subst e
        simp only [RD] at e2
        rw [e1, e2, RDs.bools e3 q]; rfl
    | _ => simp at e
end

/-! ### slots -/
def RelE (K : PySem.W.Frag) (H : Hp) (m : Ms) (env : EnvD) (s : L2.St) : Prop :=
  env.length = s.length ∧ ∀ (i : Nat) (d : D), env[i]? = some (some d) → ∃ v, s[i]? = some (some v) ∧ RD K H m d v
theorem RelE.mono {K : PySem.W.Frag} {H H' : Hp} {m m' : Ms} {env : EnvD} {s : L2.St} (e : Ext H m H' m') (h : RelE K H m env s) : RelE K H' m' env s :=
  ⟨h.1, fun i d q => let ⟨v, a, b⟩ := h.2 i d q; ⟨v, a, b.mono e⟩⟩
theorem RelE.set {K : PySem.W.Frag} {H : Hp} {m : Ms} {env : EnvD} {s : L2.St} (h : RelE K H m env s) (i : Nat) {d : D} {v : V} (r : RD K H m d v) : RelE K H m (env.set i (some d)) (s.set i (some v)) := by
  refine ⟨by rw [List.length_set, List.length_set]; exact h.1, fun j x q => ?_⟩
  by_cases hj : i = j
  · subst hj
    have hl : i < env.length := by
      have := (List.getElem?_eq_some_iff.mp q).1
      rw [List.length_set] at this; exact this
    rw [List.getElem?_set_self hl] at q
    cases q
    exact ⟨v, by rw [List.getElem?_set_self (by rw [← h.1]; exact hl)], r⟩
  · rw [List.getElem?_set_ne hj] at q
    obtain ⟨u, a, b⟩ := h.2 j x q
    exact ⟨u, by rw [List.getElem?_set_ne hj]; exact a, b⟩
theorem RelE.unset {K : PySem.W.Frag} {H : Hp} {m : Ms} {env : EnvD} {s : L2.St} (h : RelE K H m env s) (i : Nat) : RelE K H m (env.set i none) (s.set i none) := by
  refine ⟨by rw [List.length_set, List.length_set]; exact h.1, fun j x q => ?_⟩
  by_cases hj : i = j
  · subst hj
    have hl : i < env.length := by
      have := (List.getElem?_eq_some_iff.mp q).1
      rw [List.length_set] at this; exact this
    rw [List.getElem?_set_self hl] at q
    cases q
  · rw [List.getElem?_set_ne hj] at q
    obtain ⟨u, a, b⟩ := h.2 j x q
    exact ⟨u, by rw [List.getElem?_set_ne hj]; exact a, b⟩
theorem RelE.wipe {K : PySem.W.Frag} {H : Hp} {m : Ms} {env : EnvD} {s : L2.St} (h : RelE K H m env s) : ∀ vs : List Nat, RelE K H m (wipeD env vs) (wipe s vs)
  | [] => h
  | v :: vs => (RelE.wipe h vs).unset v

/-! ### new things -/
theorem Ext.new {H : Hp} {m : Ms} {p : Addr} {o : HO} (h : H p = none) : Ext H m (upd H p o) m := by
  have k : ∀ a u, H a = some u → upd H p o a = some u := fun a u e => by rw [upd_ne (ne_of_none e h)]; exact e
  refine ⟨fun a u e _ _ => k a u e, fun a xs e => k a _ e, fun a u x e => k a _ e, ⟨[], by simp, fun _ z => by cases z⟩, fun _ z => z, fun _ z => .inl z, fun a e => ?_, fun t p hp => tab_keep (fun a u e => .inl (k a u e)) (t p hp)⟩
  obtain ⟨u, q⟩ := Option.isSome_iff_exists.mp e
  rw [k a u q]; rfl
theorem OkS.free {K : PySem.W.Frag} {H : Hp} {m : Ms} {S : Store} (h : OkS K H m S) {i : Nat} {a : Addr} (e : m.ix[i]? = some a) : ∃ o, S[i]? = some o ∧ OR K H m a o := by
  have hl : i < S.length := by rw [← h.len]; exact (List.getElem?_eq_some_iff.mp e).1
  exact ⟨S[i], List.getElem?_eq_getElem hl, h.obj i a _ e (List.getElem?_eq_getElem hl)⟩
theorem OR.mono {K : PySem.W.Frag} {H H' : Hp} {m m' : Ms} {a : Addr} {o : O} (e : Ext0 H m H' m') (hH : H' a = H a) (h : OR K H m a o) : OR K H' m' a o := by
  cases o with
  | lst ds => obtain ⟨vs, e1, e2, e3⟩ := h; exact ⟨vs, by rw [hH]; exact e1, e2.mono0 e, e3⟩
  | dk kvs => obtain ⟨vs, e1, e2, e3⟩ := h; exact ⟨vs, by rw [hH]; exact e1, e2.mono0 e, e3⟩
  | dt kvs => obtain ⟨xs, e1, e2⟩ := h; exact ⟨xs, by rw [hH]; exact e1, e2.mono0 e⟩
  | fz kvs => obtain ⟨xs, o, e1, e2⟩ := h; exact ⟨xs, o, by rw [hH]; exact e1, e2.mono0 e⟩
  | ins _ _ => exact False.elim h
/-- nothing of the store was touched -/
theorem OkS.mono {K : PySem.W.Frag} {H H' : Hp} {m : Ms} {S : Store} (e : Ext H m H' m) (hH : ∀ a ∈ m.ix, H' a = H a) (h : OkS K H m S) : OkS K H' m S :=
  ⟨h.len, h.nd, fun a ha => e.kept (h.hd a ha), fun i a o q1 q2 => (h.obj i a o q1 q2).mono e.to0 (hH a (List.mem_of_getElem? q1)), e.tab h.tabs⟩
theorem OR.some {K : PySem.W.Frag} {H : Hp} {m : Ms} {a : Addr} {o : O} (h : OR K H m a o) : (H a).isSome := by
  cases o with
  | lst ds => obtain ⟨vs, e1, _⟩ := h; rw [e1]; rfl
  | dk kvs => obtain ⟨vs, e1, _⟩ := h; rw [e1]; rfl
  | dt kvs => obtain ⟨xs, e1, _⟩ := h; rw [e1]; rfl
  | fz kvs => obtain ⟨xs, o, e1, _⟩ := h; rw [e1]; rfl
  | ins _ _ => exact False.elim h
theorem OkS.fresh {K : PySem.W.Frag} {H : Hp} {m : Ms} {S : Store} (h : OkS K H m S) {p : Addr} (hp : H p = none) : p ∉ m.ix := fun hm => by
  obtain ⟨i, hi⟩ := List.mem_iff_getElem?.mp hm
  obtain ⟨o, _, q⟩ := h.free hi
  have z := q.some
  rw [hp] at z; cases z
theorem OkS.freshO {K : PySem.W.Frag} {H : Hp} {m : Ms} {S : Store} (h : OkS K H m S) {p : Addr} (hp : H p = none) : m.out p := ⟨h.fresh hp, fun hm => by
  have z := h.hd p hm
  rw [hp] at z; cases z⟩
/-- a new thing beside the store -/
theorem OkS.beside {K : PySem.W.Frag} {H : Hp} {m : Ms} {S : Store} (h : OkS K H m S) {p : Addr} {o : HO} (hp : H p = none) : OkS K (upd H p o) m S :=
  h.mono (Ext.new hp) fun a ha => upd_ne fun e => h.fresh hp (e ▸ ha)
theorem SqL.here {K : PySem.W.Frag} {H : Hp} {a : Addr} {xs : List V} : SqL K H a xs → (H a).isSome ∨ ∃ o, K.lookup a = some o := fun h => by
  rcases h with (h | ⟨o, h⟩) | ⟨o, _, _, h, _⟩
  · left; rw [h]; rfl
  · left; rw [h]; rfl
  · exact .inr ⟨o, h⟩
end G11

/-! Rules: operations of the interpreter as rules of the layer -/
namespace G11
open PySem PySem.Spec PyProof.Rows L2
variable [Fns]

theorem lim_le : lim ≤ sizeLine := by decide
theorem lim_lt : lim < sizeLine := by decide

/-- a value may be handed on where it stands -/
def rB (K : PySem.W.Frag) (f : D → D → Option D) : R2 := fun x y H Q => ∃ m S dx dy d, OkS K H m S ∧ RD K H m dx x ∧ RD K H m dy y ∧ f dx dy = some d ∧
  ∀ v H', Ext H m H' m → OkS K H' m S → RD K H' m d v → Q v H'
def opB : Bop → Operator
  | .add => .Add
  | .sub => .Sub
  | .mul => .Mult
  | .fdiv => .FloorDiv
  | .mod => .Mod
  | .pow => .Pow

section
variable {K : PySem.W.Frag} {H : Hp} {m : Ms} {S : Store}
theorem new_tup (ok : OkS K H m S) {ds : List D} {vs : List V} (r : RDs K H m ds vs) (hl : ds.length ≤ lim) {Q : VK} (q : ∀ v H', Ext H m H' m → OkS K H' m S → RD K H' m (.tup ds) v → Q v H') {p : Addr} (hp : H p = none) : Q (.ref p) (upd H p (.tup vs)) := by
  refine q _ _ (Ext.new hp) (ok.beside hp) ?_
  simp only [RD]
  exact ⟨p, vs, rfl, .inl (.inl upd_same), r.mono (Ext.new hp), hl⟩
theorem new_lst (ok : OkS K H m S) {ds : List D} {vs : List V} (r : RDs K H m ds vs) (hl : ds.length ≤ lim) {Q : VK} (q : ∀ v H', Ext H m H' m → OkS K H' m S → RD K H' m (.lst ds) v → Q v H') {p : Addr} (hp : H p = none) : Q (.ref p) (upd H p (.lst vs)) := by
  refine q _ _ (Ext.new hp) (ok.beside hp) ?_
  simp only [RD]
  exact ⟨p, vs, rfl, upd_same, ok.freshO hp, r.mono (Ext.new hp), hl⟩
theorem same_v (ok : OkS K H m S) {d : D} {v : V} (r : RD K H m d v) {Q : VK} (q : ∀ v H', Ext H m H' m → OkS K H' m S → RD K H' m d v → Q v H') : Q v H := q v H (Ext.refl _ _) ok r
end

/-! ### t * 1 -/
theorem tuple_mul1 (l : Addr) (items : Array Value) (n : Nat) (dd : Option Addr) (sl : Array (Option Value)) (u : Tok) (hi : items.isEmpty = false) :
    Meets (Builtin.«tuple.__mul__» ⟨[.ref l, .int 1 u], []⟩) (fun _ R s => s.heap.get? l = some { cls := .type "tuple", dict := dd, data := .seq items n, slots := sl } ∧ R (.ok (.ret (Value.ref l))) s) :=
  .of_wp fun prog w A R s h => by
    obtain ⟨hp, g, d, tk, os⟩ := s
    obtain ⟨hl, h⟩ := h
    have f1 := AutoSeq1.idx_int
    have c1 : (items.isEmpty || (1 : Int) == 1) = true := by rw [hi]; rfl
    wp_walk using wpAny_loadPart' hl
    repeat (first
      | (refine wpAny_ite_false (decide_eq_false (by decide)) ?_; wp_walk using wpAny_loadPart' hl)
      | (refine wpAny_ite_true (decide_eq_true c1) ?_; wp_walk using wpAny_loadPart' hl))
    exact ⟨_, rfl, h⟩
def rRep1 (K : PySem.W.Frag) : R2 := fun x y H Q => ∃ l xs, x = .ref l ∧ y = .int 1 ∧ SqT K H l xs ∧ xs ≠ [] ∧ Q (.ref l) H
theorem op_rep1 {X : Cx} : OpR X (binaryOp .Mult) (rRep1 X.K) := by
  intro pins s σ H x y v u Q I rx ry h
  obtain ⟨l, xs, e1, e2, hT, hne, q⟩ := h
  subst e1 e2
  cases rx
  obtain ⟨t, rfl⟩ := ry
  obtain ⟨its, r, ⟨⟨cls, dd, data, sl⟩, ho, hc, n, hd⟩, hs⟩ := I.tuple hT
  simp only at hc hd
  subst hc hd
  have hle := r.length
  have hi : its.toArray.isEmpty = false := by
    cases its with
    | nil => exact absurd (List.eq_nil_of_length_eq_zero hle) hne
    | cons a b => rfl
  exact wpAny_binaryOp_repeat_ref (T := "tuple") (U := "int") (by decide) ⟨_, ho, rfl⟩ (fun s' => typeIs_int s' 1 t) noFill_tuple_mul F.fills_int_mul F.slot_int_rmul repeat_tuple F.slot_int_index.lookup
    (call_meets F.slot_int_rmul (typeIs_int s 1 t) F.entry_int_rmul (F.args_int_rmul_2 _ _) (int_rmul_tuple 1 t l its.toArray n dd sl)
      ⟨ho, rfl, ⟨_, ho, rfl⟩, call_meets F.slot_tuple_mul ⟨_, ho, rfl⟩ F.entry_tuple_mul (F.args_tuple_mul_2 _ _) (tuple_mul1 l its.toArray n dd sl t hi) ⟨ho, ⟨.ref l, H, I, rfl, q⟩⟩⟩)
section
variable {X : Cx}
theorem bound_iff {i : Int} (h : bound i = true) : -(2 ^ 64) < i ∧ i < 2 ^ 64 := by
  unfold bound at h
  simpa using h
theorem op_bin (op : Bop) (hl : lim ≤ sizeLine := lim_le) : OpR X (binaryOp (opB op)) (rB X.K (doBin op)) := by
  intro pins s σ H x y v u Q I rx ry h
  obtain ⟨m, S, dx, dy, d, ok, r1, r2, e, q⟩ := h
  unfold doBin at e
  split at e
  · simp only [RD] at r1 r2
    cases e
    exact op_add pins s σ H x y v u Q I rx ry ⟨_, _, r1, r2, same_v (d := .int _) ok rfl q⟩
  · rename_i xs ys
    split at e
    · rename_i hz
      cases e
      have r1' := r1
      have r2' := r2
      simp only [RD] at r1 r2
      obtain ⟨a, vs, e1, s1, q1, _⟩ := r1
      obtain ⟨b, us, e2, s2, q2, _⟩ := r2
      have l1 := q1.length
      have l2 := q2.length
      refine op_catA pins s σ H x y v u Q I rx ry ⟨a, b, vs, us, e1, e2, s1, s2, by rw [l1, l2]; exact Nat.le_trans hz hl, fun e0 => ?_, fun n1 e0 => ?_, fun n1 n2 p hp => ?_⟩
      · have : xs = [] := by
          rw [e0] at l1; exact List.eq_nil_of_length_eq_zero l1.symm
        subst this
        rw [← e2]
        exact same_v ok r2' q
      · have : ys = [] := by
          rw [e0] at l2; exact List.eq_nil_of_length_eq_zero l2.symm
        subst this
        rw [← e1]
        rw [List.append_nil] at q
        exact same_v ok r1' q
      · exact new_tup ok (q1.append q2) (by rw [List.length_append]; exact hz) q hp
    · cases e
  · rename_i xs ys
    split at e
    · rename_i hz
      cases e
      simp only [RD] at r1 r2
      obtain ⟨a, vs, e1, s1, _, q1, _⟩ := r1
      obtain ⟨b, us, e2, s2, _, q2, _⟩ := r2
      have l1 := q1.length
      have l2 := q2.length
      exact op_cat pins s σ H x y v u Q I rx ry ⟨a, b, vs, us, e1, e2, s1, s2, by rw [l1, l2]; exact Nat.le_trans hz hl, fun p hp => new_lst ok (q1.append q2) (by rw [List.length_append]; exact hz) q hp⟩
    · cases e
  · simp only [RD] at r1 r2
    cases e
    exact op_sub pins s σ H x y v u Q I rx ry ⟨_, _, r1, r2, same_v (d := .int _) ok rfl q⟩
  · split at e
    · rename_i hb
      simp only [RD] at r1 r2
      cases e
      refine op_mul pins s σ H x y v u Q I rx ry ⟨_, _, r1, r2, ?_, same_v (d := .int _) ok rfl q⟩
      rcases Bool.or_eq_true_iff.mp hb with hb | hb
      · exact .inl (bound_iff hb)
      · exact .inr (bound_iff hb)
    · cases e
  · rename_i xs k
    split at e
    · rename_i hb
      simp only [Bool.and_eq_true, decide_eq_true_eq] at hb
      obtain ⟨⟨h2, h3⟩, h4⟩ := hb
      cases e
      simp only [RD] at r1 r2
      obtain ⟨a, vs, e1, s1, _, q1, _⟩ := r1
      have l1 := q1.length
      have hk : k.toNat ≤ 1000 := by omega
      have e5 : ((List.replicate k.toNat xs).flatten).length = k.toNat * xs.length := by simp
      have e6 : k.toNat * xs.length ≤ lim := calc k.toNat * xs.length ≤ 1000 * 100 := Nat.mul_le_mul hk h4
        _ ≤ lim := by decide
      exact op_rep pins s σ H x y v u Q I rx ry ⟨a, k, vs, e1, r2, s1, by omega, by omega, by rw [l1, Nat.mul_comm]; exact Nat.le_trans e6 hl, fun p hp => new_lst ok (q1.rep _) (by rw [e5]; exact e6) q hp⟩
    · cases e
  · rename_i xs k
    split at e
    · rename_i hb
      simp only [Bool.and_eq_true, Bool.not_eq_true', decide_eq_true_eq] at hb
      obtain ⟨⟨⟨h1, h2⟩, h3⟩, h4⟩ := hb
      cases e
      have r1' := r1
      simp only [RD] at r1 r2
      obtain ⟨a, vs, e1, s1, q1, hlen⟩ := r1
      have l1 := q1.length
      by_cases hk : k = 1
      · subst hk
        have e3 : (List.replicate (1 : Int).toNat xs).flatten = xs := by simp
        rw [e3] at q
        subst e1 r2
        exact op_rep1 pins s σ H _ _ v u Q I rx ry ⟨a, vs, rfl, rfl, s1, fun z => by
          rw [z] at l1
          have : xs = [] := List.eq_nil_of_length_eq_zero l1.symm
          rw [this] at h1; simp at h1, same_v ok r1' q⟩
      · refine op_repT pins s σ H x y v u Q I rx ry ⟨a, k, vs, e1, r2, s1, fun z => ?_, by omega, h3, by rw [l1]; exact h4, fun p hp => ?_⟩
        · rw [z] at l1
          have : xs = [] := List.eq_nil_of_length_eq_zero l1.symm
          rw [this] at h1; simp at h1
        · refine new_tup ok (q1.rep _) ?_ q hp
          have e5 : ((List.replicate k.toNat xs).flatten).length = k.toNat * xs.length := by simp
          rw [e5]
          have hk : k.toNat ≤ 1000 := by omega
          calc k.toNat * xs.length ≤ 1000 * 1000 := Nat.mul_le_mul hk h4
            _ ≤ lim := by decide
    · cases e
  · split at e
    · rename_i hb
      simp only [Bool.and_eq_true, decide_eq_true_eq] at hb
      simp only [RD] at r1 r2
      cases e
      exact op_fdiv pins s σ H x y v u Q I rx ry ⟨_, _, r1, r2, hb, same_v (d := .int _) ok rfl q⟩
    · cases e
  · split at e
    · rename_i hb
      simp only [decide_eq_true_eq] at hb
      simp only [RD] at r1 r2
      cases e
      exact op_mod pins s σ H x y v u Q I rx ry ⟨_, _, r1, r2, hb, same_v (d := .int _) ok rfl q⟩
    · cases e
  · split at e
    · rename_i i j hb
      simp only [Bool.and_eq_true, decide_eq_true_eq] at hb
      obtain ⟨⟨h1, h2⟩, h3⟩ := hb
      have h3 := bound_iff h3
      simp only [RD] at r1 r2
      cases e
      exact op_pow pins s σ H x y v u Q I rx ry ⟨_, _, r1, r2, ⟨h1, by omega, by omega⟩, same_v (d := .int _) ok rfl q⟩
    · cases e
  · cases e
end

/-! ### == -/
mutual
def toPy : D → PyData
  | .non => .none
  | .bl b => .bool b
  | .int i => .int i
  | .str x => .str ⟨x.toArray⟩
  | .tup xs => .tuple (toPys xs)
  | .lst xs => .list (toPys xs)
  | .ref _ => .none
  | .fn _ => .none
  | .scl _ => .none
def toPys : List D → List PyData
  | [] => []
  | x :: xs => toPy x :: toPys xs
end
section
variable {K : PySem.W.Frag} {H : Hp} {m : Ms}
mutual
theorem RD.dp : ∀ {n : Nat} {d : D} {v : V}, RD K H m d v → okD n d = true → Dp K H v (toPy d)
  | _, .non, _, h, _ => by simp only [RD] at h; rw [h]; exact .non
  | _, .bl b, _, h, _ => by simp only [RD] at h; rw [h]; exact .bl b
  | _, .int i, _, h, _ => by simp only [RD] at h; rw [h]; exact .int i
  | _, .str x, _, h, _ => by simp only [RD] at h; rw [h]; exact .str _
  | 0, .tup xs, _, _, e => by simp [okD] at e
  | 0, .lst xs, _, _, e => by simp [okD] at e
  | n + 1, .tup xs, _, h, e => by
    simp only [RD] at h
    simp only [okD] at e
    obtain ⟨a, vs, e1, e2, e3, _⟩ := h
    rw [e1]
    exact .tup e2 (RDs.dp e3 e)
  | n + 1, .lst xs, _, h, e => by
    simp only [RD] at h
    simp only [okD] at e
    obtain ⟨a, vs, e1, e2, _, e3, _⟩ := h
    rw [e1]
    exact .lst (SqL.of e2) (RDs.dp e3 e)
  | _, .ref _, _, _, e => by simp [okD] at e
  | _, .fn _, _, _, e => by simp [okD] at e
  | _, .scl _, _, _, e => by simp [okD] at e
theorem RDs.dp : ∀ {n : Nat} {ds : List D} {vs : List V}, RDs K H m ds vs → okDs n ds = true → DpAll K H vs (toPys ds)
  | _, [], _, h, _ => by simp only [RDs] at h; rw [h]; exact .nil
  | n, d :: ds, _, h, e => by
    simp only [RDs] at h
    simp only [okDs, Bool.and_eq_true] at e
    obtain ⟨v, vs', e1, e2, e3⟩ := h
    rw [e1]
    exact .cons (RD.dp e2 e.1) (RDs.dp e3 e.2)
end
end
theorem strOk_of {x : List Nat} (h : (x.all fun c => decide (c < 128)) = true) : PyData.canLay0 (.str ⟨x.toArray⟩) = true := by
  show (x.toArray.all fun c => decide (c < 0x110000)) = true
  rw [List.all_toArray]
  exact List.all_eq_true.mpr fun c hc => decide_eq_true (Nat.lt_trans (of_decide_eq_true (List.all_eq_true.mp h c hc)) (by decide))
mutual
theorem okD_lay : ∀ {n : Nat} {d : D}, okD n d = true → (toPy d).canLay0 = true ∧ (toPy d).depth ≤ n
  | n, .non, _ => ⟨rfl, by simp [toPy, PyData.depth]⟩
  | n, .bl b, _ => ⟨rfl, by simp [toPy, PyData.depth]⟩
  | n, .int i, _ => ⟨rfl, by simp [toPy, PyData.depth]⟩
  | n, .str x, e => ⟨by
      simp only [okD] at e
      simp only [toPy]
      exact strOk_of e, by simp [toPy, PyData.depth]⟩
  | 0, .tup xs, e => by simp [okD] at e
  | 0, .lst xs, e => by simp [okD] at e
  | n + 1, .tup xs, e => by
    simp only [okD] at e
    have q := okDs_lay e
    exact ⟨by simpa [toPy, PyData.canLay0] using q.1, by simp only [toPy, PyData.depth]; have := q.2; omega⟩
  | n + 1, .lst xs, e => by
    simp only [okD] at e
    have q := okDs_lay e
    exact ⟨by simpa [toPy, PyData.canLay0] using q.1, by simp only [toPy, PyData.depth]; have := q.2; omega⟩
  | _, .ref _, e => by simp [okD] at e
  | _, .fn _, e => by simp [okD] at e
  | _, .scl _, e => by simp [okD] at e
theorem okDs_lay : ∀ {n : Nat} {ds : List D}, okDs n ds = true → PyData.canLayAll0 (toPys ds) = true ∧ PyData.depthAll (toPys ds) ≤ n
  | n, [], _ => ⟨rfl, by simp [toPys, PyData.depthAll]⟩
  | n, d :: ds, e => by
    simp only [okDs, Bool.and_eq_true] at e
    have q1 := okD_lay e.1
    have q2 := okDs_lay e.2
    exact ⟨by simp only [toPys, PyData.canLayAll0, q1.1, q2.1]; rfl, by simp only [toPys, PyData.depthAll]; have := q1.2; have := q2.2; omega⟩
end
theorem str_eq (x y : List Nat) : ((⟨x.toArray⟩ : Str) == ⟨y.toArray⟩) = (x == y) := by
  by_cases e : x = y
  · subst e; simp
  · have h : (⟨x.toArray⟩ : Str) ≠ ⟨y.toArray⟩ := fun z => by
      injection z with z
      exact e (by simpa using z)
    rw [beq_eq_false_iff_ne.mpr h, beq_eq_false_iff_ne.mpr e]
mutual
theorem deq_py : ∀ (x y : D) {n k : Nat}, okD n x = true → okD k y = true → PyData.eqv (toPy x) (toPy y) = deq x y
  | .non, y, _, _, _, e => by cases y <;> simp_all [toPy, deq, PyData.eqv, okD]
  | .bl a, y, _, _, _, e => by cases y <;> simp_all [toPy, deq, PyData.eqv, okD]
  | .int a, y, _, _, _, e => by cases y <;> simp_all [toPy, deq, PyData.eqv, okD]
  | .str a, y, _, _, _, e => by cases y <;> simp_all [toPy, deq, PyData.eqv, okD, str_eq]
  | .tup xs, y, 0, _, e, _ => by simp [okD] at e
  | .lst xs, y, 0, _, e, _ => by simp [okD] at e
  | .tup xs, y, n + 1, k, e1, e2 => by
    cases y with
    | tup ys =>
      cases k with
      | zero => simp [okD] at e2
      | succ k =>
        simp only [okD] at e1 e2
        simp only [toPy, PyData.eqv, deq]
        exact deqs_py xs ys e1 e2
    | ref _ => simp [okD] at e2
    | fn _ => simp [okD] at e2
    | scl _ => simp [okD] at e2
    | _ => simp [toPy, deq, PyData.eqv]
  | .lst xs, y, n + 1, k, e1, e2 => by
    cases y with
    | lst ys =>
      cases k with
      | zero => simp [okD] at e2
      | succ k =>
        simp only [okD] at e1 e2
        simp only [toPy, PyData.eqv, deq]
        exact deqs_py xs ys e1 e2
    | ref _ => simp [okD] at e2
    | fn _ => simp [okD] at e2
    | scl _ => simp [okD] at e2
    | _ => simp [toPy, deq, PyData.eqv]
  | .ref _, _, _, _, e, _ => by simp [okD] at e
  | .fn _, _, _, _, e, _ => by simp [okD] at e
  | .scl _, _, _, _, e, _ => by simp [okD] at e
theorem deqs_py : ∀ (xs ys : List D) {n k : Nat}, okDs n xs = true → okDs k ys = true → PyData.eqvAll (toPys xs) (toPys ys) = deqs xs ys
  | [], [], _, _, _, _ => by simp [toPys, PyData.eqvAll, deqs]
  | [], _ :: _, _, _, _, _ => by simp [toPys, PyData.eqvAll, deqs]
  | _ :: _, [], _, _, _, _ => by simp [toPys, PyData.eqvAll, deqs]
  | x :: xs, y :: ys, _, _, e1, e2 => by
    simp only [okDs, Bool.and_eq_true] at e1 e2
    simp only [toPys, PyData.eqvAll, deqs]
    rw [deq_py x y e1.1 e2.1, deqs_py xs ys e1.2 e2.2]
end
theorem anyEq_py (x : D) {n k : Nat} (hx : okD n x = true) : ∀ ys : List D, okDs k ys = true → ((toPys ys).any fun z => PyData.eqv z (toPy x)) = anyEq x ys
  | [], _ => rfl
  | y :: ys, e => by
    simp only [okDs, Bool.and_eq_true] at e
    simp only [toPys, List.any_cons, anyEq]
    rw [deq_py y x e.1 hx, anyEq_py x hx ys e.2]

def opC : Cop → CmpOp
  | .eq => .Eq
  | .ne => .NotEq
  | .lt => .Lt
  | .le => .LtE
  | .gt => .Gt
  | .ge => .GtE
  | .isin => .In
  | .notin => .NotIn
theorem lexL_eq : ∀ a b : List Int, HT.lexLt a b = lexL a b
  | [], [] => rfl
  | [], _ :: _ => rfl
  | _ :: _, [] => rfl
  | x :: xs, y :: ys => by
    rw [HT.lexLt_cons, lexL, lexL_eq xs ys]
section
variable {X : Cx}
theorem op_cmp (op : Cop) (hu : X.A.units + 65 < cLine) : OpR X (compareOp (opC op)) (rB X.K fun x y => (doCmp op x y).map D.bl) := by
  intro pins s σ H x y v u Q I rx ry h
  obtain ⟨m, S, dx, dy, d, ok, r1, r2, e, q⟩ := h
  obtain ⟨b, e', eb⟩ := Option.map_eq_some_iff.mp e
  clear e
  rename doCmp op dx dy = some b => e
  subst eb
  have fin : ∀ {b' : Bool}, b' = b → Q (.bl b') H := fun {b'} z => by
    rw [z]
    exact same_v (d := .bl b) ok (by simp only [RD]) q
  unfold doCmp at e
  split at e
  · split at e
    · rename_i ho
      cases e
      simp only [Bool.and_eq_true] at ho
      obtain ⟨o1, o2⟩ := ho
      obtain ⟨as, t1⟩ := Dp.reads I _ x v (r1.dp o1) rx
      obtain ⟨bs, t2⟩ := Dp.reads I _ y u (r2.dp o2) ry
      have l1 := okD_lay o1
      have l2 := okD_lay o2
      exact SeqAt.compareEq_reads t1 t2 l1.1 l2.1 (by have := Nat.min_le_left (toPy dx).depth (toPy dy).depth; omega) ⟨.bl _, H, I, rfl, fin (deq_py dx dy o1 o2)⟩
    · cases e
  · split at e
    · rename_i ho
      cases e
      simp only [Bool.and_eq_true] at ho
      obtain ⟨o1, o2⟩ := ho
      obtain ⟨as, t1⟩ := Dp.reads I _ x v (r1.dp o1) rx
      obtain ⟨bs, t2⟩ := Dp.reads I _ y u (r2.dp o2) ry
      have l1 := okD_lay o1
      have l2 := okD_lay o2
      exact SeqAt.compareNe_reads t1 t2 l1.1 l2.1 (by have := Nat.min_le_left (toPy dx).depth (toPy dy).depth; omega) ⟨.bl _, H, I, rfl, fin (by rw [deq_py dx dy o1 o2])⟩
    · cases e
  · unfold ltD at e
    split at e
    · cases e
      simp only [RD] at r1 r2
      exact op_lt pins s σ H x y v u Q I rx ry ⟨_, _, r1, r2, fin rfl⟩
    · split at e
      · rename_i xs ys a b' ea eb
        cases e
        simp only [RD] at r1 r2
        obtain ⟨p, vs, e1, s1, q1, _⟩ := r1
        obtain ⟨p', us, e2, s2, q2, _⟩ := r2
        have z1 := q1.ints ea
        have z2 := q2.ints eb
        subst z1 z2
        exact op_ltT (by omega) pins s σ H x y v u Q I rx ry ⟨p, p', a, b', e1, e2, s1, s2, fin (lexL_eq _ _)⟩
      · cases e
    · cases e
  · cases e
    simp only [RD] at r1 r2
    exact op_le pins s σ H x y v u Q I rx ry ⟨_, _, r1, r2, fin rfl⟩
  · cases e
    simp only [RD] at r1 r2
    exact op_gt pins s σ H x y v u Q I rx ry ⟨_, _, r1, r2, fin rfl⟩
  · cases e
    simp only [RD] at r1 r2
    exact op_ge pins s σ H x y v u Q I rx ry ⟨_, _, r1, r2, fin rfl⟩
  all_goals first
    | (split at e
       · rename_i ys ho
         cases e
         simp only [Bool.and_eq_true] at ho
         obtain ⟨o1, o2⟩ := ho
         obtain ⟨as, t1⟩ := Dp.reads I _ x v (r1.dp o1) rx
         have l1 := okD_lay o1
         have l2 := okDs_lay o2
         have hroom : X.A.units + 1 + min (PyData.depthAll (toPys ys)) (toPy dx).depth < cLine := by
           have := Nat.min_le_right (PyData.depthAll (toPys ys)) (toPy dx).depth; omega
         first
           | (obtain ⟨bs, t2⟩ := Dp.reads I (.tuple (toPys ys)) y u (RD.dp (n := 61) (d := .tup ys) r2 (by simpa only [okD] using o2)) ry
              first
                | exact SeqAt.in_tuple_reads t2 t1 l2.1 l1.1 hroom ⟨.bl _, H, I, rfl, fin (anyEq_py _ o1 ys o2)⟩
                | exact SeqAt.notIn_tuple_reads t2 t1 l2.1 l1.1 hroom ⟨.bl _, H, I, rfl, fin (by rw [anyEq_py _ o1 ys o2])⟩)
           | (obtain ⟨bs, t2⟩ := Dp.reads I (.list (toPys ys)) y u (RD.dp (n := 61) (d := .lst ys) r2 (by simpa only [okD] using o2)) ry
              first
                | exact SeqAt.in_list_reads t2 t1 l2.1 l1.1 hroom ⟨.bl _, H, I, rfl, fin (anyEq_py _ o1 ys o2)⟩
                | exact SeqAt.notIn_list_reads t2 t1 l2.1 l1.1 hroom ⟨.bl _, H, I, rfl, fin (by rw [anyEq_py _ o1 ys o2])⟩)
       · cases e)
    | cases e
end
end G11

/-! Tr: a def's text and its code, side by side -/
namespace G11
open PySem PySem.Spec PyProof.Rows L2

def visB (sc : Scope) (x : Str) : Bool := match sc.names.lookup x with
  | some .local => true
  | some .cell => true
  | some .free => true
  | _ => false
def locB (sc : Scope) (x : Str) : Bool := match sc.names.lookup x with
  | some .local => true
  | some .cell => true
  | _ => false
def glB (sc : Scope) (x : Str) : Bool := decide (sc.names.lookup x = some .globalImplicit)
def nmOk (x : Str) : Bool := !(x == ("__debug__" : Str)) && !(x == ("__classdict__" : Str)) && decide (x ≠ ("__name__" : Str))
/-- not a star, not a set, not a slice -/
def plainX : Expr → Bool
  | .Starred .. => false
  | .Set .. => false
  | .Slice .. => false
  | _ => true
def notIf : Expr → Bool
  | .IfExp .. => false
  | _ => true
def baseOk : Expr → Bool
  | .Call (.Name _ _) [] [] _ => false
  | _ => true
def isName (x : Str) : Expr → Bool
  | .Name y _ => decide (y = x)
  | _ => false
def tyName : Ty → Str
  | .int => "int"
  | .bool => "bool"
  | .tuple => "tuple"
  | .str => "str"
def biName : Bi → Str
  | .len => "len"
  | .all => "all"
  | .any => "any"
  | .sorted => "sorted"
  | .tuple => "tuple"
  | .list => "list"
  | .isi _ => "isinstance"
def biOk : Bi → Bool
  | .isi _ => false
  | _ => true
def mtName : Mt → Str
  | .append => "append"
  | .extend => "extend"
  | .pop => "pop"
  | .get => "get"
  | .index => "index"
def strB (x : Str) (l : List Nat) : Bool := decide (x.cps.toList = l)

/-- targets: names in their slots -/
def trNames (N : List Str) (sc : Scope) : List Nat → List Expr → Bool
  | [], [] => true
  | i :: is, .Name x _ :: es => decide (N[i]? = some x) && locB sc x && trNames N sc is es
  | _, _ => false
def trTg (N : List Str) (sc : Scope) : Tg → Expr → Bool
  | .nm i, .Name x _ => decide (N[i]? = some x) && locB sc x
  | .tp is, .Tuple es _ _ => trNames N sc is es
  | _, _ => false
def ownOf (N : List Str) (own : List Nat) : List (Str × Nat) := own.map fun i => (N.getD i Str.empty, i)
/-- the block's own names are its locals or cells -/
def ownOk (N : List Str) (scope : Scope) (own : List Nat) (is : List Nat) : Bool := is.all fun i => own.contains i && match scope.names.lookup (N.getD i Str.empty) with
  | some .local => true
  | some .cell => true
  | _ => false
def tgIs : Tg → List Nat
  | .nm i => [i]
  | .tp is => is

/-- three texts under three texts -/
def trS (a b c d e f : List Nat) : List (Option Expr) → List Expr → Bool
  | [some (.Constant (.str x) _ _), some (.Constant (.str y) _ _), some (.Constant (.str z) _ _)], [.Constant (.str u) _ _, .Constant (.str v) _ _, .Constant (.str w) _ _] => strB x a && strB u b && strB y c && strB v d && strB z e && strB w f
  | _, _ => false
/-- ::-1 -/
def isBack : Expr → Bool
  | .Slice none none (some (.UnaryOp .USub (.Constant (.int i) _ _) _)) _ => decide (i = 1)
  | _ => false
/-- the classes that _law_result knows -/
def cNames : List Str := ["InvalidRecords", "InvalidRules", "InvalidGroup", "InvalidRun", "InvalidPartition", "InvalidNumber", "InvalidRecord", "InvalidText", "NoMatch", "TooMany", "Alone", "NothingToUndo"]
/-- the names of the constants; the calls by keywords (def, how many by place, the names); whether lambdas may be made -/
structure GN where
  g : List Str
  kw : List (Nat × Nat × List Str) := []
  lam : Bool := false
  fns : Bool := false
/-- names and values of keywords -/
def kwNs (l : List Keyword) : List Str := l.map fun k => k.arg.getD Str.empty
def kwVs (l : List Keyword) : List Expr := l.map fun k => k.value
def kwAll (l : List Keyword) : Bool := l.all fun k => k.arg.isSome && plainX k.value
mutual
/-- arguments of a call within a lambda: names, constants, tuples -/
def simE (N : List Str) (sc : Scope) : E → Expr → Bool
  | .var i, .Name x _ => decide (N[i]? = some x) && visB sc x && nmOk x
  | .non, .Constant .none _ _ => true
  | .int i, .Constant (.int j) _ _ => decide (i = j)
  | .tup es, .Tuple xs _ _ => simEs N sc es xs
  | _, _ => false
def simEs (N : List Str) (sc : Scope) : Es → List Expr → Bool
  | .nil, [] => true
  | .cons e es, x :: xs => simE N sc e x && simEs N sc es xs
  | _, _ => false
end
def noPar : Arguments → Bool
  | ⟨[], [], none, [], [], none, []⟩ => true
  | _ => false
def lamOf : List Expr → Option (Arguments × Expr × Scope)
  | [.Lambda a b s _] => some (a, b, s)
  | _ => none
theorem lamOf_ok {l : List Expr} {a : Arguments} {b : Expr} {s : Scope} (h : lamOf l = some (a, b, s)) : ∃ p, l = [.Lambda a b s p] := by
  unfold lamOf at h
  split at h
  · cases h; exact ⟨_, rfl⟩
  · cases h
def callOf : Expr → Option (Expr × List Expr × List Keyword)
  | .Call f xs ks _ => some (f, xs, ks)
  | _ => none
theorem callOf_ok {l : Expr} {a : Expr} {b : List Expr} {s : List Keyword} (h : callOf l = some (a, b, s)) : ∃ p, l = .Call a b s p := by
  unfold callOf at h
  split at h
  · cases h; exact ⟨_, rfl⟩
  · cases h
def nameOf : Expr → Option Str
  | .Name x _ => some x
  | _ => none
theorem nameOf_ok {l : Expr} {a : Str} (h : nameOf l = some a) : ∃ p, l = .Name a p := by
  unfold nameOf at h
  split at h
  · cases h; exact ⟨_, rfl⟩
  · cases h
section
variable (N F : List Str) (Gn : GN)
def esN : Es → Nat
  | .nil => 0
  | .cons _ es => esN es + 1
/-- _law_result(lambda: ..), what the lambda calls told by t -/
def resOB (sc : Scope) (y : Str) (zs : List Expr) (t : Scope → Str → List Expr → List Keyword → Bool) : Bool := match lamOf zs with
  | none => false
  | some (a, b, s) => Gn.lam && decide (y = "_law_result") && glB sc y && noPar a && LamX.lamSB sc s && match callOf b with
    | none => false
    | some (f, xs, ks) => match nameOf f with
      | none => false
      | some x => t s x xs ks
/-- .. a def -/
def resB (f : Nat) (es ks : Es) (s : Scope) (x : Str) (xs : List Expr) (kws : List Keyword) : Bool :=
  decide (resN ≤ f) && decide (F[f - resN]? = some x) && glB s x && nmOk x && simEs N s es xs && simEs N s ks (kwVs kws) && kwAll kws && (kws.isEmpty || Gn.kw.contains (f - resN, xs.length, kwNs kws))
/-- .. a def that a slot holds -/
def resV (r i : Nat) (es : Es) (s : Scope) (x : Str) (xs : List Expr) (kws : List Keyword) : Bool :=
  decide (r = resN) && decide (N[i]? = some x) && visB s x && nmOk x && simEs N s es xs && kws.isEmpty
mutual
def trE (sc : Scope) : E → Expr → Bool
  | .var i, .Name x _ => decide (N[i]? = some x) && visB sc x && nmOk x
  | .glb g, .Name x _ => decide (Gn.g[g]? = some x) && glB sc x && nmOk x
  | .non, .Constant .none _ _ => true
  | .bl b, .Constant (.bool c) _ _ => decide (b = c)
  | .int i, .Constant (.int j) _ _ => decide (i = j)
  | .str l, .Constant (.str x) _ _ => strB x l
  | .tup es, .Tuple xs _ _ => trEs sc es xs
  | .lst es, .List xs _ => trEs sc es xs
  | .newL es, .List xs _ => trEs sc es xs
  | .newK .nil, .Dict [] [] _ => true
  | .newK (.cons a (.cons b (.cons c (.cons d .nil)))), .Dict [some x, some z] [y, w] _ => trE sc a x && trE sc b y && trE sc c z && trE sc d w
  | .bin op a b, .BinOp x o y _ => decide (o = opB op) && trE sc a x && trE sc b y
  | .neg a, .UnaryOp .USub x _ => trE sc a x
  | .cmp op a b, .Compare x [o] [y] _ => decide (o = opC op) && trE sc a x && trE sc b y
  | .isN a, .Compare x [.Is] [.Constant .none _ _] _ => trE sc a x
  | .notN a, .Compare x [.IsNot] [.Constant .none _ _] _ => trE sc a x
  | .chain op op' a b c, .Compare x [o, o'] [y, z] _ => decide (o = opC op) && decide (o' = opC op') && trE sc a x && trE sc b y && trE sc c z
  | .and es, .BoolOp .And xs _ => trEs sc es xs && !xs.isEmpty && xs.all notIf
  | .or es, .BoolOp .Or xs _ => trEs sc es xs && !xs.isEmpty && xs.all notIf
  | .not a, .UnaryOp .Not x _ => trE sc a x && notIf x
  | .ife c a b, .IfExp x y z _ => trE sc c x && notIf x && trE sc a y && trE sc b z
  | .ifL i a b, .IfExp (.Name x _) y z _ => decide (N[i]? = some x) && visB sc x && nmOk x && trE sc a y && trE sc b z
  | .idx a i, .Subscript x y _ => trE sc a x && trE sc i y
  | .sl a lo hi, .Subscript x (.Slice l h none _) _ => trE sc a x && trO sc lo l && trO sc hi h
  | .call f es, .Call (.Name x _) xs [] _ => (decide (F[f]? = some x) && glB sc x && nmOk x && trEs sc es xs) || resOB Gn sc x xs (resB N F Gn f es .nil)
  | .callK f es ks, .Call (.Name x _) xs kws _ => (decide (F[f]? = some x) && glB sc x && nmOk x && trEs sc es xs && trEs sc ks (kwVs kws) && kwAll kws && !kws.isEmpty && Gn.kw.contains (f, xs.length, kwNs kws)) || (kws.isEmpty && resOB Gn sc x xs (resB N F Gn f es ks))
  | .callV r i es, .Call (.Name x _) xs [] _ => (decide (r = 0) && decide (N[i]? = some x) && visB sc x && nmOk x && trEs sc es xs && !xs.isEmpty) || (resOB Gn sc x xs (resV N r i es) && decide (esN es ≠ 0))
  | .fnv f, .Name x _ => Gn.fns && decide (F[f]? = some x) && glB sc x && nmOk x
  | .cat a b, .BinOp x o y _ => decide (o = .Add) && trE sc a x && trE sc b y
  | .bi (.isi t) e, .Call (.Name x _) [y, .Name z _] [] _ => decide (x = "isinstance") && glB sc x && decide (z = tyName t) && glB sc z && trE sc e y
  | .bi b e, .Call (.Name x _) [y] [] _ => decide (x = biName b) && biOk b && glB sc x && trE sc e y
  | .sset e, .Call (.Name x _) [.Call (.Name z _) [y] [] _] [] _ => decide (x = "sorted") && glB sc x && decide (z = "set") && glB sc z && trE sc e y
  | .meth .append o (.cons e .nil), .Call (.Attribute x a p) [y] [] q => decide (a = "append") && (p.endLine == q.line) && baseOk x && trE sc o x && trE sc e y
  | .meth .index o (.cons e .nil), .Call (.Attribute x a p) [y] [] q => decide (a = "index") && (p.endLine == q.line) && baseOk x && trE sc o x && trE sc e y
  | .meth .pop o .nil, .Call (.Attribute x a p) [] [] q => decide (a = "pop") && (p.endLine == q.line) && baseOk x && trE sc o x
  | .meth .get o (.cons e (.cons f .nil)), .Call (.Attribute x a p) [y, z] [] q => decide (a = "get") && (p.endLine == q.line) && baseOk x && trE sc o x && trE sc e y && trE sc f z
  | .lc own tg sr cs elt, .ListComp x [⟨t, it, ifs, 0⟩] scope _ =>
    blkC N sc scope (ownOf N own) && trTg N (relS scope sc) tg t && ownOk N scope own (tgIs tg) && trSr sc (tgIs tg).length sr it && trEs (relS scope sc) cs ifs && decide (ifs.length ≤ 1) && ifs.all notIf && trE (relS scope sc) elt x
  | .tupR (.rng e), .Call (.Name x _) [.Call (.Name z _) [y] [] _] [] _ => decide (x = "tuple") && glB sc x && decide (z = "range") && glB sc z && trE sc e y
  | .tupR (.rng2 a b), .Call (.Name x _) [.Call (.Name z _) [y, w] [] _] [] _ => decide (x = "tuple") && glB sc x && decide (z = "range") && glB sc z && trE sc a y && trE sc b w
  | .lstR (.rng e), .Call (.Name x _) [.Call (.Name z _) [y] [] _] [] _ => decide (x = "list") && glB sc x && decide (z = "range") && glB sc z && trE sc e y
  | .newT .nil, .Dict [] [] _ => true
  | .newT (.cons a (.cons b .nil)), .Dict [some x] [y] _ => trE sc a x && trE sc b y
  | .meth .extend o (.cons e .nil), .Call (.Attribute x a p) [y] [] q => decide (a = "extend") && (p.endLine == q.line) && baseOk x && trE sc o x && trE sc e y
  | .vals e, .Call (.Name x _) [.Call (.Attribute y a p) [] [] q] [] _ => decide (x = "list") && glB sc x && decide (a = "values") && (p.endLine == q.line) && baseOk y && trE sc e y
  | .lcD own tg e cs elt, .ListComp x [⟨t, it, ifs, 0⟩] scope _ =>
    blkC N sc scope (ownOf N own) && trTg N (relS scope sc) tg t && ownOk N scope own (tgIs tg) && trE sc e it && trEs (relS scope sc) cs ifs && decide (ifs.length ≤ 1) && ifs.all notIf && trE (relS scope sc) elt x
  | .newS a b c d e f, .Dict ks vs _ => trS a b c d e f ks vs
  | .rev a, .Subscript x y _ => isBack y && trE sc a x
  | _, _ => false
def trEs (sc : Scope) : Es → List Expr → Bool
  | .nil, [] => true
  | .cons e es, x :: xs => trE sc e x && trEs sc es xs
  | _, _ => false
def trO (sc : Scope) : Oe → Option Expr → Bool
  | .no, none => true
  | .some e, some x => trE sc e x
  | _, _ => false
/-- n: how many names the target has -/
def trSr (sc : Scope) (n : Nat) : Sr → Expr → Bool
  | .val e, x => trE sc e x
  | .rng e, .Call (.Name x _) [y] [] _ => decide (x = "range") && glB sc x && trE sc e y
  | .rng2 a b, .Call (.Name x _) [y, z] [] _ => decide (x = "range") && glB sc x && trE sc a y && trE sc b z
  | .enum e, .Call (.Name x _) [y] [] _ => decide (x = "enumerate") && glB sc x && trE sc e y && decide (n = 2)
  | .zip a b, .Call (.Name x _) [y, z] [] _ => decide (x = "zip") && glB sc x && trE sc a y && trE sc b z && decide (n = 2)
  | _, _ => false
end
end

theorem visB_ok {sc : Scope} {x : Str} (h : visB sc x = true) : Vis sc x := by
  unfold visB at h
  split at h
  · rename_i e; exact .inl e
  · rename_i e; exact .inr (.inl e)
  · rename_i e; exact .inr (.inr e)
  · cases h
theorem locB_ok {sc : Scope} {x : Str} (h : locB sc x = true) : Loc sc x := by
  unfold locB at h
  split at h
  · rename_i e; exact .inl e
  · rename_i e; exact .inr e
  · cases h
theorem nmOk_ok {x : Str} (h : nmOk x = true) : (x == ("__debug__" : Str)) = false ∧ (x == ("__classdict__" : Str)) = false ∧ x ≠ ("__name__" : Str) := by
  unfold nmOk at h
  simp only [Bool.and_eq_true, Bool.not_eq_true', decide_eq_true_eq] at h
  exact ⟨h.1.1, h.1.2, h.2⟩
theorem strB_ok {x : Str} {l : List Nat} (h : strB x l = true) : x = ⟨l.toArray⟩ := by
  unfold strB at h
  have e := of_decide_eq_true h
  cases x with
  | mk c =>
    have e : c.toList = l := e
    rw [← e]
/-- what has a code is plain -/
theorem tr_plain {N F : List Str} {Gn : GN} {sc : Scope} {e : E} {x : Expr} (h : trE N F Gn sc e x = true) : plainX x = true := by
  cases x <;> first
    | rfl
    | (exfalso; unfold trE at h; split at h <;> first | (rename_i q; cases q) | cases h)
/-- of a list's making: stored from within, or not -/
theorem sw_lc {elt : Expr} {gs : List Comprehension} {scope : Scope} {pos py : Pos} {y : Str} {l : Nat} {env : Env} :
    swapsWith (.ListComp elt gs scope pos) (some (.Name y py)) l env = pure false ∨ (swapsWith (.ListComp elt gs scope pos) (some (.Name y py)) l env = pure true ∧ env.scope.names.lookup y = some .local) := by
  unfold swapsWith
  dsimp only
  cases q : (env.blockKind == .function && env.kindOf y == some .local && py.line == (Expr.ListComp elt gs scope pos).pos.line && !(scope.names.any fun (n, k) => n == y && (k == .local || k == .cell))) with
  | false => left; rfl
  | true =>
    right
    refine ⟨rfl, ?_⟩
    simp only [Bool.and_eq_true] at q
    have z := q.1.1.2
    have z : (env.scope.names.lookup y == some .local) = true := z
    cases q2 : env.scope.names.lookup y with
    | none => rw [q2] at z; cases z
    | some kd => rw [q2] at z; cases kd <;> first | rfl | cases z
end G11

/-! Dt: dicts keyed by partitions -/
namespace G11
open PySem PySem.Spec PyProof.Rows L2
variable [Fns]

theorem hashes_num (w : World) : ∀ l : List Int, NestedKey.hashes w (l.map .num) = l.map hashInt
  | [] => by simp [NestedKey.hashes]
  | x :: l => by simp only [List.map_cons, NestedKey.hashes, NestedKey.hash, hashes_num w l]
theorem hash_nkI (w : World) (l : List Int) : (nkI l).hash w = hI l := by simp only [nkI, NestedKey.hash, hashes_num, hI]
theorem hashes_nkI (w : World) : ∀ l : LL, NestedKey.hashes w (l.map nkI) = l.map hI
  | [] => by simp [NestedKey.hashes]
  | x :: l => by simp only [List.map_cons, NestedKey.hashes, hash_nkI, hashes_nkI w l]
theorem hash_nkL (w : World) (l : LL) : (nkL l).hash w = hLL l := by simp only [nkL, NestedKey.hash, hashes_nkI, hLL]
theorem num_inj : ∀ {a b : List Int}, a.map NestedKey.num = b.map NestedKey.num → a = b
  | [], [], _ => rfl
  | [], _ :: _, h => by simp at h
  | _ :: _, [], h => by simp at h
  | x :: a, y :: b, h => by
    simp only [List.map_cons, List.cons.injEq, NestedKey.num.injEq] at h
    rw [h.1, num_inj h.2]
theorem nkI_inj {a b : List Int} (h : nkI a = nkI b) : a = b := by
  simp only [nkI, NestedKey.tup.injEq] at h
  exact num_inj h
theorem nkIs_inj : ∀ {a b : LL}, a.map nkI = b.map nkI → a = b
  | [], [], _ => rfl
  | [], _ :: _, h => by simp at h
  | _ :: _, [], h => by simp at h
  | x :: a, y :: b, h => by
    simp only [List.map_cons, List.cons.injEq] at h
    rw [nkI_inj h.1, nkIs_inj h.2]
theorem nkL_inj {a b : LL} (h : nkL a = nkL b) : a = b := by
  simp only [nkL, NestedKey.tup.injEq] at h
  exact nkIs_inj h
theorem depth_num : ∀ l : List Int, NestedKey.depthAll (l.map .num) ≤ 0
  | [] => by simp [NestedKey.depthAll]
  | x :: l => by
    have := depth_num l
    simp only [List.map_cons, NestedKey.depthAll, NestedKey.depth]; omega
theorem depth_nkI (l : List Int) : (nkI l).depth ≤ 1 := by
  have := depth_num l
  simp only [nkI, NestedKey.depth]; omega
theorem depth_nkIs : ∀ l : LL, NestedKey.depthAll (l.map nkI) ≤ 1
  | [] => by simp [NestedKey.depthAll]
  | x :: l => by
    have := depth_nkIs l
    have := depth_nkI x
    simp only [List.map_cons, NestedKey.depthAll]; omega
theorem depth_nkL (l : LL) : (nkL l).depth ≤ 8 := by
  have := depth_nkIs l
  simp only [nkL, NestedKey.depth]; omega

section
variable {X : Cx} {pins : List (Addr × Obj)} {σ : L2.St} {H : Hp} {s : Shared} {m : Ms}
theorem nested_nums (h : Heap) : ∀ {l : List Int} {xs : List V} {us : List Value}, RDs X.K H m (l.map .int) xs → Vals xs us → NestedAll h (l.map .num) us
  | [], _, _, r, v => by
    simp only [List.map_nil, RDs] at r
    subst r
    cases v
    exact .nil
  | x :: l, _, _, r, v => by
    simp only [List.map_cons, RDs, RD] at r
    obtain ⟨w, ws, rfl, rfl, r2⟩ := r
    cases v with
    | cons v1 v2 =>
      obtain ⟨t, rfl⟩ := v1
      exact .cons (.int _ _) (nested_nums h r2 v2)
theorem nested_tupI (I : Inv X pins σ H s) {l : List Int} {v : V} {u : Value} (r : RD X.K H m (tupI l) v) (rv : RelV v u) : NestedIs s.heap (nkI l) u := by
  simp only [tupI, RD] at r
  obtain ⟨a, xs, rfl, e2, e3, _⟩ := r
  cases (show u = Value.ref a from rv)
  obtain ⟨its, q, ⟨o, ho, hc, n, hd⟩, _⟩ := I.tuple e2
  exact .tup ho hc hd (by simpa using nested_nums s.heap e3 q)
theorem nested_tups (I : Inv X pins σ H s) : ∀ {l : LL} {xs : List V} {us : List Value}, RDs X.K H m (l.map tupI) xs → Vals xs us → NestedAll s.heap (l.map nkI) us
  | [], _, _, r, v => by
    simp only [List.map_nil, RDs] at r
    subst r
    cases v
    exact .nil
  | x :: l, _, _, r, v => by
    simp only [List.map_cons, RDs] at r
    obtain ⟨w, ws, rfl, r1, r2⟩ := r
    cases v with
    | cons v1 v2 => exact .cons (nested_tupI I r1 v1) (nested_tups I r2 v2)
theorem nested_key (I : Inv X pins σ H s) {l : LL} {b : Addr} (r : RD X.K H m (tupT l) (.ref b)) : (nestedKind X.prog X.w).is s.heap (nkL l) b := by
  simp only [tupT, RD] at r
  obtain ⟨a, xs, e1, e2, e3, _⟩ := r
  cases e1
  obtain ⟨its, q, ⟨o, ho, hc, n, hd⟩, _⟩ := I.tuple e2
  exact ⟨.tup ho hc hd (by simpa using nested_tups I e3 q), depth_nkL l⟩
def nk3 (x : LL × Addr × Value) : NestedKey × Addr × Value := (nkL x.1, x.2.1, x.2.2)
theorem entD_nk (x : LL × Addr × Value) : entryOfKey (nestedKind X.prog X.w) (nk3 x) = entD x := by
  unfold entryOfKey nk3 entD
  show DictEntry.mk ((nkL x.1).hash X.w) _ _ = _
  rw [hash_nkL]
theorem DTe.keys : ∀ {kvs : List (LL × D)} {xs : List (LL × Addr × Value)}, DTe X.K H m kvs xs → xs.map (·.1) = kvs.map (·.1)
  | [], _, h => by
    have h : _ = [] := h
    subst h; rfl
  | (l, d) :: r, _, h => by
    obtain ⟨b, u, v, xs', rfl, _, _, _, e5⟩ := h
    simp only [List.map_cons, DTe.keys e5]
theorem DTe.length {kvs : List (LL × D)} {xs : List (LL × Addr × Value)} (h : DTe X.K H m kvs xs) : xs.length = kvs.length := by
  have := congrArg List.length h.keys
  simpa using this
theorem DTe.is (I : Inv X pins σ H s) : ∀ {kvs : List (LL × D)} {xs : List (LL × Addr × Value)}, DTe X.K H m kvs xs → ∀ x ∈ xs, (nestedKind X.prog X.w).is s.heap (nkL x.1) x.2.1
  | [], _, h, x, hx => by
    have h : _ = [] := h
    subst h; cases hx
  | (l, d) :: r, _, h, x, hx => by
    obtain ⟨b, u, v, xs', rfl, e2, _, _, e5⟩ := h
    rcases List.mem_cons.mp hx with rfl | hx
    · exact nested_key I e2
    · exact DTe.is I e5 x hx
theorem nodup_nk : ∀ {ls : List LL}, ls.Nodup → (ls.map nkL).Nodup := fun {ls} h => by
  rw [List.Nodup, List.pairwise_map]
  exact h.imp fun hne z => hne (nkL_inj z)
/-- the dict, as the library reads it -/
theorem dict_at (I : Inv X pins σ H s) {a : Addr} {kvs : List (LL × D)} {xs : List (LL × Addr × Value)} (h : Rd H a (dtO a xs)) (t : DTx X.K H m a kvs xs) : s.heap.DictOfH (nestedKind X.prog X.w) a (xs.map nk3) := by
  obtain ⟨⟨o, es, ep, e1, e2, e3, e4⟩, _⟩ := h.ok I.hok
  refine ⟨o, es, ep, e1, e2, e3, ?_, fun x hx => ?_, ?_⟩
  · rw [e4, List.map_map]
    exact List.map_congr_left fun x _ => (entD_nk x).symm
  · obtain ⟨y, hy, rfl⟩ := List.mem_map.mp hx
    exact t.ent.is I y hy
  · rw [List.map_map]
    have := nodup_nk (t.ent.keys ▸ t.nd)
    rw [List.map_map] at this
    exact this
theorem atKey_cons_eq {x : NestedKey × Addr × Value} {xs : List (NestedKey × Addr × Value)} {k : NestedKey} (e : x.1 = k) : atKey (x :: xs) k = some x.2 := by simp [atKey, List.find?_cons, e]
theorem atKey_cons_ne {x : NestedKey × Addr × Value} {xs : List (NestedKey × Addr × Value)} {k : NestedKey} (e : ¬ x.1 = k) : atKey (x :: xs) k = atKey xs k := by simp [atKey, List.find?_cons, e]
theorem DTe.look (l : LL) : ∀ {kvs : List (LL × D)} {xs : List (LL × Addr × Value)}, DTe X.K H m kvs xs →
    (∀ d, lkT kvs l = some d → ∃ b u v, atKey (xs.map nk3) (nkL l) = some (b, u) ∧ RelV v u ∧ RD X.K H m d v) ∧ (lkT kvs l = none → atKey (xs.map nk3) (nkL l) = none)
  | [], _, h => by
    have h : _ = [] := h
    subst h
    exact ⟨fun d e => by simp [lkT] at e, fun _ => rfl⟩
  | (l0, d0) :: r, _, h => by
    obtain ⟨b, u, v, xs', rfl, e2, e3, e4, e5⟩ := h
    have ih := DTe.look l e5
    rw [lkT, List.map_cons]
    by_cases hk : l = l0
    · subst hk
      simp only [if_true]
      refine ⟨fun d e => ?_, fun e => by cases e⟩
      cases e
      exact ⟨b, u, v, atKey_cons_eq rfl, e3, e4⟩
    · rw [if_neg hk]
      have hn : ¬ (nk3 (l0, b, u)).1 = nkL l := fun z => hk (nkL_inj z).symm
      rw [atKey_cons_ne hn]
      exact ih
theorem isSome_look {kvs : List (LL × D)} {xs : List (LL × Addr × Value)} (h : DTe X.K H m kvs xs) (l : LL) : (atKey (xs.map nk3) (nkL l)).isSome = (lkT kvs l).isSome := by
  have z := h.look l
  cases q : lkT kvs l with
  | none => rw [z.2 q]; rfl
  | some d => obtain ⟨b, u, v, e, _⟩ := z.1 d q; rw [e]; rfl
/-- .. behind d[l] = u -/
def putX (xs : List (LL × Addr × Value)) (l : LL) (b : Addr) (u : Value) : List (LL × Addr × Value) := if (atKey (xs.map nk3) (nkL l)).isSome then xs.map (fun x => if x.1 = l then (x.1, x.2.1, u) else x) else xs ++ [(l, b, u)]
theorem putX_stored (xs : List (LL × Addr × Value)) (l : LL) (b : Addr) (u : Value) : storedH (xs.map nk3) (nkL l) b u = (putX xs l b u).map nk3 := by
  unfold storedH putX
  split
  · rw [List.map_map, List.map_map]
    refine List.map_congr_left fun x _ => ?_
    simp only [Function.comp]
    unfold putAt
    by_cases e : x.1 = l
    · rw [if_pos (show (nk3 x).1 = nkL l by rw [← e]; rfl), if_pos e]; rfl
    · rw [if_neg (show ¬ (nk3 x).1 = nkL l from fun z => e (nkL_inj z)), if_neg e]
  · rw [List.map_append]; rfl
theorem DTe.over {l : LL} {d : D} {v : V} {u : Value} (r : RD X.K H m d v) (rv : RelV v u) : ∀ {kvs : List (LL × D)} {xs : List (LL × Addr × Value)}, DTe X.K H m kvs xs → DTe X.K H m (kvs.map fun p => if p.1 = l then (p.1, d) else p) (xs.map fun x => if x.1 = l then (x.1, x.2.1, u) else x)
  | [], _, h => by
    have h : _ = [] := h
    subst h; exact rfl
  | (l0, d0) :: rr, _, h => by
    obtain ⟨b, u0, v0, xs', rfl, e2, e3, e4, e5⟩ := h
    simp only [List.map_cons]
    by_cases e : l0 = l
    · simp only [e, if_true]
      exact ⟨b, u, v, _, rfl, e ▸ e2, rv, r, DTe.over r rv e5⟩
    · simp only [e, if_false]
      exact ⟨b, u0, v0, _, rfl, e2, e3, e4, DTe.over r rv e5⟩
theorem DTe.snoc {l : LL} {d : D} {v : V} {u : Value} {b : Addr} (rb : RD X.K H m (tupT l) (.ref b)) (r : RD X.K H m d v) (rv : RelV v u) : ∀ {kvs : List (LL × D)} {xs : List (LL × Addr × Value)}, DTe X.K H m kvs xs → DTe X.K H m (kvs ++ [(l, d)]) (xs ++ [(l, b, u)])
  | [], _, h => by
    have h : _ = [] := h
    subst h
    exact ⟨b, u, v, [], rfl, rb, rv, r, rfl⟩
  | (l0, d0) :: rr, _, h => by
    obtain ⟨b0, u0, v0, xs', rfl, e2, e3, e4, e5⟩ := h
    exact ⟨b0, u0, v0, _, rfl, e2, e3, e4, DTe.snoc rb r rv e5⟩
theorem DTe.put {l : LL} {d : D} {v : V} {u : Value} {b : Addr} {kvs : List (LL × D)} {xs : List (LL × Addr × Value)} (h : DTe X.K H m kvs xs) (rb : RD X.K H m (tupT l) (.ref b)) (r : RD X.K H m d v) (rv : RelV v u) : DTe X.K H m (putT kvs l d) (putX xs l b u) := by
  unfold putT putX
  rw [isSome_look h l]
  by_cases q : (lkT kvs l).isSome = true
  · rw [if_pos q, if_pos q]; exact h.over r rv
  · rw [if_neg q, if_neg q]; exact h.snoc rb r rv
theorem putT_keys {kvs : List (LL × D)} {l : LL} {d : D} (h : (kvs.map (·.1)).Nodup) : ((putT kvs l d).map (·.1)).Nodup := by
  unfold putT
  split
  · have e : ((kvs.map fun p => if p.1 = l then (p.1, d) else p).map (·.1)) = kvs.map (·.1) := by
      rw [List.map_map]
      refine List.map_congr_left fun p _ => ?_
      dsimp only [Function.comp]
      split <;> rfl
    rw [e]; exact h
  · rename_i hn
    rw [List.map_append]
    refine List.nodup_append.mpr ⟨h, by simp, fun a ha b hb e => hn ?_⟩
    simp at hb
    subst hb
    subst e
    clear hn h
    induction kvs with
    | nil => cases ha
    | cons p r ih =>
      obtain ⟨p1, p2⟩ := p
      rw [lkT]
      by_cases e : a = p1
      · subst e; simp
      · rw [if_neg e]
        simp only [List.map_cons, List.mem_cons] at ha
        exact ih (ha.resolve_left e)
theorem putT_lt {kvs : List (LL × D)} {l : LL} {d : D} (h : kvs.length < lim) : (putT kvs l d).length ≤ lim := by
  unfold putT
  split
  · rw [List.length_map]; omega
  · rw [List.length_append]; simp; omega
theorem dtO_ok {P : Program} {w : World} {H : Hp} {h : Heap} {a : Addr} {xs : List (LL × Addr × Value)} (e : ∃ o es ep, h.get? a = some o ∧ o.ExactDict ∧ o.data = .dict es ep ∧ es.toList = xs.map entD) : ObjOk P w H h a (dtO a xs) := by
  refine ⟨e, ?_, fun h1 h2 p k => ?_⟩
  · obtain ⟨o, _, _, e1, _⟩ := e; exact ⟨o, e1⟩
  · obtain ⟨o, es, ep, e1, e2⟩ := p; exact ⟨o, es, ep, k o e1, e2⟩
theorem dtO_of {P : Program} {w : World} {h : Heap} {a : Addr} {xs : List (LL × Addr × Value)} (d : h.DictOfH (nestedKind P w) a (xs.map nk3)) : ∃ o es ep, h.get? a = some o ∧ o.ExactDict ∧ o.data = .dict es ep ∧ es.toList = xs.map entD := by
  obtain ⟨o, es, ep, e1, e2, e3, e4, _⟩ := d
  refine ⟨o, es, ep, e1, e2, e3, ?_⟩
  rw [e4, List.map_map]
  refine List.map_congr_left fun x _ => ?_
  show DictEntry.mk ((nkL x.1).hash w) _ _ = _
  rw [hash_nkL]; rfl
theorem asTT_RD {x : D} {l : LL} {v : V} (h : asTT x = some l) (r : RD X.K H m x v) : RD X.K H m (tupT l) v ∧ ∃ b, v = .ref b := by
  cases x with
  | tup ds =>
    have e : ds = l.map tupI := by
      simp only [asTT] at h
      clear r
      induction ds generalizing l with
      | nil => simp [asTups] at h; rw [h]; rfl
      | cons d ds ih =>
        simp only [asTups] at h
        cases q1 : asTup d with
        | none => rw [q1] at h; cases h
        | some i =>
          rw [q1] at h
          cases q2 : asTups ds with
          | none => rw [q2] at h; cases h
          | some is =>
            rw [q2] at h
            simp only [Option.some.injEq] at h
            subst h
            rw [List.map_cons, ← ih q2]
            congr 1
            cases d with
            | tup es =>
              simp only [asTup] at q1
              unfold tupI
              congr 1
              clear q2 ih
              induction es generalizing i with
              | nil => simp [asInts] at q1; rw [q1]; rfl
              | cons y es ih =>
                simp only [asInts] at q1
                cases y with
                | int n =>
                  simp only [asInt] at q1
                  cases q3 : asInts es with
                  | none => rw [q3] at q1; cases q1
                  | some js =>
                    rw [q3] at q1
                    simp only [Option.some.injEq] at q1
                    subst q1
                    rw [List.map_cons, ← ih _ q3]
                | _ => simp [asInt] at q1
            | _ => simp [asTup] at q1
    subst e
    refine ⟨r, ?_⟩
    simp only [RD] at r
    obtain ⟨a, _, e, _⟩ := r
    exact ⟨a, e⟩
  | _ => simp [asTT] at h
/-! ### operations -/
section
variable {A : Around} {E : Value → Shared → Prop} {a b : Addr} {kvs : List (LL × D)} {xs : List (LL × Addr × Value)} {l : LL}
theorem dt_in {Q : Value → Shared → Prop} (hu : A.units + 65 < cLine) (I : Inv X pins σ H s) (h : Rd H a (dtO a xs)) (t : DTx X.K H m a kvs xs) (rb : RD X.K H m (tupT l) (.ref b)) (q : ∀ s', Inv X pins σ H s' → Q (.bool (lkT kvs l).isSome) s') :
    wpAny (model X.prog X.w) A (compareOp .In (.ref b) (.ref a)) Q E s := by
  refine wpAny_in_heap (knd := nestedKind X.prog X.w) (by show A.units + 1 + 8 < cLine; omega) (nested_key I rb) t.sys (dict_at I h t) ?_
  rw [isSome_look t.ent l]
  exact q _ (I.tok _)
theorem dt_notIn {Q : Value → Shared → Prop} (hu : A.units + 65 < cLine) (I : Inv X pins σ H s) (h : Rd H a (dtO a xs)) (t : DTx X.K H m a kvs xs) (rb : RD X.K H m (tupT l) (.ref b)) (q : ∀ s', Inv X pins σ H s' → Q (.bool (!(lkT kvs l).isSome)) s') :
    wpAny (model X.prog X.w) A (compareOp .NotIn (.ref b) (.ref a)) Q E s := by
  refine wpAny_notIn_heap (knd := nestedKind X.prog X.w) (by show A.units + 1 + 8 < cLine; omega) (nested_key I rb) t.sys (dict_at I h t) ?_
  rw [isSome_look t.ent l]
  exact q _ (I.tok _)
theorem dt_getItem {Q : Value → Shared → Prop} (hu : A.units + 65 < cLine) (I : Inv X pins σ H s) (h : Rd H a (dtO a xs)) (t : DTx X.K H m a kvs xs) (rb : RD X.K H m (tupT l) (.ref b)) {d : D} (hl : lkT kvs l = some d)
    (q : ∀ w s' v, Inv X pins σ H s' → RelV v w → RD X.K H m d v → Q w s') : wpAny (model X.prog X.w) A (PySem.getItem (.ref a) (.ref b)) Q E s := by
  obtain ⟨b', u, v, e1, e2, e3⟩ := (t.ent.look l).1 d hl
  exact wpAny_getItem_heap (knd := nestedKind X.prog X.w) (by show A.units + 1 + 8 < cLine; omega) (nested_key I rb) (dict_at I h t) e1 (q u _ v (I.tok _) e2 e3)
theorem dt_getOr {Q : Value → Shared → Prop} (hu : A.units + 65 < cLine) (I : Inv X pins σ H s) (h : Rd H a (dtO a xs)) (t : DTx X.K H m a kvs xs) (rb : RD X.K H m (tupT l) (.ref b)) {x : Value}
    (q1 : lkT kvs l = none → ∀ s', Inv X pins σ H s' → Q x s') (q2 : ∀ d, lkT kvs l = some d → ∀ w s' v, Inv X pins σ H s' → RelV v w → RD X.K H m d v → Q w s') :
    wpAny (model X.prog X.w) A (call (.builtin "dict.get") [.ref a, .ref b, x]) Q E s := by
  refine getOr_keyed (knd := nestedKind X.prog X.w) (by show A.units + 1 + 8 < cLine; omega) (nested_key I rb) t.sys ⟨_, dict_at I h t, rfl⟩ ?_
  rw [valueAt_pairsH]
  cases e : lkT kvs l with
  | none =>
    rw [(t.ent.look l).2 e]
    exact q1 e _ (I.tok _)
  | some d =>
    obtain ⟨b', u, v, e1, e2, e3⟩ := (t.ent.look l).1 d e
    rw [e1]
    exact q2 d e u _ v (I.tok _) e2 e3
theorem dt_setItem {Q : Unit → Shared → Prop} (hu : A.units + 65 < cLine) (I : Inv X pins σ H s) (h : H a = some (dtO a xs)) (t : DTx X.K H m a kvs xs) (rb : RD X.K H m (tupT l) (.ref b)) {d : D} {v : V} {u : Value} (hl : kvs.length < lim) (r : RD X.K H m d v) (rv : RelV v u)
    (q : ∀ s', Inv X pins σ (upd H a (dtO a (putX xs l b u))) s' → Q () s') : wpAny (model X.prog X.w) A (PySem.setItem (.ref a) (.ref b) u) Q E s := by
  refine wpAny_setItem_heap (knd := nestedKind X.prog X.w) (hsz := by rw [List.length_map, t.ent.length]; exact Nat.le_trans t.len lim_le) (by show A.units + 1 + 8 < cLine; omega) (nested_key I rb) (dict_at I (.inl h) t) fun h' dd' hs => q _ ?_
  · rw [putX_stored] at dd'
    have e := dtO_of dd'
    exact d_write I (by rw [h]; exact True.intro) hs (let ⟨o, _, _, e1, _⟩ := e; ⟨o, e1⟩) (dtO_ok e)
theorem dt_len {Q : Value → Shared → Prop} (I : Inv X pins σ H s) (h : Rd H a (dtO a xs)) (t : DTx X.K H m a kvs xs) (q : ∀ tk s', Inv X pins σ H s' → Q (.int kvs.length tk) s') : wpAny (model X.prog X.w) A (call (.builtin "len") [.ref a]) Q E s := by
  have hl := t.len
  have hl : kvs.length ≤ 1000000 := hl
  refine call_len_dictH (knd := nestedKind X.prog X.w) t.sys (dict_at I h t) (by rw [List.length_map, t.ent.length]; omega) ?_
  rw [List.length_map, t.ent.length]
  exact q _ _ (I.tok _)
end
end
end G11

/-! Res0: try .. except x as n: r = n, the exception known from then on -/
namespace G11
open PySem PySem.Spec PyProof.Rows L2
section
variable {X : Cx} {pins : List (Addr × Obj)} {σ : L2.St} {H : Hp} {s : Shared}
/-- out of the suite: the exception stays known -/
theorem held_of {a : Addr} {q : List (Addr × Obj)} (I : Inv (X.suite a q) [] σ H s) (ok : X.Ok) : Inv (X.tr q X.xe) [] σ H s :=
  ⟨ok.toTry _ _, I.os, I.bare, I.base, I.loc, I.cell, I.free, I.freeC, I.pin, I.hok, I.len⟩
theorem held_drop {q : Addr × Obj} {xe : Value → Shared → Prop} {pn' : List (Addr × Obj)} (I : Inv (X.tr (q :: (X.pn ++ pins)) xe) pn' σ H s) (ok : X.Ok) : Inv X pins σ H s :=
  ⟨ok, I.os, I.bare, I.base, I.loc, I.cell, I.free, I.freeC, fun p hp => I.pin p (List.mem_append_left _ (List.mem_cons_of_mem _ hp)), I.hok, I.len⟩
/-- where the try leads to -/
def TryTo (X : Cx) (pins : List (Addr × Obj)) (D : Ends) (t0 : TS) (t1 : Addr → Value → Option Addr → TS) (f : Flow) (s' : Shared) : Prop := match f with
  | .next => (∃ σ' H', Inv X pins σ' H' s' ∧ t0 D σ' H') ∨ ∃ (a : Addr) (oe : Obj) (cls : Value) (d : Option Addr) (σ' : L2.St) (H' : Hp), Zc cls d oe ∧ (∃ vs, oe.data = .fields vs) ∧ Inv (X.tr ((a, oe) :: (X.pn ++ pins)) X.xe) [] σ' H' s' ∧ t1 a cls d D σ' H'
  | f => SP X pins D f s'
end
/-- what becomes of an exception of the body -/
abbrev caught (X : Cx) (hd : ExceptHandler) (Z : Flow → Shared → Prop) : Value → Shared → Prop := fun u s1 =>
  wpAny (model X.prog X.w) X.A (noteFrame u X.env) (fun _ s2 => wpAny (model X.prog X.w) X.A (setFlight u none) (fun _ s3 => wpAny (model X.prog X.w) X.A (handleBy u X.env [hd]) Z X.xe s3) X.xe s2) X.xe s1
/-- what the clause wishes of an exception of the body -/
def wHeld (K : PySem.W.Frag) (n : Nat) (c : Value) (i j : Nat) (t1 : Addr → Value → Option Addr → TS) (Wout : WX) (D : Ends) : WX := fun cls d σ H =>
  ∃ b, PySem.W.exmOne K cls c = some b ∧ (b = true → σ.length = n → ∀ a, H a = none → t1 a cls d D (((σ.set i (some (.ref a))).set j (some (.ref a))).set i none) H) ∧ (b = false → Wout cls d σ H)
section
variable {X : Cx} {x n r : Str} {c : Value} {i j : Nat} {body rest : List Stmt} {np ep rp ap pos pos' : Pos} {tb : WX → TS} {t0 : TS} {t1 : Addr → Value → Option Addr → TS} {Wout : WX}
theorem pss_held (hs : X.stack = X.env :: X.outer) (hf : X.env.frame = some X.env.locals) (hN : X.N.Nodup) (hi : X.N[i]? = some n) (hln : X.env.kindOf n = some .local) (hj : X.N[j]? = some r) (hlr : X.env.kindOf r = some .local) (hij : i ≠ j) (hlen : i < X.N.length) (hc : Names X x c) (tk : Takes X Wout)
    (hnd : (n == ("__debug__" : Str)) = false) (hnc : (n == ("__classdict__" : Str)) = false)
    (hb : ∀ (W : WX) (pn : List (Addr × Obj)) (xe : Value → Shared → Prop), Takes (X.tr pn xe) W → PassesOwn (model X.prog X.w) X.A X.env xe → PSs (X.tr pn xe) body (tb W))
    (h0 : PSs X rest t0) (h1 : ∀ (a : Addr) (oe : Obj) (cls : Value) (d : Option Addr) (pn : List (Addr × Obj)), Zc cls d oe → (∃ vs, oe.data = .fields vs) → PSs (X.tr ((a, oe) :: pn) X.xe) rest (t1 a cls d)) :
    PSs X (.Try body [.ExceptHandler (some (.Name x np)) (some n) [.Assign [.Name r rp] (.Name n ep) ap] pos'] [] [] pos :: rest) (fun D σ H => tb (wHeld X.K X.N.length c i j t1 Wout D) { D with nx := t0 D } σ H) := by
  refine ⟨fun pins s σ H D I h => ?_⟩
  have ok := I.ok
  -- behind the try
  have behind : ∀ {t : Sem Flow}, wpAny (model X.prog X.w) X.A t (TryTo X pins D t0 t1) X.xe s → wpAny (model X.prog X.w) X.A t (fun f s1 => match f with
      | .next => wpAny (model X.prog X.w) X.A (execs rest X.env) (SP X pins D) X.xe s1
      | f => SP X pins D f s1) X.xe s := fun {t} q => thn q fun f s1 z => by
    cases f with
    | next =>
      rcases z with ⟨σ', H', J, z⟩ | ⟨a, oe, cls, d, σ', H', z1, z2, J, z⟩
      · exact h0.run pins s1 σ' H' D J z
      · refine thn ((h1 a oe cls d (X.pn ++ pins) z1 z2).run [] s1 σ' H' D J z) fun f2 s2 y => ?_
        cases f2 with
        | next => obtain ⟨σ2, H2, J2, y⟩ := y; exact ⟨σ2, H2, held_drop J2 ok, y⟩
        | brk => obtain ⟨σ2, H2, J2, y⟩ := y; exact ⟨σ2, H2, held_drop J2 ok, y⟩
        | cont => obtain ⟨σ2, H2, J2, y⟩ := y; exact ⟨σ2, H2, held_drop J2 ok, y⟩
        | ret u => obtain ⟨v2, σ2, H2, J2, y1, y2⟩ := y; exact ⟨v2, σ2, H2, held_drop J2 ok, y1, y2⟩
    | ret u => exact z
    | brk => exact z
    | cont => exact z
  have frm : X.A.frames = some (X.env :: X.outer) := by rw [ok.frames, hs]
  refine wpAny_execs_cons (behind (wpAny_Try_except ?_))
  refine wpAny_mono ((hb (wHeld X.K X.N.length c i j t1 Wout D) (X.pn ++ pins) (caught X (.ExceptHandler (some (.Name x np)) (some n) [.Assign [.Name r rp] (.Name n ep) ap] pos') (TryTo X pins D t0 t1)) (fun u s' xx => ?_) PassesOwn.looking).run [] s σ H { D with nx := t0 D } (I.toTry _) h) (fun f s1 q => ?_) (fun u s1 q => q)
  · obtain ⟨a, B, sI, pins', σ1, H1, cls, d, rfl, J0, nb, up, sky, na, os, ag, b, hb1, yes, no⟩ := xx
    have J : Inv X pins σ1 H1 sI := J0.ofTry ok
    have sky2 : Sky B (X.env :: X.outer) a (Zc cls d) X.env.locals s'.heap := by rw [← hs]; exact sky
    show wpAny (model X.prog X.w) X.A (noteFrame (.ref a) X.env) _ _ _
    refine Sky.land Zc.steady frm hf sky2 fun g3 fl3 up3 => ?_
    have J3 : Inv X pins σ1 H1 { s' with heap := g3 } := J.landed nb fl3.1 (up.trans up3) os ag
    obtain ⟨oe3, vs3, he3, hz3, hd3⟩ := fl3.there
    have nfr : a ∉ frs (X.env :: X.outer) := fun hm => by
      obtain ⟨_, o', e', hnf⟩ := fl3.2.2.1.mem hm
      rw [he3] at e'
      cases e'
      exact hnf _ hd3
    have nL : a ≠ X.env.locals := fun z => nfr (List.mem_filterMap.mpr ⟨X.env, by simp, by rw [hf, z]⟩)
    have nF : a ∉ X.fs := fun hm => by
      obtain ⟨e, he, q⟩ := List.mem_filterMap.mp hm
      exact nfr (List.mem_filterMap.mpr ⟨e, by simp [he], q⟩)
    have S3 := J3.suite he3 hd3 na nL nF
    refine wpAny_handleBy_cons (codeAny_handlers_test ?_) (by intro q; cases q)
    have lt : PySem.W.Looks (model X.prog X.w) g3 (typeOf (.ref a)) cls := fun A Q E s k q => wpAny_typeOf_ref (k _ _ he3) (by rw [hz3.1]; exact q)
    have lm := PySem.W.exm_one (M := model X.prog X.w) J3.kIn lt hb1
    have test : ∀ {Q : Value → Shared → Prop} {E : Value → Shared → Prop}, Q c { s' with heap := g3 } → wpAny (model X.prog X.w) (X.A.mark (some (.ref a))) (eval (.Name x np) X.env) Q E { s' with heap := g3 } := fun {Q E} q => by
      obtain ⟨hg, hdb, hm | ⟨hm, hv, hnn⟩⟩ := hc
      · exact ld_glob (X := X.suite a ((a, oe3) :: (X.pn ++ pins))) S3 hg hm q hdb
      · exact ld_blt (X := X.suite a ((a, oe3) :: (X.pn ++ pins))) S3 hg hm hv q hnn hdb
    refine test (lm.here ?_)
    cases b with
    | true =>
      refine codeAny_handlers_suite_as (HandSPX.lands_againZ fl3 fun g4 fl4 up4 => ?_)
      have J4 : Inv X pins σ1 H1 { s' with heap := g4 } := J.landed nb fl4.1 ((up.trans up3).trans up4) os ag
      obtain ⟨oe4, vs4, he4, hz4, hd4⟩ := fl4.there
      have S4 := J4.suite he4 hd4 na nL nF
      refine store_ok (X := X.suite a ((a, oe4) :: (X.pn ++ pins))) (v := .ref a) S4 hN hi (.inl hln) rfl (fun s5 S5 => ?_) (.inr hln)
      have suite : PSs (X.suite a ((a, oe4) :: (X.pn ++ pins))) [.Assign [.Name r rp] (.Name n ep) ap] (fun D σ H => σ[i]? = some (some (.ref a)) ∧ D.nx (σ.set j (some (.ref a))) H) := by
        have q := pss_one (ps_set (X := X.suite a ((a, oe4) :: (X.pn ++ pins))) (i := j) (pos := ap) (pos' := rp) hN hj (.inl hlr) (pe_var (pos := ep) (i := i) hi (.inl hln) hnd hnc) (hf := .inr hlr))
        exact ⟨fun pins s σ H D I h => q.run pins s σ H D I ⟨_, h.1, h.2⟩⟩
      have li : i < σ1.length := by rw [J.len]; exact hlen
      refine wpAny_mono (suite.run [] s5 _ H1 { nx := fun σ' H' => t1 a cls d D (σ'.set i none) H', rt := fun _ _ => False } S5 ⟨by rw [List.getElem?_set_self li], yes rfl J.len a na⟩) (fun f s6 q => ?_) (fun _ _ z => False.elim z)
      cases f with
      | next =>
        obtain ⟨σ6, H6, S6, q6⟩ := q
        exact gone_ok (X := X.suite a ((a, oe4) :: (X.pn ++ pins))) S6 hN hi hln fun s7 J7 => .inr ⟨a, oe4, cls, d, _, _, hz4, ⟨_, hd4⟩, held_of J7 ok, q6⟩
      | brk => obtain ⟨_, _, _, z⟩ := q; exact z.elim
      | cont => obtain ⟨_, _, _, z⟩ := q; exact z.elim
      | ret u => obtain ⟨_, _, _, _, _, z⟩ := q; exact z.elim
    | false =>
      show wpAny _ X.A (handleBy (.ref a) X.env []) _ _ _
      refine wpAny_handleBy_nil ?_
      obtain ⟨k1, k2, k3, oe, vs, tb', oT, ts', he, hz, hd, hh1, hr⟩ := id fl3
      unfold PySem.passOn
      refine wpAny_bind (wpAny_field he hd hh1 ?_)
      rw [if_neg (show ¬ ((Value.ref tb' == Value.none) = true) from by simp)]
      have out : wpAny (model X.prog X.w) X.A (setFlight (.ref a) X.env.frame) (fun _ s4 => wpAny (model X.prog X.w) X.A (throw (.ref a) : Sem Flow) (TryTo X pins D t0 t1) X.xe s4) X.xe { s' with heap := g3 } := by
        rw [hf]
        refine HandSPX.setFlight_upZ fl3 fun g4 hh4 up4 => wpAny_throw (tk _ _ ?_)
        exact ⟨a, B, sI, pins, σ1, H1, cls, d, rfl, J, nb, (up.trans up3).trans up4, .inr (.inr (by rw [hs]; exact hh4)), na, os, ag, no rfl⟩
      first
        | exact wpAny_bind (wpAny_pure (wpAny_bind out))
        | exact wpAny_bind out
  · cases f with
    | next =>
      obtain ⟨σ', H', J', q⟩ := q
      exact wpAny_execs_nil (.inl ⟨σ', H', J'.ofTry ok, q⟩)
    | brk =>
      obtain ⟨σ', H', J', q⟩ := q
      exact ⟨σ', H', J'.ofTry ok, q⟩
    | cont =>
      obtain ⟨σ', H', J', q⟩ := q
      exact ⟨σ', H', J'.ofTry ok, q⟩
    | ret u =>
      obtain ⟨v, σ', H', J', r, q⟩ := q
      exact ⟨v, σ', H', J'.ofTry ok, r, q⟩
end
/-- isinstance(e, c), e the exception that is held -/
theorem call_isH {Y : Cx} {a C : Addr} {oe : Obj} (hm : (a, oe) ∈ Y.pn) (F : ExcC Y.K C) (hz : Zc (.ref C) none oe) (hf : ∃ vs, oe.data = .fields vs) : CallR Y (.builtin "isinstance") (rIsE Y.K C a) := by
  rintro pins s σ H _ us Q I r ⟨c, cv, b, rfl, hcv, e, q⟩
  obtain ⟨vs, hv⟩ := hf
  match us, r with
  | [_, u], .cons rx (.cons rt .nil) =>
    cases rx
    obtain rfl := hcv u rt
    have here := (I.pin (a, oe) (List.mem_append_left _ hm)).1
    have at' : PySem.W.InstAt s.heap a oe C none := by
      obtain ⟨o1, o2, o3, o4⟩ := oe
      obtain ⟨z1, z2⟩ := hz
      dsimp only at z1 z2 hv
      subst z1 z2 hv
      exact ⟨here, rfl, rfl, trivial⟩
    exact PySem.W.kia_one (PySem.W.handS_kitx_exc F.hg F.hk F.hs F.hd F.ha F.hn F.ht F.hm) I.kIn at' e (fun z => nomatch z) fun tk => ⟨.bl b, H, I.kept (t' := tk) fun _ _ z => z, rfl, q⟩
/-- d.update(e) -/
def rUpd : V → List V → Hp → VK → Prop := fun x xs H Q => ∃ a b kvs more, x = .ref a ∧ xs = [.ref b] ∧ H a = some (.dK kvs) ∧ H b = some (.dK more) ∧ a ≠ b ∧ kvs.length + more.length ≤ sizeLine ∧ Q .non (upd H a (.dK (mergeK kvs more)))
theorem mt_update {X : Cx} : MtR X "dict.update" rUpd := by
  rintro pins s σ H _ _ v us Q I rx r ⟨a, b, kvs, more, rfl, rfl, ha, hb, ne, hl, q⟩
  cases rx
  match us, r with
  | [_], .cons rb .nil =>
    cases rb
    obtain ⟨z1, d1, vs1, k1, dd1⟩ := dk_of I.hok ha
    obtain ⟨z2, d2, vs2, k2, dd2⟩ := dk_of I.hok hb
    refine call_meetsIn PySem.F.slot_dict_update dd1.typeIs PySem.F.entry_dict_update (PySem.F.args_dict_update_2 _ _) (meets_dict_update (mixKind X.prog X.w) a b ne d2) ⟨vs1, vs2, dd1, dd2, by rw [← k1.length, ← k2.length]; exact hl, fun h' dd _ hs => ⟨.non, _, ?_, rfl, q⟩⟩
    have hz : (mergeK kvs more).length ≤ sizeLine := by
      have := length_mergeK more kvs
      omega
    have he : ∃ q, h'.get? a = some q := let ⟨q, _, _, hq, _⟩ := dd; ⟨q, hq⟩
    exact d_write I (by rw [ha]; exact True.intro) hs he (dk_new hz d1 (k2.merge k1) dd)
end G11

/-! Res1: _law_result: its text, seen; what it makes of a call -/
namespace G11
open PySem PySem.Spec PyProof.Rows L2
/-! ### the text -/
def Nr : List Str := ["call", "raised", "answer", "e", "some", "names", "name"]
def nmIs (x : Str) : Expr → Bool
  | .Name y _ => decide (y = x)
  | _ => false
def txIs (x : Str) : Expr → Bool
  | .Constant (.str y) _ _ => decide (y = x)
  | _ => false
def otx (x : Str) : Option Expr → Bool
  | some e => txIs x e
  | none => false
def noneIs : Expr → Bool
  | .Constant .none _ _ => true
  | _ => false
def intIs (i : Int) : Expr → Bool
  | .Constant (.int j) _ _ => decide (j = i)
  | _ => false
/-- isinstance(raised, c) -/
def isiIs (c : Str) : Expr → Bool
  | .Call f [a, b] [] _ => nmIs "isinstance" f && nmIs "raised" a && nmIs c b
  | _ => false
/-- {k: isinstance(raised, c), k': isinstance(raised, c')} -/
def dictIs (k c k' c' : Str) : Expr → Bool
  | .Dict [x, y] [u, v] _ => otx k x && otx k' y && isiIs c u && isiIs c' v
  | _ => false
/-- some.update({..}) -/
def updIs (k c k' c' : Str) : Stmt → Bool
  | .Expr (.Call (.Attribute o a p) [d] [] q) _ => nmIs "some" o && decide (a = "update") && (p.endLine == q.line) && dictIs k c k' c' d
  | _ => false
def asgIs (x : Str) (t : Expr → Bool) : Stmt → Bool
  | .Assign [g] e _ => nmIs x g && t e
  | _ => false
def parIs : Stmt → Bool
  | .Assign [.Tuple [a, b] _ _] (.Tuple [u, v] _ _) _ => nmIs "raised" a && nmIs "answer" b && noneIs u && noneIs v
  | _ => false
def actIs : Expr → Bool
  | .Call f [] [] _ => nmIs "call" f
  | _ => false
def tryIs : Stmt → Bool
  | .Try [b] [.ExceptHandler (some x) (some n) [r] _] [] [] _ => asgIs "answer" actIs b && nmIs "RecordError" x && decide (n = "e") && asgIs "raised" (nmIs "e") r
  | _ => false
def okIs : Stmt → Bool
  | .If (.Compare a [.Is] [c] _) [.Return (some (.Tuple [u, v] _ _)) _] [] _ => nmIs "raised" a && noneIs c && txIs "returns" u && nmIs "answer" v
  | _ => false
/-- [name for name in some if some[name]] -/
def lcIs (sg : Scope) : Expr → Bool
  | .ListComp e [⟨t, i, [.Subscript o k _], 0⟩] sc _ => nmIs "name" e && nmIs "name" t && nmIs "some" i && nmIs "some" o && nmIs "name" k && blkC Nr sg sc [("name", 6)] && visB (relS sc sg) "some" && decide ((relS sc sg).names.lookup ("name" : Str) = some .local)
  | _ => false
def oneIs : Expr → Bool
  | .Compare (.Call f [a] [] _) [.Eq] [c] _ => nmIs "len" f && nmIs "names" a && intIs 1 c
  | _ => false
def retIs : Stmt → Bool
  | .Return (some (.IfExp (.BoolOp .And [a, b] _) (.Tuple [.Subscript o k _] _ _) (.Tuple [z] _ _) _)) _ => oneIs a && isiIs "ValueError" b && nmIs "names" o && intIs 0 k && txIs "other error" z
  | _ => false
def resIs (sg : Scope) : List Stmt → Bool
  | [s1, s2, s3, s4, s5, s6, s7, s8, s9, s10, s11] => parIs s1 && tryIs s2 && okIs s3 && asgIs "some" (dictIs "records" "InvalidRecords" "rules" "InvalidRules") s4 && updIs "group" "InvalidGroup" "run" "InvalidRun" s5 && updIs "partition" "InvalidPartition" "number" "InvalidNumber" s6 &&
    updIs "record" "InvalidRecord" "text" "InvalidText" s7 && updIs "match" "NoMatch" "many" "TooMany" s8 && updIs "alone" "Alone" "undo" "NothingToUndo" s9 && asgIs "names" (lcIs sg) s10 && retIs s11
  | _ => false
theorem nm_ok {x : Str} {e : Expr} (h : nmIs x e = true) : ∃ p, e = .Name x p := by
  unfold nmIs at h
  split at h
  · exact ⟨_, by rw [of_decide_eq_true h]⟩
  · cases h
theorem tx_ok {x : Str} {e : Expr} (h : txIs x e = true) : ∃ j p, e = .Constant (.str x) j p := by
  unfold txIs at h
  split at h
  · exact ⟨_, _, by rw [of_decide_eq_true h]⟩
  · cases h
theorem otx_ok {x : Str} {e : Option Expr} (h : otx x e = true) : ∃ j p, e = some (.Constant (.str x) j p) := by
  cases e with
  | none => cases h
  | some e => obtain ⟨j, p, rfl⟩ := tx_ok h; exact ⟨j, p, rfl⟩
theorem none_ok {e : Expr} (h : noneIs e = true) : ∃ j p, e = .Constant .none j p := by
  unfold noneIs at h
  split at h
  · exact ⟨_, _, rfl⟩
  · cases h
theorem int_ok {i : Int} {e : Expr} (h : intIs i e = true) : ∃ j p, e = .Constant (.int i) j p := by
  unfold intIs at h
  split at h
  · exact ⟨_, _, by rw [of_decide_eq_true h]⟩
  · cases h
theorem isi_ok {c : Str} {e : Expr} (h : isiIs c e = true) : ∃ p1 p2 p3 p, e = .Call (.Name "isinstance" p1) [.Name "raised" p2, .Name c p3] [] p := by
  unfold isiIs at h
  split at h
  · simp only [Bool.and_eq_true] at h
    obtain ⟨p1, rfl⟩ := nm_ok h.1.1
    obtain ⟨p2, rfl⟩ := nm_ok h.1.2
    obtain ⟨p3, rfl⟩ := nm_ok h.2
    exact ⟨_, _, _, _, rfl⟩
  · cases h
theorem dict_ok {k c k' c' : Str} {e : Expr} (h : dictIs k c k' c' e = true) : ∃ j1 p1 j2 p2 u v p, e = .Dict [some (.Constant (.str k) j1 p1), some (.Constant (.str k') j2 p2)] [u, v] p ∧ isiIs c u = true ∧ isiIs c' v = true := by
  unfold dictIs at h
  split at h
  · simp only [Bool.and_eq_true] at h
    obtain ⟨⟨⟨e1, e2⟩, e3⟩, e4⟩ := h
    obtain ⟨_, _, rfl⟩ := otx_ok e1
    obtain ⟨_, _, rfl⟩ := otx_ok e2
    exact ⟨_, _, _, _, _, _, _, rfl, e3, e4⟩
  · cases h
theorem asg_ok {x : Str} {t : Expr → Bool} {s : Stmt} (h : asgIs x t s = true) : ∃ p e q, s = .Assign [.Name x p] e q ∧ t e = true := by
  unfold asgIs at h
  split at h
  · simp only [Bool.and_eq_true] at h
    obtain ⟨p, rfl⟩ := nm_ok h.1
    exact ⟨_, _, _, rfl, h.2⟩
  · cases h
/-! ### its names, its facts -/
/-- the classes, by number less one; their words -/
def cWords : List Str := ["records", "rules", "group", "run", "partition", "number", "record", "text", "match", "many", "alone", "undo"]
structure ResF (K : PySem.W.Frag) (mg : Str → Option Value) (sg : Scope) (R : Addr) (cs : List Addr) : Prop where
  len : cs.length = 12
  mR : mg "RecordError" = some (.ref R)
  mc : ∀ (i : Nat) (x : Str) (c : Addr), cNames[i]? = some x → cs[i]? = some c → mg x = some (.ref c)
  ex : ∀ (i : Nat) (c : Addr), cs[i]? = some c → ExcC K c
  ctch : ∀ (i : Nat) (c : Addr), cs[i]? = some c → PySem.W.exmOne K (.ref c) (.ref R) = some true
  isc : ∀ (i j : Nat) (c d : Addr), cs[i]? = some c → cs[j]? = some d → PySem.W.kitOne K (.ref c) (.ref d) = some (decide (i = j))
  isv : ∀ (i : Nat) (c : Addr), cs[i]? = some c → PySem.W.kitOne K (.ref c) (.type "ValueError") = some true
  blt : mg "isinstance" = none ∧ mg "len" = none ∧ mg "ValueError" = none
  loc : ∀ x ∈ (["call", "raised", "answer", "e", "names"] : List Str), sg.names.lookup x = some .local
  cell : sg.names.lookup ("some" : Str) = some .cell
  glo : ∀ x ∈ (["RecordError", "isinstance", "len", "ValueError"] : List Str) ++ cNames, sg.names.lookup x = some .globalImplicit
theorem pe_wk {X : Cx} {x : Expr} {t t' : TE} (h : PE X x t) (i : ∀ σ H Q, t' σ H Q → t σ H Q) : PE X x t' := ⟨fun pins s σ H Q I q => h.run pins s σ H Q I (i σ H Q q)⟩
theorem ps_wk {X : Cx} {x : Stmt} {t t' : TS} (h : PS X x t) (i : ∀ D σ H, t' D σ H → t D σ H) : PS X x t' := ⟨fun pins s σ H D I q => h.run pins s σ H D I (i D σ H q)⟩
/-! ### behind the try, an exception held -/
/-- what is known there: the i-th class, the exception at a -/
structure HeldC (Y : Cx) (sg : Scope) (R : Addr) (cs : List Addr) (i : Nat) (a : Addr) (oe : Obj) : Prop where
  N : Y.N = Nr
  sc : Y.env.scope = sg
  calm : Y.calm = true
  un : Y.A.units + 65 < cLine
  fn : Y.fn "some" = true
  F : ResF Y.K Y.mg sg R cs
  pin : (a, oe) ∈ Y.pn
  cls : ∃ c, cs[i]? = some c ∧ Zc (.ref c) none oe
  fld : ∃ vs, oe.data = .fields vs
/-- slot 1 holds the exception -/
abbrev At1 (a : Addr) (σ : L2.St) : Prop := σ[1]? = some (some (.ref a))
section
variable {Y : Cx} {sg : Scope} {R : Addr} {cs : List Addr} {i : Nat} {a : Addr} {oe : Obj}
theorem HeldC.var (h : HeldC Y sg R cs i a oe) {j : Nat} {x : Str} {p : Pos} (hj : Nr[j]? = some x) (hx : x = "raised" ∨ x = "answer" ∨ x = "names" ∨ x = "some") : PE Y (.Name x p) (tVar j) := by
  have hv : Vis Y.env.scope x := by
    rw [h.sc]
    rcases hx with rfl | rfl | rfl | rfl
    · exact .inl (h.F.loc _ (by decide))
    · exact .inl (h.F.loc _ (by decide))
    · exact .inl (h.F.loc _ (by decide))
    · exact .inr (.inl h.F.cell)
  refine pe_var (by rw [h.N]; exact hj) hv ?_ ?_ <;> rcases hx with rfl | rfl | rfl | rfl <;> decide
theorem HeldC.gl (h : HeldC Y sg R cs i a oe) {x : Str} (hx : x ∈ (["RecordError", "isinstance", "len", "ValueError"] : List Str) ++ cNames) : Gl Y x := by
  show Y.env.scope.names.lookup x = some .globalImplicit
  rw [h.sc]
  exact h.F.glo x hx
theorem cn_debug {j : Nat} {x : Str} (h : cNames[j]? = some x) : (x == ("__debug__" : Str)) = false ∧ x ∈ (["RecordError", "isinstance", "len", "ValueError"] : List Str) ++ cNames := by
  have hm := List.mem_of_getElem? h
  refine ⟨?_, List.mem_append_right _ hm⟩
  have : ∀ y ∈ cNames, (y == ("__debug__" : Str)) = false := by decide
  exact this x hm
/-- isinstance(raised, the j-th class) -/
theorem p_isi (h : HeldC Y sg R cs i a oe) {j : Nat} {x : Str} {e : Expr} (hx : cNames[j]? = some x) (he : isiIs x e = true) : PE Y e (fun σ H Q => At1 a σ ∧ Q (.bl (decide (i = j))) H) := by
  obtain ⟨p1, p2, p3, p, rfl⟩ := isi_ok he
  obtain ⟨c, hc, hz⟩ := h.cls
  have hj : j < cs.length := by rw [h.F.len]; exact (List.getElem?_eq_some_iff.mp hx).1
  have hd : cs[j]? = some cs[j] := List.getElem?_eq_getElem hj
  obtain ⟨z1, z2⟩ := cn_debug hx
  have P := pe_callB (pos := p) (p := p1) (call_isH h.pin (h.F.ex i c hc) hz h.fld) (h.gl (x := "isinstance") (by decide)) h.F.blt.1 (by decide +kernel) (pa_cons (h.var (j := 1) (p := p2) rfl (.inl rfl)) (pa_cons (pe_glob (pos := p3) (v := .ref cs[j]) (h.gl z2) (h.F.mc j x _ hx hd) rfl z1) pa_nil))
  refine ⟨fun pins s σ H Q I q => P.run pins s σ H Q I ?_⟩
  exact ⟨_, q.1, .ref cs[j], .ref cs[j], decide (i = j), rfl, fun u r => r, h.F.isc i j c _ hc hd, q.2⟩
/-- .. ValueError -/
theorem p_isv (h : HeldC Y sg R cs i a oe) {e : Expr} (he : isiIs "ValueError" e = true) : PE Y e (fun σ H Q => At1 a σ ∧ Q (.bl true) H) := by
  obtain ⟨p1, p2, p3, p, rfl⟩ := isi_ok he
  obtain ⟨c, hc, hz⟩ := h.cls
  have P := pe_callB (pos := p) (p := p1) (call_isH h.pin (h.F.ex i c hc) hz h.fld) (h.gl (x := "isinstance") (by decide)) h.F.blt.1 (by decide +kernel) (pa_cons (h.var (j := 1) (p := p2) rfl (.inl rfl)) (pa_cons (pe_bltn (pos := p3) (v := .ty "ValueError") (h.gl (x := "ValueError") (by decide)) h.F.blt.2.2 (by decide +kernel) rfl) pa_nil))
  refine ⟨fun pins s σ H Q I q => P.run pins s σ H Q I ?_⟩
  exact ⟨_, q.1, .ty "ValueError", .type "ValueError", true, rfl, fun u r => r, h.F.isv i c hc, q.2⟩
def kw (w : Str) (b : Bool) : Key × V := (.inr w, .bl b)
/-- {k: isinstance(..), k': isinstance(..)} -/
theorem p_dict (h : HeldC Y sg R cs i a oe) {j j' : Nat} {x x' k k' : Str} {e : Expr} (hx : cNames[j]? = some x) (hx' : cNames[j']? = some x') (hk : k ≠ k') (he : dictIs k x k' x' e = true) :
    PE Y e (fun σ H Q => At1 a σ ∧ ∀ p, H p = none → Q (.ref p) (upd H p (.dK [kw k (decide (i = j)), kw k' (decide (i = j'))]))) := by
  obtain ⟨_, _, _, _, u, v, _, rfl, e3, e4⟩ := dict_ok he
  refine pe_wk (pe_disp (pps_cons pe_str (p_isi h hx e3) (pps_cons pe_str (p_isi h hx' e4) pps_nil)) rfl rfl (by simp) (by show 2 ≤ 15; decide)) fun σ H Q q p hp => ?_
  refine ⟨q.1, q.1, upd_same, [kw k (decide (i = j)), kw k' (decide (i = j'))], rfl, by show 2 ≤ 15; decide, ?_⟩
  have hm : mergeK [] [kw k (decide (i = j)), kw k' (decide (i = j'))] = [kw k (decide (i = j)), kw k' (decide (i = j'))] := by
    simp [mergeK, putK, kw, hk]
  rw [hm]
  have hu : upd (upd H p (.dK [])) p (.dK [kw k (decide (i = j)), kw k' (decide (i = j'))]) = upd H p (.dK [kw k (decide (i = j)), kw k' (decide (i = j'))]) := by
    funext b
    by_cases hb : b = p
    · subst hb; rw [upd_same, upd_same]
    · rw [upd_ne hb, upd_ne hb, upd_ne hb]
  rw [hu]
  exact q.2 p hp
theorem merge_new {kvs : List (Key × V)} {k k' : Key} {v v' : V} (h1 : (kvs.any fun kv => decide (kv.1 = k)) = false) (h2 : (kvs.any fun kv => decide (kv.1 = k')) = false) (hk : k ≠ k') : mergeK kvs [(k, v), (k', v')] = kvs ++ [(k, v), (k', v')] := by
  have e : (kvs ++ [(k, v)]).any (fun kv => decide (kv.1 = k')) = false := by
    rw [List.any_append, h2]; simp [hk]
  show putK (putK kvs k v) k' v' = _
  have e1 : putK kvs k v = kvs ++ [(k, v)] := by unfold putK; rw [h1]; rfl
  rw [e1]
  unfold putK
  rw [e]
  simp
/-- the dict, so far -/
def soFar (i n : Nat) : List (Key × V) := (List.range n).map fun j => kw (cWords.getD j "") (decide (i = j))
/-- some.update({..}) -/
theorem p_upd (h : HeldC Y sg R cs i a oe) {n : Nat} {x x' k k' : Str} {st : Stmt} (hn : n + 2 ≤ 12) (hx : cNames[n]? = some x) (hx' : cNames[n + 1]? = some x') (hk : cWords[n]? = some k) (hk' : cWords[n + 1]? = some k') (he : updIs k x k' x' st = true) :
    PS Y st (fun D σ H => At1 a σ ∧ ∃ d, σ[4]? = some (some (.ref d)) ∧ H d = some (.dK (soFar i n)) ∧ ∀ p, H p = none → ∀ u, D.nx σ (upd (upd H p u) d (.dK (soFar i (n + 2))))) := by
  have nd : cWords.Nodup := by decide
  have ne : k ≠ k' := fun e => by
    have h1 := (List.getElem?_eq_some_iff.mp hk).1
    have := (List.getElem?_inj (j := n + 1) h1 nd).mp (by rw [hk, hk', e])
    omega
  have out : ∀ {m : Nat} {w : Str}, cWords[m]? = some w → n ≤ m → ((soFar i n).any fun kv => decide (kv.1 = Sum.inr w)) = false := fun {m w} hw hm => by
    rw [List.any_eq_false]
    intro kv hkv
    obtain ⟨j, hj, rfl⟩ := List.mem_map.mp hkv
    have hj := List.mem_range.mp hj
    simp only [kw, decide_eq_true_eq, Sum.inr.injEq]
    intro z
    have hjl : j < cWords.length := by show j < 12; omega
    rw [List.getD_eq_getElem?_getD, List.getElem?_eq_getElem hjl, Option.getD_some] at z
    have := (List.getElem?_inj (j := m) hjl nd).mp (by rw [List.getElem?_eq_getElem hjl, z, hw])
    omega
  have grow : mergeK (soFar i n) [kw k (decide (i = n)), kw k' (decide (i = n + 1))] = soFar i (n + 2) := by
    rw [show [kw k (decide (i = n)), kw k' (decide (i = n + 1))] = [(Sum.inr k, V.bl (decide (i = n))), (Sum.inr k', V.bl (decide (i = n + 1)))] from rfl, merge_new (out hk (Nat.le_refl _)) (out hk' (by omega)) (fun z => ne (Sum.inr.inj z))]
    unfold soFar
    rw [List.range_succ, List.range_succ, List.map_append, List.map_append]
    simp [kw, List.getD_eq_getElem?_getD, hk, hk']
  unfold updIs at he
  split at he
  · simp only [Bool.and_eq_true, decide_eq_true_eq] at he
    obtain ⟨⟨⟨e1, e2⟩, e3⟩, e4⟩ := he
    obtain ⟨_, rfl⟩ := nm_ok e1
    subst e2
    have P := p_dict h hx hx' ne e4
    obtain ⟨_, _, _, _, u, v, _, rfl, _, _⟩ := dict_ok e4
    refine ps_wk (ps_expr (pe_bm PySem.F.plainAttrs_dict PySem.F.slot_dict_update PySem.F.type_dict_update mt_update (h.var (j := 4) rfl (.inr (.inr (.inr rfl)))) (pa_cons P pa_nil) rfl rfl e3)) fun D σ H q => ?_
    obtain ⟨q1, d, q2, q3, q4⟩ := q
    refine ⟨_, q2, .inr (.inr (.inl ⟨rfl, .inl ⟨_, q3⟩⟩)), q1, fun p hp => ?_⟩
    have hd : d ≠ p := ne_of_none q3 hp
    refine ⟨d, p, _, _, rfl, rfl, by rw [upd_ne hd]; exact q3, upd_same, hd, ?_, ?_⟩
    · have : (soFar i n).length = n := by simp [soFar]
      rw [this, sizeLine_eq]
      show n + 2 ≤ _
      omega
    · rw [grow]
      exact q4 p hp _
  · cases he
theorem pe_lockK {X : Cx} {e : Expr} {t : TE} (h : PE X e t) : PE X e (fun σ H Q => t σ H fun x H1 => ∃ d kvs, x = .ref d ∧ H1 d = some (.dK kvs) ∧ ∀ o, Q x (upd H1 d (.frz o (.dK kvs)))) := by
  refine ⟨fun pins s σ H Q I q => thn (h.run pins s σ H _ I q) fun u s1 ⟨x, H1, I1, r, d, kvs, ex, hd, z⟩ => ?_⟩
  subst ex
  obtain ⟨o, I2⟩ := I1.lock hd (show Mut (some (.dK kvs)) from True.intro)
  exact ⟨_, _, I2, r, z o⟩
/-- the words so far: the i-th, if its turn has come -/
def wSo (i n : Nat) : List V := if i < n then [.str (cWords.getD i "")] else []
theorem soFar_val {i j : Nat} (hj : j < 12) : valV (soFar i 12) (Sum.inr (cWords.getD j "")) = some (.bl (decide (i = j))) := by
  have h : ∀ j : Fin 12, ∀ i : Nat, valV (soFar i 12) (Sum.inr (cWords.getD j.1 "")) = some (.bl (decide (i = j.1))) := by
    intro j i
    have e : soFar i 12 = [kw "records" (decide (i = 0)), kw "rules" (decide (i = 1)), kw "group" (decide (i = 2)), kw "run" (decide (i = 3)), kw "partition" (decide (i = 4)), kw "number" (decide (i = 5)), kw "record" (decide (i = 6)), kw "text" (decide (i = 7)), kw "match" (decide (i = 8)), kw "many" (decide (i = 9)), kw "alone" (decide (i = 10)), kw "undo" (decide (i = 11))] := rfl
    rw [e]
    match j with
    | ⟨0, _⟩ | ⟨1, _⟩ | ⟨2, _⟩ | ⟨3, _⟩ | ⟨4, _⟩ | ⟨5, _⟩ | ⟨6, _⟩ | ⟨7, _⟩ | ⟨8, _⟩ | ⟨9, _⟩ | ⟨10, _⟩ | ⟨11, _⟩ => rfl
  exact h ⟨j, hj⟩ i
/-- names = [name for name in some if some[name]] -/
theorem p_names (h : HeldC Y sg R cs i a oe) {st : Stmt} (he : asgIs "names" (lcIs sg) st = true) :
    PS Y st (fun D σ H => ∃ d, σ[4]? = some (some (.ref d)) ∧ σ.length = 7 ∧ H d = some (.dK (soFar i 12)) ∧ ∀ l, H l = none → ∀ u, D.nx (σ.set 5 (some (.ref l))) (upd (upd H d u) l (.lst (wSo i 12)))) := by
  obtain ⟨p, e, q, rfl, hc⟩ := asg_ok he
  clear he
  unfold lcIs at hc
  split at hc
  case h_2 => cases hc
  rename_i xe xt xi xo xk ps sc pe
  simp only [Bool.and_eq_true, decide_eq_true_eq] at hc
  obtain ⟨⟨⟨⟨⟨⟨⟨e1, e2⟩, e3⟩, e4⟩, e5⟩, e6⟩, e7⟩, e8⟩ := hc
  obtain ⟨w1, rfl⟩ := nm_ok e1
  obtain ⟨w2, rfl⟩ := nm_ok e2
  obtain ⟨w3, rfl⟩ := nm_ok e3
  obtain ⟨w4, rfl⟩ := nm_ok e4
  obtain ⟨w5, rfl⟩ := nm_ok e5
  have ndN : Y.N.Nodup := by rw [h.N]; decide
  have hb : BlkOk Y.N Y.env.scope sc [("name", 6)] := blkOk_by (by rw [h.N, h.sc]; exact e6)
  have e8' : (relS sc Y.env.scope).names.lookup ("name" : Str) = some .local := by rw [h.sc]; exact e8
  have e7' : Vis (relS sc Y.env.scope) "some" := by rw [h.sc]; exact visB_ok e7
  have hN6 : Y.N[6]? = some ("name" : Str) := by rw [h.N]; rfl
  have hN4 : Y.N[4]? = some ("some" : Str) := by rw [h.N]; rfl
  have hN5 : Y.N[5]? = some ("names" : Str) := by rw [h.N]; rfl
  have loc5 : Y.env.scope.names.lookup ("names" : Str) = some .local := by rw [h.sc]; exact h.F.loc _ (by decide)
  have P : PS Y (.Assign [.Name "names" p] (.ListComp (.Name "name" w1) [⟨.Name "name" w2, .Name "some" w3, [.Subscript (.Name "some" w4) (.Name "name" w5) ps], 0⟩] sc pe) q) (tAsg (tLc (iKeys fun σ H Q => tVar 4 σ H fun x H1 => ∃ d kvs, x = .ref d ∧ H1 d = some (.dK kvs) ∧ ∀ o, Q x (upd H1 d (.frz o (.dK kvs)))) (gName 6) (tB (tDGet (tVar 4) (tVar 6))) (tVar 6) [6]) (gName 5)) := by
    rcases sw_lc (elt := .Name "name" w1) (gs := [⟨.Name "name" w2, .Name "some" w3, [.Subscript (.Name "some" w4) (.Name "name" w5) ps], 0⟩]) (scope := sc) (pos := pe) (py := p) (y := "names") (l := q.line) (env := Y.env) with z | ⟨z, hyl⟩
    · exact ps_set (i := 5) ndN hN5 (.inl loc5) (pe_lc (X := Y) (own := [("name", 6)]) (g := gName 6) (pos := pe) h.calm ndN (pi_keys (pe_lockK (h.var (j := 4) rfl (.inr (.inr (.inr rfl)))))) hb (fun s H C cl fp => pg_name (X := Y.blk s H sc (compEnvC sc cl C Y.env) fp) (i := 6) ndN hN6 (.inl e8') (.inr e8')) (fun s H C cl fp => pts_one (pt_val (X := Y.blk s H sc (compEnvC sc cl C Y.env) fp) (pe_dget (X := Y.blk s H sc (compEnvC sc cl C Y.env) fp) (pos := ps) (by have := h.un; show Y.A.units + 1 < cLine; omega) (pe_var (i := 4) hN4 e7') (pe_var (i := 6) hN6 (.inl e8')) (fun _ _ => rfl)))) (fun s H C cl fp => pe_var (X := Y.blk s H sc (compEnvC sc cl C Y.env) fp) (i := 6) hN6 (.inl e8'))) z (.inr loc5)
    · exact ps_setLc (i := 5) (own := [("name", 6)]) (g := gName 6) h.calm ndN hN5 hyl z (pi_keys (pe_lockK (h.var (j := 4) rfl (.inr (.inr (.inr rfl)))))) hb (fun s H C cl fp => pg_name (X := Y.blk s H sc (compEnvC sc cl C Y.env) fp) (i := 6) ndN hN6 (.inl e8') (.inr e8')) (fun s H C cl fp => pts_one (pt_val (X := Y.blk s H sc (compEnvC sc cl C Y.env) fp) (pe_dget (X := Y.blk s H sc (compEnvC sc cl C Y.env) fp) (pos := ps) (by have := h.un; show Y.A.units + 1 < cLine; omega) (pe_var (i := 4) hN4 e7') (pe_var (i := 6) hN6 (.inl e8')) (fun _ _ => rfl)))) (fun s H C cl fp => pe_var (X := Y.blk s H sc (compEnvC sc cl C Y.env) fp) (i := 6) hN6 (.inl e8'))
  refine ps_wk P fun D σ H z => ?_
  obtain ⟨d, z1, z2, z3, z4⟩ := z
  refine ⟨_, z1, d, _, rfl, z3, fun o => ⟨d, o, rfl, .inl ⟨_, upd_same, fun Dl hD => ?_⟩⟩⟩
  have hdl : d ≠ Dl := fun e => by rw [← e, upd_same] at hD; cases hD
  have hDl : H Dl = none := by rw [upd_ne (Ne.symm hdl)] at hD; exact hD
  refine lc_it walk_keys (fun n H' => H' = upd (upd H d (.frz o (.dK (soFar i 12)))) Dl (.lst (wSo i n))) ?_ ?_ ?_ ?_
  · rfl
  · rintro n H' _ rfl
    rw [upd_ne hdl, upd_same]
  · rintro n x H' H2 hn rfl ⟨rfl, k, v, hk, rfl⟩
    have hn12 : n < 12 := hn
    have hkv : (soFar i 12)[n]? = some (kw (cWords.getD n "") (decide (i = n))) := by
      unfold soFar
      rw [List.getElem?_map, List.getElem?_range hn12]; rfl
    rw [hkv] at hk
    obtain ⟨rfl, rfl⟩ := Prod.mk.inj (Option.some.inj hk)
    have l6 : 6 < (wipe σ [6]).length := by show 6 < (σ.set 6 none).length; rw [List.length_set, z2]; decide
    have w4 : ((wipe σ [6]).set 6 (some (kV (Sum.inr (cWords.getD n "")))))[4]? = some (some (.ref d)) := by
      show ((σ.set 6 none).set 6 _)[4]? = _
      rw [List.getElem?_set_ne (by decide), List.getElem?_set_ne (by decide)]; exact z1
    have w6 : ((wipe σ [6]).set 6 (some (kV (Sum.inr (cWords.getD n "")))))[6]? = some (some (kV (Sum.inr (cWords.getD n "")))) := List.getElem?_set_self l6
    refine ⟨by show ((σ.set 6 none).set 6 _).set 6 none = σ.set 6 none; rw [List.set_set, List.set_set], ?_⟩
    refine ⟨_, w4, _, w6, d, .bl (decide (i = n)), rfl, .inl ⟨_, _, .inr ⟨o, by rw [upd_ne hdl, upd_same]⟩, rfl, (soFar_val hn12).symm⟩, _, rfl, ?_⟩
    by_cases hin : i = n
    · subst hin
      rw [if_pos (decide_eq_true rfl)]
      refine ⟨_, w6, wSo i i, upd_same, by simp [wSo]; rw [sizeLine_eq]; decide, ?_⟩
      funext b
      by_cases hb : b = Dl
      · subst hb; rw [upd_same, upd_same]; simp [wSo, kV]
      · rw [upd_ne hb, upd_ne hb, upd_ne hb]
    · show (if decide (i = n) = true then _ else _)
      rw [if_neg (by simpa using hin)]
      have : wSo i n = wSo i (n + 1) := by
        unfold wSo
        by_cases h1 : i < n
        · rw [if_pos h1, if_pos (by omega)]
        · rw [if_neg h1, if_neg (by omega)]
      rw [this]
  · rintro H' rfl
    exact z4 Dl hDl _
/-- the last row: a tuple of the word -/
theorem p_ret (h : HeldC Y sg R cs i a oe) (hi : i < 12) {st : Stmt} (he : retIs st = true) :
    PS Y st (fun D σ H => At1 a σ ∧ ∃ l, σ[5]? = some (some (.ref l)) ∧ H l = some (.lst (wSo i 12)) ∧ ∀ p, H p = none → D.rt (.ref p) (upd H p (.tup [.str (cWords.getD i "")]))) := by
  have hw : wSo i 12 = [.str (cWords.getD i "")] := if_pos hi
  unfold retIs at he
  split at he
  case h_2 => cases he
  simp only [Bool.and_eq_true] at he
  obtain ⟨⟨⟨⟨e1, e2⟩, e3⟩, e4⟩, e5⟩ := he
  unfold oneIs at e1
  split at e1
  case h_2 => cases e1
  simp only [Bool.and_eq_true] at e1
  obtain ⟨⟨f1, f2⟩, f3⟩ := e1
  obtain ⟨_, rfl⟩ := nm_ok f1
  obtain ⟨_, rfl⟩ := nm_ok f2
  obtain ⟨_, _, rfl⟩ := int_ok f3
  obtain ⟨_, rfl⟩ := nm_ok e3
  obtain ⟨_, _, rfl⟩ := int_ok e4
  obtain ⟨_, _, rfl⟩ := tx_ok e5
  have hv := p_isv h e2
  obtain ⟨_, _, _, _, rfl⟩ := isi_ok e2
  refine ps_wk (ps_ret (pe_ifExp (PW.pt (pw_and (pt_cmpR op_eq (pe_callB call_len_seq (h.gl (x := "len") (by decide)) h.F.blt.2.1 PySem.boot_len (pa_cons (h.var (j := 5) rfl (.inr (.inr (.inl rfl)))) pa_nil)) pe_int (nomark _)) (pw_and1 (pt_val hv))))
    (pe_tup (pa_cons (pe_ix ix_list (h.var (j := 5) rfl (.inr (.inr (.inl rfl)))) pe_int (fun _ _ => rfl)) pa_nil)) (pe_tup (pa_cons pe_str pa_nil)))) fun D σ H z => ?_
  obtain ⟨z1, l, z2, z3, z4⟩ := z
  rw [hw] at z3
  refine ⟨_, z2, l, _, rfl, .inl (SqL.of z3), rfl, _, rfl, ?_⟩
  have one : decide (V.int ([V.str (cWords.getD i "")].length : Nat) = V.int 1) = true := decide_eq_true rfl
  rw [one]
  show (if true = true then _ else _)
  rw [if_pos rfl]
  refine ⟨z1, true, rfl, ?_⟩
  show (if true = true then _ else _)
  rw [if_pos rfl]
  refine ⟨_, z2, l, _, _, _, rfl, rfl, SqL.of z3, rfl, ?_⟩
  refine ⟨by show 1 ≤ sizeLine; rw [sizeLine_eq]; decide, fun p hp => z4 p hp⟩
end
end G11

/-! Res2: _law_result, whole -/
namespace G11
open PySem PySem.Spec PyProof.Rows L2
theorem sw_nones {a b : Str} {p q p1 p2 w3 w4 : Pos} {k1 k2 j1 j2 : Nat} {env : Env} : swappedStores [.Tuple [.Name a p, .Name b q] k1 p1] (.Tuple [.Constant .none j1 w3, .Constant .none j2 w4] k2 p2) env = pure none := by
  unfold swappedStores
  dsimp only
  split
  · rfl
  · split
    · rfl
    · split
      · rfl
      · rfl
section
variable {Y : Cx} {sg : Scope}
/-- raised, answer = None, None -/
theorem p_par (hN : Y.N = Nr) (hs : Y.env.scope = sg) (hc : Y.calm = true) (h1 : sg.names.lookup ("raised" : Str) = some .local) (h2 : sg.names.lookup ("answer" : Str) = some .local) {st : Stmt} (he : parIs st = true) :
    PS Y st (fun D σ H => ∀ p, H p = none → D.nx ((σ.set 1 (some .non)).set 2 (some .non)) (upd H p (.tup [.non, .non]))) := by
  unfold parIs at he
  split at he
  case h_2 => cases he
  simp only [Bool.and_eq_true] at he
  obtain ⟨⟨⟨e1, e2⟩, e3⟩, e4⟩ := he
  obtain ⟨w1, rfl⟩ := nm_ok e1
  obtain ⟨w2, rfl⟩ := nm_ok e2
  obtain ⟨j1, w3, rfl⟩ := none_ok e3
  obtain ⟨j2, w4, rfl⟩ := none_ok e4
  have nd : Y.N.Nodup := by rw [hN]; decide
  have n1 : Y.N[1]? = some ("raised" : Str) := by rw [hN]; rfl
  have n2 : Y.N[2]? = some ("answer" : Str) := by rw [hN]; rfl
  have l1 : Y.env.scope.names.lookup ("raised" : Str) = some .local := by rw [hs]; exact h1
  have l2 : Y.env.scope.names.lookup ("answer" : Str) = some .local := by rw [hs]; exact h2
  refine ps_wk (ps_asg (pe_tup (pa_cons pe_non (pa_cons pe_non pa_nil))) (pg_tup hc (pgs_cons (pg_name (i := 1) nd n1 (.inl l1) (.inr l1)) (pgs_cons (pg_name (i := 2) nd n2 (.inl l2) (.inr l2)) pgs_nil))) (by rfl) sw_nones) fun D σ H z => ?_
  refine ⟨by show 2 ≤ sizeLine; rw [sizeLine_eq]; decide, fun p hp => ⟨p, _, rfl, SqT.of upd_same, rfl, ?_⟩⟩
  exact ⟨_, _, rfl, _, _, rfl, rfl, z p hp⟩
/-- if raised is None: return ("returns", answer) -/
theorem p_ok (hN : Y.N = Nr) (hs : Y.env.scope = sg) (h1 : sg.names.lookup ("raised" : Str) = some .local) (h2 : sg.names.lookup ("answer" : Str) = some .local) {st : Stmt} (he : okIs st = true) :
    PS Y st (fun D σ H => ∃ r, σ[1]? = some (some r) ∧ (r = .non → ∃ v, σ[2]? = some (some v) ∧ ∀ p, H p = none → D.rt (.ref p) (upd H p (.tup [.str "returns", v]))) ∧ (r ≠ .non → D.nx σ H)) := by
  unfold okIs at he
  split at he
  case h_2 => cases he
  simp only [Bool.and_eq_true] at he
  obtain ⟨⟨⟨e1, e2⟩, e3⟩, e4⟩ := he
  obtain ⟨w1, rfl⟩ := nm_ok e1
  obtain ⟨j2, w2, rfl⟩ := none_ok e2
  obtain ⟨j3, w3, rfl⟩ := tx_ok e3
  obtain ⟨w4, rfl⟩ := nm_ok e4
  have n1 : Y.N[1]? = some ("raised" : Str) := by rw [hN]; rfl
  have n2 : Y.N[2]? = some ("answer" : Str) := by rw [hN]; rfl
  have l1 : Vis Y.env.scope "raised" := by rw [hs]; exact .inl h1
  have l2 : Vis Y.env.scope "answer" := by rw [hs]; exact .inl h2
  refine ps_wk (ps_if (pt_cmp (pc_isN (pe_var (i := 1) n1 l1))) (pss_one (ps_ret (pe_tup (pa_cons pe_str (pa_cons (pe_var (i := 2) n2 l2) pa_nil))))) pss_nil) fun D σ H z => ?_
  obtain ⟨r, z1, z2, z3⟩ := z
  refine ⟨_, z1, _, rfl, ?_⟩
  by_cases hr : r = .non
  · rw [decide_eq_true hr]
    obtain ⟨v, y1, y2⟩ := z2 hr
    show (if true = true then _ else _)
    rw [if_pos rfl]
    exact ⟨_, y1, by show 2 ≤ sizeLine; rw [sizeLine_eq]; decide, fun p hp => y2 p hp⟩
  · rw [decide_eq_false hr]
    show (if false = true then _ else _)
    rw [if_neg Bool.false_ne_true]
    exact z3 hr
end
/-- what the exception branch leads to -/
def heldTo (i : Nat) (a : Addr) : TS := fun D σ H => At1 a σ ∧ σ.length = 7 ∧ ∀ H2 p, (∀ b o, H b = some o → H2 b = some o) → H p = none → H2 p = some (.tup [.str (cWords.getD i "")]) → D.rt (.ref p) H2
section
variable {Y : Cx} {sg : Scope} {R : Addr} {cs : List Addr} {i : Nat} {a : Addr} {oe : Obj}
theorem up_keep {H : Hp} {p : Addr} {o : HO} (hp : H p = none) : ∀ b u, H b = some u → upd H p o b = some u := fun b u e => by rw [upd_ne (ne_of_none e hp)]; exact e
/-- the rest, an exception of the i-th class held -/
theorem p_rest (h : HeldC Y sg R cs i a oe) (hi : i < 12) {s3 s4 s5 s6 s7 s8 s9 s10 s11 : Stmt} (e3 : okIs s3 = true) (e4 : asgIs "some" (dictIs "records" "InvalidRecords" "rules" "InvalidRules") s4 = true) (e5 : updIs "group" "InvalidGroup" "run" "InvalidRun" s5 = true) (e6 : updIs "partition" "InvalidPartition" "number" "InvalidNumber" s6 = true)
    (e7 : updIs "record" "InvalidRecord" "text" "InvalidText" s7 = true) (e8 : updIs "match" "NoMatch" "many" "TooMany" s8 = true) (e9 : updIs "alone" "Alone" "undo" "NothingToUndo" s9 = true) (e10 : asgIs "names" (lcIs sg) s10 = true) (e11 : retIs s11 = true) :
    PSs Y [s3, s4, s5, s6, s7, s8, s9, s10, s11] (heldTo i a) := by
  have nd : Y.N.Nodup := by rw [h.N]; decide
  have n4 : Y.N[4]? = some ("some" : Str) := by rw [h.N]; rfl
  have l4 : Loc Y.env.scope "some" := by rw [h.sc]; exact .inr h.F.cell
  have P3 := p_ok h.N h.sc (h.F.loc _ (by decide)) (h.F.loc _ (by decide)) e3
  have P4 : PS Y s4 (fun D σ H => At1 a σ ∧ ∀ d, H d = none → D.nx (σ.set 4 (some (.ref d))) (upd H d (.dK (soFar i 2)))) := by
    obtain ⟨w, e, q, rfl, he⟩ := asg_ok e4
    have Q := p_dict h (j := 0) (j' := 1) rfl rfl (by decide) he
    obtain ⟨_, _, _, _, u, v, _, rfl, _, _⟩ := dict_ok he
    exact ps_wk (ps_set (i := 4) nd n4 l4 Q (hf := .inl h.fn)) fun D σ H z => ⟨z.1, fun p hp => z.2 p hp⟩
  have P5 := p_upd h (n := 2) (by decide) rfl rfl rfl rfl e5
  have P6 := p_upd h (n := 4) (by decide) rfl rfl rfl rfl e6
  have P7 := p_upd h (n := 6) (by decide) rfl rfl rfl rfl e7
  have P8 := p_upd h (n := 8) (by decide) rfl rfl rfl rfl e8
  have P9 := p_upd h (n := 10) (by decide) rfl rfl rfl rfl e9
  have P10 := p_names h e10
  have P11 := p_ret h hi e11
  have P := pss_cons P3 (pss_cons P4 (pss_cons P5 (pss_cons P6 (pss_cons P7 (pss_cons P8 (pss_cons P9 (pss_cons P10 (pss_one P11))))))))
  refine ⟨fun pins s σ H D I z => P.run pins s σ H D I ?_⟩
  obtain ⟨z1, z2, z3⟩ := z
  refine ⟨_, z1, ⟨(fun e => by cases e), fun _ => ⟨z1, fun d hd => ?_⟩⟩⟩
  have a1 : At1 a (σ.set 4 (some (.ref d))) := by show (σ.set 4 _)[1]? = _; rw [List.getElem?_set_ne (by decide)]; exact z1
  have a4 : (σ.set 4 (some (V.ref d)))[4]? = some (some (.ref d)) := List.getElem?_set_self (by omega)
  -- one more pair
  have more : ∀ {n : Nat} {H1 : Hp} {K : L2.St → Hp → Prop}, H1 d = some (.dK (soFar i n)) → (∀ H2, H2 d = some (.dK (soFar i (n + 2))) → (∀ b o, b ≠ d → H1 b = some o → H2 b = some o) → (∀ b, H2 b = none → H1 b = none) → K (σ.set 4 (some (.ref d))) H2) →
      At1 a (σ.set 4 (some (.ref d))) ∧ ∃ d', (σ.set 4 (some (V.ref d)))[4]? = some (some (.ref d')) ∧ H1 d' = some (.dK (soFar i n)) ∧ ∀ p, H1 p = none → ∀ u, K (σ.set 4 (some (.ref d))) (upd (upd H1 p u) d' (.dK (soFar i (n + 2)))) := fun {n H1 K} h1 k => by
    refine ⟨a1, d, a4, h1, fun p hp u => k _ upd_same (fun b o hb e => ?_) fun b e => ?_⟩
    · rw [upd_ne hb, upd_ne (ne_of_none e hp)]; exact e
    · by_cases hb : b = d
      · subst hb; rw [upd_same] at e; cases e
      · rw [upd_ne hb] at e
        by_cases hp' : b = p
        · subst hp'; rw [upd_same] at e; cases e
        · rw [upd_ne hp'] at e; exact e
  refine more upd_same fun H1 x1 y1 u1 => more x1 fun H2 x2 y2 u2 => more x2 fun H3 x3 y3 u3 => more x3 fun H4 x4 y4 u4 => more x4 fun H5 x5 y5 u5 => ?_
  refine ⟨d, a4, by rw [List.length_set]; exact z2, x5, fun l hl u => ?_⟩
  have hdl : d ≠ l := ne_of_none x5 hl
  refine ⟨?_, l, ?_, upd_same, fun p hp => ?_⟩
  · show ((σ.set 4 _).set 5 _)[1]? = _
    rw [List.getElem?_set_ne (by decide), List.getElem?_set_ne (by decide)]; exact z1
  · exact List.getElem?_set_self (by rw [List.length_set]; omega)
  · have hpl : p ≠ l := fun e => by subst e; rw [upd_same] at hp; cases hp
    rw [upd_ne hpl] at hp
    have hpd : p ≠ d := fun e => by subst e; rw [upd_same] at hp; cases hp
    rw [upd_ne hpd] at hp
    have back : H p = none := by
      have := u1 p (u2 p (u3 p (u4 p (u5 p hp))))
      rw [upd_ne hpd] at this; exact this
    refine z3 _ p (fun b o e => ?_) back upd_same
    have bd : b ≠ d := ne_of_none e hd
    have e1 : H5 b = some o := y5 b o bd (y4 b o bd (y3 b o bd (y2 b o bd (y1 b o bd (by rw [upd_ne bd]; exact e)))))
    have bl : b ≠ l := ne_of_none e1 hl
    have bp : b ≠ p := ne_of_none e back
    rw [upd_ne bp, upd_ne bl, upd_ne bd]; exact e1
end
/-! ### the def -/
/-- what is wanted of the lambda's body: its answer in a pair, or the word of its error -/
def TTres (cs : List Addr) : (XK → Hp → VK → Prop) → Hp → VK → Prop := fun tl H Q => ∀ p0, H p0 = none →
  tl (fun cls d H1 => d = none ∧ ∃ i c, cs[i]? = some c ∧ cls = .ref c ∧ ∀ H2 p, (∀ b o, H1 b = some o → H2 b = some o) → H1 p = none → H2 p = some (.tup [.str (cWords.getD i "")]) → Q (.ref p) H2) (upd H p0 (.tup [.non, .non]))
    fun v H1 => ∀ p, H1 p = none → Q (.ref p) (upd H1 p (.tup [.str "returns", v]))
theorem res_gives {X : Cx} {x q : Str} {sg : Scope} {g R : Addr} {cdg : Value} {bg : List Stmt} {cs : List Addr} (hb : resIs sg bg = true) (F : ResF X.K X.mg sg R cs) (hu : X.A.units + 80 < cLine) : LamX.GivesTo X Nr x sg g cdg bg "call" q (TTres cs) := by
  unfold resIs at hb
  split at hb
  case h_2 => cases hb
  simp only [Bool.and_eq_true] at hb
  obtain ⟨⟨⟨⟨⟨⟨⟨⟨⟨⟨e1, e2⟩, e3⟩, e4⟩, e5⟩, e6⟩, e7⟩, e8⟩, e9⟩, e10⟩, e11⟩ := hb
  unfold tryIs at e2
  split at e2
  case h_2 => cases e2
  simp only [Bool.and_eq_true, decide_eq_true_eq] at e2
  obtain ⟨⟨⟨f1, f2⟩, rfl⟩, f4⟩ := e2
  obtain ⟨w1, b1, q1, rfl, g1⟩ := asg_ok f1
  obtain ⟨w2, rfl⟩ := nm_ok f2
  obtain ⟨w3, b3, q3, rfl, g4⟩ := asg_ok f4
  obtain ⟨w4, rfl⟩ := nm_ok g4
  clear f1 f4
  unfold actIs at g1
  split at g1
  case h_2 => cases g1
  obtain ⟨w5, rfl⟩ := nm_ok g1
  intro f c' s H Q tl act hc h
  obtain ⟨Z, hZ⟩ : ∃ Z, Z = cxOf C8.CX0 X.prog X.w X.K X.mg X.base Nr x sg g cdg X.A X.stack s H C8.E0 := ⟨_, rfl⟩
  rw [← hZ] at act ⊢
  have zN : Z.N = Nr := by rw [hZ]; rfl
  have zs : Z.env.scope = sg := by rw [hZ]; rfl
  have zc : Z.calm = true := by rw [hZ]; rfl
  have zK : Z.K = X.K := by rw [hZ]; rfl
  have zm : Z.mg = X.mg := by rw [hZ]; rfl
  have zf : ∀ y, Z.fn y = true := by rw [hZ]; exact fun _ => rfl
  have zst : Z.stack = Z.env :: Z.outer := by rw [hZ]; rfl
  have zfr : Z.env.frame = some Z.env.locals := by rw [hZ]; rfl
  have zu : Z.A.units + 65 < cLine := by rw [hZ]; show (X.A.deeper _).units + 65 < cLine; simp; omega
  have FZ : ResF Z.K Z.mg sg R cs := by rw [zK, zm]; exact F
  have nd : Z.N.Nodup := by rw [zN]; decide
  have lc : ∀ y ∈ (["call", "raised", "answer", "e", "names"] : List Str), Z.env.scope.names.lookup y = some .local := by rw [zs]; exact F.loc
  have n1 : Z.N[1]? = some ("raised" : Str) := by rw [zN]; rfl
  have n2 : Z.N[2]? = some ("answer" : Str) := by rw [zN]; rfl
  have n3 : Z.N[3]? = some ("e" : Str) := by rw [zN]; rfl
  have gR : Gl Z "RecordError" := by show Z.env.scope.names.lookup _ = _; rw [zs]; exact F.glo _ (by decide)
  refine ⟨_, pss_cons (p_par (Y := Z.nox) zN zs zc (F.loc _ (by decide)) (F.loc _ (by decide)) e1) (pss_held (X := Z.nox) (i := 3) (j := 1) (c := .ref R) (Wout := fun _ _ _ _ => False)
    (tb := fun W D σ H => ∃ Ech : XK, (∀ cls d σ' H', Ech cls d H' → W cls d σ' H') ∧ σ[0]? = some (some (.ref f)) ∧ H c' = some (LamX.CodeO c' q) ∧ tl Ech H fun v H1 => D.nx (σ.set 2 (some v)) H1)
    (t1 := fun a cls d D σ H => ∃ i c, cs[i]? = some c ∧ cls = .ref c ∧ d = none ∧ heldTo i a D σ H)
    zst zfr nd n3 (lc _ (by decide)) n1 (lc _ (by decide)) (by decide) (by rw [show Z.nox.N = Z.N from rfl, zN]; decide) ⟨gR, by decide, .inl (by rw [show Z.nox.mg = Z.mg from rfl, zm]; exact F.mR)⟩ LamX.takes0 (by decide) (by decide)
    (fun W pn xe tk _ => ?_) (pss_cons (u := fun _ _ _ => False) (p_ok (Y := Z.nox) zN zs (F.loc _ (by decide)) (F.loc _ (by decide)) e3) ⟨fun _ _ _ _ _ _ z => z.elim⟩) (fun a oe cls d pn hz hf => ?_)), ?_⟩
  · refine ⟨fun pins s' σ H' D I z => ?_⟩
    obtain ⟨Ech, z1, z2, z3, z4⟩ := z
    exact (pss_one (ps_set (X := Z.tr pn xe) (i := 2) nd n2 (.inl (lc _ (by decide))) (act W pn xe Ech w5 _ tk z1) (hf := .inl (zf _)))).run pins s' σ H' D I ⟨z2, z3, z4⟩
  · refine ⟨fun pins s' σ H' D I z => ?_⟩
    obtain ⟨i, c, y1, rfl, rfl, y2⟩ := z
    have hi : i < 12 := by rw [← F.len]; exact (List.getElem?_eq_some_iff.mp y1).1
    have HC : HeldC (Z.nox.tr ((a, oe) :: pn) Z.nox.xe) sg R cs i a oe := ⟨zN, zs, zc, zu, zf _, FZ, by simp, ⟨c, y1, hz⟩, hf⟩
    exact (p_rest HC hi e3 e4 e5 e6 e7 e8 e9 e10 e11).run pins s' σ H' D I y2
  · intro p0 hp0
    have h := h p0 hp0
    have hne : c' ≠ p0 := ne_of_none hc hp0
    have st1 : (((L2.start Nr [V.ref f]).set 1 (some .non)).set 2 (some .non))[0]? = some (some (.ref f)) := rfl
    refine ⟨fun cls d H1 => d = none ∧ ∃ i c, cs[i]? = some c ∧ cls = .ref c ∧ ∀ H2 p, (∀ b o, H1 b = some o → H2 b = some o) → H1 p = none → H2 p = some (.tup [.str (cWords.getD i "")]) → Q (.ref p) H2, fun cls d σ' H1 z => ?_, st1, by rw [upd_ne hne]; exact hc, ?_⟩
    · obtain ⟨rfl, i, c, y1, rfl, y2⟩ := z
      refine ⟨true, by rw [show Z.nox.K = Z.K from rfl]; exact FZ.ctch i c y1, fun _ hl a ha => ⟨i, c, y1, rfl, rfl, ?_, ?_, y2⟩, fun e => by cases e⟩
      · have hl7 : σ'.length = 7 := by rw [hl, show Z.nox.N = Z.N from rfl, zN]; rfl
        show (((σ'.set 3 _).set 1 _).set 3 _)[1]? = _
        rw [List.getElem?_set_ne (by decide), List.getElem?_set_self (by rw [List.length_set]; omega)]
      · rw [List.length_set, List.length_set, List.length_set, hl, show Z.nox.N = Z.N from rfl, zN]; rfl
    · refine cast (congrArg _ ?_) h
      funext v H1
      refine propext ⟨fun z => ⟨.non, rfl, fun _ => ⟨v, rfl, z⟩, fun e => absurd rfl e⟩, fun z => ?_⟩
      obtain ⟨r, y1, y2, _⟩ := z
      have er : r = .non := by
        have : some (some V.non) = some (some r) := y1
        exact (Option.some.inj (Option.some.inj this)).symm
      obtain ⟨v', y3, y4⟩ := y2 er
      have ev : v' = v := by
        have : some (some v) = some (some v') := y3
        exact (Option.some.inj (Option.some.inj this)).symm
      rw [ev] at y4
      exact y4
end G11

/-! Res3: a lambda made and handed over, its maker's table told exactly -/
namespace G11
open PySem PySem.Spec PyProof.Rows L2 LamX
/-- the heap when the lambda is made: as before, or the table has one more, a new code object -/
def LamTo (H : Hp) (P : Addr) (q : Str) (H1 : Hp) : Prop := H1 = H ∨ ∃ ps c, H1 = upd (upd H P (.tbl ps)) c (CodeO c q) ∧ H c = none ∧ c ≠ P ∧ TabS H1 P q
section
variable {X : Cx} {pins : List (Addr × Obj)} {σ : L2.St} {H : Hp} {s : Shared}
abbrev lamO (X : Cx) (params : Arguments) (body : Expr) (scope : Scope) (pm : Value) (c : Addr) (ct : Value) : Obj := PySem.W.kla_obj "<lambda>" (X.env.qual ++ "<lambda>") params body scope (cloFrom X.env.cells scope.names []) pm c ct
theorem lam_make3 {c P : Addr} {params : Arguments} {body : Expr} {scope : Scope} {pos : Pos} {E Q : Value → Shared → Prop} (I : Inv X pins σ H s) (TB : TabB X.base X.mg c P) (hcode : X.env.code = .ref c) (hT : TabS H P (X.env.qual ++ "<lambda>")) (hdef : defaultsOf params X.env = ([], []))
    (hfree : ∀ y ∈ scope.names, y.2 = .free → ∃ c, X.env.cells.lookup y.1 = some c)
    (h : ∀ (f c' : Addr) (pm ctv : Value) (H1 : Hp) (s' : Shared), Inv X pins σ H1 s' → LamTo H P (X.env.qual ++ "<lambda>") H1 → TabS H1 P (X.env.qual ++ "<lambda>") → s'.heap.get? f = some (lamO X params body scope pm c' ctv) → H1 f = none → f ∉ frs X.stack → H1 c' = some (CodeO c' (X.env.qual ++ "<lambda>")) → Q (.ref f) s') :
    wpAny (model X.prog X.w) X.A (eval (.Lambda params body scope pos) X.env) Q E s := by
  have hT0 := hT
  obtain ⟨ps, hP, ht, ha⟩ := hT
  refine PySem.W.kla_eval hdef ?_
  have gP : s.heap.get? P = some { cls := .none, data := .fields ps } := I.hok P _ hP
  have far : ∀ f, s.heap.objs.size ≤ f → f ∉ frs X.stack := fun f hf z => (List.mem_cons.mp (I.stkSub _ z)).elim (fun e => absurd I.lt (by rw [← e]; exact Nat.not_lt.mpr hf)) fun e => I.nofs hf e
  rcases hc : codeAmong pos ps.toList with _ | cv
  · refine PySem.W.kla_makeFunction (mg := X.mg) (c := c) (P := P) (ps := ps) (closure_ok hfree) I.ok.glob (I.mod.glob.keeps I.bk) hcode (TB.code.keeps I.bk) gP ht hc TB.gP (TB.bm.keeps I.bk) fun c' ctv g tk hx hge hlt hrec htb => ?_
    obtain ⟨c2, oc, vs, t, e2, hoc, hd, hv⟩ := hrec
    cases e2
    have big : s.heap.objs.size ≤ g.objs.size := Nat.le_trans hge (Nat.le_of_lt hlt)
    have nC : H c' = none := I.hok.fresh hge
    have nPc : c' ≠ P := fun z => by rw [z, hP] at nC; cases nC
    obtain ⟨more, em⟩ : ∃ more : Array Value, more = #[rawInt pos.line, rawInt pos.col, .ref c'] := ⟨_, rfl⟩
    rw [← em] at htb
    have J := inv_table (t' := tk) (more := more) (h' := g.push (lamO X params body scope ((X.mg "__name__").getD .none) c' ctv)) I hP (fun b o hb e => Heap.get?_push_of_some _ (hx b o hb e)) (Heap.get?_push_of_some _ htb) hge ⟨oc, vs, t, Heap.get?_push_of_some _ hoc, hd, hv⟩
    have atP : upd (upd H P (.tbl (ps ++ more))) c' (CodeO c' (X.env.qual ++ "<lambda>")) P = some (.tbl (ps ++ more)) := by rw [upd_ne (Ne.symm nPc), upd_same]
    have eL : (ps ++ more).toList = ps.toList ++ [rawInt pos.line, rawInt pos.col, .ref c'] := by rw [em]; simp
    have T1 : TabS (upd (upd H P (.tbl (ps ++ more))) c' (CodeO c' (X.env.qual ++ "<lambda>"))) P (X.env.qual ++ "<lambda>") := by
      refine ⟨_, atP, by rw [eL]; exact PySem.TriplesOk_snoc _ _ _ _ ht, fun p' cv hcv => ?_⟩
      rw [eL] at hcv
      rcases among_app _ ht hcv with z | z
      · obtain ⟨c0, e1, e3⟩ := ha p' cv z
        refine ⟨c0, e1, ?_⟩
        have n0 : c0 ≠ P := fun z => by rw [z, hP] at e3; exact codeO_ne ps (Option.some.inj e3).symm
        rw [upd_ne (ne_of_none e3 nC), upd_ne n0]; exact e3
      · exact ⟨c', z, upd_same⟩
    refine h g.objs.size c' ((X.mg "__name__").getD .none) ctv _ _ J (.inr ⟨_, c', rfl, nC, nPc, T1⟩) T1 (Heap.get?_push_size _ rfl) ?_ (far _ big) upd_same
    rw [upd_ne (Nat.ne_of_gt hlt), upd_ne (Nat.ne_of_gt (Nat.lt_of_lt_of_le (Heap.lt_size gP) big))]
    exact I.hok.fresh big
  · obtain ⟨c', rfl, hco⟩ := ha pos cv hc
    refine PySem.W.kla_makeFunctionHit (mg := X.mg) (c := c) (P := P) (ps := ps) (closure_ok hfree) I.ok.glob (I.mod.glob.keeps I.bk) hcode (TB.code.keeps I.bk) gP ht hc (TB.bm.keeps I.bk) fun ctv g tk hx hsz => ?_
    have J : Inv X pins σ H { s with heap := g.push (lamO X params body scope ((X.mg "__name__").getD .none) c' ctv), toks := tk } := I.kept fun b o e => Heap.get?_push_of_some _ (hx b o e)
    exact h g.objs.size c' ((X.mg "__name__").getD .none) ctv H _ J (.inl rfl) hT0 (Heap.get?_push_size _ rfl) (I.hok.fresh hsz) (far _ hsz) hco
end
/-- what x(lambda: body) asks -/
def tLam3 (P : Addr) (q : Str) (TT : (XK → Hp → VK → Prop) → Hp → VK → Prop) (t : XK → TE) : TE := fun σ H Q => TabS H P q ∧ ∀ H1, LamTo H P q H1 → TT (fun E H' Q' => t E σ H' Q') H1 Q
section
variable {X : Cx}
theorem pe_lamcall3 {TT : (XK → Hp → VK → Prop) → Hp → VK → Prop} {x a : Str} {g c P : Addr} {k : Nat} {pg : Arguments} {bg : List Stmt} {sg : Scope} {dV kV doc pm cdv ct oc : Value} {an od : Option Addr} {osl : Array (Option Value)} {Ng : List Str} {params : Arguments} {body : Expr} {scope : Scope} {t : XK → TE} {p lpos pos : Pos}
    (hg : Gl X x) (hm : X.mg x = some (.ref g)) (hk : PySem.W.keepIn X.K (.ref g) = true) (lk : X.K.lookup g = some ⟨oc, od, .func (PySem.W.fnOf x x pg bg sg dV kV doc pm an cdv ct), osl⟩) (hcg : PySem.W.codeIn X.K cdv x = true) (hb : L2.Binds X.K (PySem.W.fnOf x x pg bg sg dV kV doc pm an cdv ct) [a] [])
    (Sg : FnScope Ng [a] sg) (hNg : Ng[0]? = some a) (hva : Vis sg a) (hG : GivesTo X Ng x sg g cdv bg a (X.env.qual ++ "<lambda>") TT) (TB : TabB X.base X.mg c P) (hcode : X.env.code = .ref c) (hr : Room (k + 2) X.A) (L : LamS X.env.scope scope) (hdef : defaultsOf params X.env = ([], []))
    (hbind : ∀ (q : Str) (cl : List (Str × Addr)) (pm cv ctv : Value), bindArgs (PySem.W.kla_fn "<lambda>" q params body scope cl pm cv ctv) ⟨[], []⟩ = pure [])
    (hbody : ∀ (A : Around) (outer : List Env) (s : Shared) (H : Hp) (E : XK) (f c' : Addr), Room k (A.deeper (lamEnv X scope s.heap.objs.size f c')) → PE (lamCx X A outer s H E scope f c') body (t E))
    (hdb : (x == ("__debug__" : Str)) = false) (hd : (a == ("__debug__" : Str)) = false) (hcd : (a == ("__classdict__" : Str)) = false) :
    PE X (.Call (.Name x p) [.Lambda params body scope lpos] [] pos) (tLam3 P (X.env.qual ++ "<lambda>") TT t) := by
  refine ⟨fun pins s σ H Q I ⟨hT, h⟩ => ?_⟩
  refine wpAny_Call_Name_kw (ld_glob I hg hm (PySem.W.callWith_K (h₀ := X.base) I.ok.mod.kin hk ?_ (by rfl) (by rfl)) hdb)
  show wpAny _ _ (spliced ((false, eval (.Lambda params body scope lpos) X.env) :: backTo pos (starEach [] X.env))) _ _ s
  refine Calls.spliced_cons (lam_make3 I TB hcode hT hdef (L.has I.ok) fun f c' pm' ctv H1 s' I1 to T1 hf hfn hfr hco => Calls.spliced_nil ⟨I1.kIn, ?_⟩)
  have rc : codeAny (model X.prog X.w) X.A (.call (.ref g) ⟨[.ref f], []⟩) (CR C8.CX0 X.stack X.prog X.w H1 s' Q C8.E0) s' := by
    refine run_ofS (N := Ng) (ps := [a]) (us := [.ref f]) (vs := [.ref f]) lk hcg Sg hr I1.env0 (hb s' [.ref f] I1.kIn rfl) (.cons rfl .nil) rfl fun hr2 => ?_
    have act := fun W pn xe E p1 p2 tk hW => pe_act (p1 := p1) (p2 := p2) (pn := pn) (xe := xe) (W := W) (E := E) (CXg := C8.CX0) (Eg := C8.E0) (qg := x) (g := g) (cdg := cdv) (i := 0) I1 L hf hfn hfr (hbind _ _ _ _ _) tk hW hr2 (fun A outer s H hr3 => hbody A outer s H E f c' hr3) hNg hva hd hcd
    obtain ⟨t2, ht2, hq2⟩ := hG f c' s' H1 Q (fun E H' Q' => t E σ H' Q') act hco (h H1 to)
    exact ⟨t2, ht2.nox, hq2⟩
  refine wpAny_call (codeAny_mono rc fun r s2 hq => ?_)
  match r, hq with
  | .ok (.ret u), hq => exact I1.after hq
end
end G11

/-! Snd1: the interpreter's readings; one lemma a construct -/
namespace G11
open PySem PySem.Spec PyProof.Rows L2
variable [Fns]

/-- what is wanted behind a run of the interpreter that began at (m, H) -/
def Af (K : PySem.W.Frag) (m : Ms) (H : Hp) (W : Nat → Hp → Prop) {α : Type} (P : α → Ms → Hp → Prop) : R α → Prop
  | .ok a S' => ∀ H' m', Ext H m H' m' → OkS K H' m' S' → P a m' H'
  | .exc c S' => ∀ H' m', Ext H m H' m' → OkS K H' m' S' → W c H'
  | .bad => False
theorem Af.shift {K : PySem.W.Frag} {m m1 : Ms} {H H1 : Hp} {W : Nat → Hp → Prop} {α : Type} {P : α → Ms → Hp → Prop} {r : R α} (e : Ext H m H1 m1) (h : Af K m H W P r) : Af K m1 H1 W P r := by
  cases r with
  | ok a S => exact fun H' m' e' o => h H' m' (e.trans e') o
  | exc c S => exact fun H' m' e' o => h H' m' (e.trans e') o
  | bad => exact h

def PV (K : PySem.W.Frag) (Q : VK) : D → Ms → Hp → Prop := fun d m H => ∀ v, RD K H m d v → Q v H
def PVs (K : PySem.W.Frag) (Q : List V → Hp → Prop) : List D → Ms → Hp → Prop := fun ds m H => ∀ vs, RDs K H m ds vs → Q vs H
def PB (Q : Bool → Hp → Prop) : D → Ms → Hp → Prop := fun d _ H => ∃ b, d = .bl b ∧ Q b H
def PO' (Q : Option Int → Hp → Prop) : Option Int → Ms → Hp → Prop := fun d _ H => Q d H

section
variable (K : PySem.W.Frag) (G0 : Nat → List D → M D) (G : List D) (W : Nat → Hp → Prop)
def tI (e : E) : TE := fun σ H Q => ∃ m env S, OkS K H m S ∧ RelE K H m env σ ∧ Af K m H W (PV K Q) (ev G0 G e env S)
def tIs (e : Es) : TA := fun σ H Q => ∃ m env S, OkS K H m S ∧ RelE K H m env σ ∧ Af K m H W (PVs K Q) (evs G0 G e env S)
def tT (e : E) : TT := fun σ H Q => ∃ m env S, OkS K H m S ∧ RelE K H m env σ ∧ Af K m H W (PB Q) (ev G0 G e env S)
def tO (e : Oe) : TO := fun σ H Q => ∃ m env S, OkS K H m S ∧ RelE K H m env σ ∧ Af K m H W (PO' Q) (evO G0 G e env S)
end

section
variable {K : PySem.W.Frag} {G0 : Nat → List D → M D} {G : List D} {W : Nat → Hp → Prop} {H : Hp} {m : Ms} {S : Store} {env : EnvD} {σ : L2.St} {α : Type} {P : α → Ms → Hp → Prop}
theorem tI_bind {a : E} {f : D → M α} (ok : OkS K H m S) (re : RelE K H m env σ) (h : Af K m H W P (M.bind (ev G0 G a env) f S)) {Q : VK}
    (k : ∀ d S1 v H1 m1, Ext H m H1 m1 → OkS K H1 m1 S1 → RelE K H1 m1 env σ → RD K H1 m1 d v → Af K m1 H1 W P (f d S1) → Q v H1) : tI K G0 G W a σ H Q := by
  refine ⟨m, env, S, ok, re, ?_⟩
  unfold M.bind at h
  cases q : ev G0 G a env S with
  | ok d S1 =>
    rw [q] at h
    exact fun H1 m1 e o v r => k d S1 v H1 m1 e o (re.mono e) r (Af.shift e h)
  | exc c S1 => rw [q] at h; exact h
  | bad => rw [q] at h; exact h
theorem tIs_bind {a : Es} {f : List D → M α} (ok : OkS K H m S) (re : RelE K H m env σ) (h : Af K m H W P (M.bind (evs G0 G a env) f S)) {Q : List V → Hp → Prop}
    (k : ∀ d S1 v H1 m1, Ext H m H1 m1 → OkS K H1 m1 S1 → RelE K H1 m1 env σ → RDs K H1 m1 d v → Af K m1 H1 W P (f d S1) → Q v H1) : tIs K G0 G W a σ H Q := by
  refine ⟨m, env, S, ok, re, ?_⟩
  unfold M.bind at h
  cases q : evs G0 G a env S with
  | ok d S1 =>
    rw [q] at h
    exact fun H1 m1 e o v r => k d S1 v H1 m1 e o (re.mono e) r (Af.shift e h)
  | exc c S1 => rw [q] at h; exact h
  | bad => rw [q] at h; exact h
theorem tO_bind {a : Oe} {f : Option Int → M α} (ok : OkS K H m S) (re : RelE K H m env σ) (h : Af K m H W P (M.bind (evO G0 G a env) f S)) {Q : Option Int → Hp → Prop}
    (k : ∀ d S1 H1 m1, Ext H m H1 m1 → OkS K H1 m1 S1 → RelE K H1 m1 env σ → Af K m1 H1 W P (f d S1) → Q d H1) : tO K G0 G W a σ H Q := by
  refine ⟨m, env, S, ok, re, ?_⟩
  unfold M.bind at h
  cases q : evO G0 G a env S with
  | ok d S1 =>
    rw [q] at h
    exact fun H1 m1 e o => k d S1 H1 m1 e o (re.mono e) (Af.shift e h)
  | exc c S1 => rw [q] at h; exact h
  | bad => rw [q] at h; exact h
/-- a test, where what follows asks for a bool -/
theorem tT_bind {a : E} {f : D → M α} (ok : OkS K H m S) (re : RelE K H m env σ) (h : Af K m H W P (M.bind (ev G0 G a env) f S)) (hb : ∀ d S, (∀ b, d ≠ .bl b) → f d S = .bad) {Q : Bool → Hp → Prop}
    (k : ∀ b S1 H1 m1, Ext H m H1 m1 → OkS K H1 m1 S1 → RelE K H1 m1 env σ → Af K m1 H1 W P (f (.bl b) S1) → Q b H1) : tT K G0 G W a σ H Q := by
  refine ⟨m, env, S, ok, re, ?_⟩
  unfold M.bind at h
  cases q : ev G0 G a env S with
  | ok d S1 =>
    rw [q] at h
    have isb : ∃ b, d = .bl b := by
      cases d with
      | bl b => exact ⟨b, rfl⟩
      | _ =>
        exfalso
        simp only at h
        rw [hb _ _ (by intro b z; cases z)] at h
        exact h
    obtain ⟨b, rfl⟩ := isb
    exact fun H1 m1 e o => ⟨b, rfl, k b S1 H1 m1 e o (re.mono e) (Af.shift e h)⟩
  | exc c S1 => rw [q] at h; exact h
  | bad => rw [q] at h; exact h
end

/-! ### what holds wherever code runs -/
structure Ctx where
  T : Nat → Option Fn
  G : List D
  F : List Str
  Gn : GN
  Cn : List Str
  cl : List Addr

def bnames : List Str := ["len", "all", "any", "sorted", "tuple", "list", "isinstance", "set", "range", "enumerate", "zip", "int", "bool", "str"]

/-- the exceptions, by number -/
def wk (cl : List Addr) (W : Nat → Hp → Prop) : XK := fun cls d H => ∃ c C, cl[c]? = some C ∧ cls = .ref C ∧ d = none ∧ W c H
def wx (cl : List Addr) (W : Nat → Hp → Prop) : WX := fun cls d _ H => wk cl W cls d H

/-- a def's promise -/
def spI (K : PySem.W.Frag) (C : Ctx) (k f : Nat) (np : Nat) : Sp := fun vs H Q E => vs.length = np ∧ ∃ m S ds, OkS K H m S ∧ RDs K H m ds vs ∧
  Af K m H (fun c H' => ∀ a, C.cl[c]? = some a → E (.ref a) none H') (PV K Q) (callI C.T C.G k f ds S)

/-- _law_result stands in the module -/
def ResS (C : Ctx) (K : PySem.W.Frag) (mg : Str → Option Value) : Prop := ∃ (g R : Addr) (cs : List Addr) (pg : Arguments) (bg : List Stmt) (sg : Scope) (dV kV doc pm cdv ct oc : Value) (an od : Option Addr) (osl : Array (Option Value)),
  mg "_law_result" = some (.ref g) ∧ PySem.W.keepIn K (.ref g) = true ∧ K.lookup g = some ⟨oc, od, .func (PySem.W.fnOf "_law_result" "_law_result" pg bg sg dV kV doc pm an cdv ct), osl⟩ ∧ PySem.W.codeIn K cdv "_law_result" = true ∧
  L2.Binds K (PySem.W.fnOf "_law_result" "_law_result" pg bg sg dV kV doc pm an cdv ct) ["call"] [] ∧ FnScope Nr ["call"] sg ∧ resIs sg bg = true ∧ ResF K mg sg R cs ∧ C.cl = R :: cs
/-- the module's facts -/
structure Stat (C : Ctx) (K : PySem.W.Frag) (mg : Str → Option Value) : Prop where
  has : ∀ (f : Nat) (x : Str), C.F[f]? = some x → nmOk x = true → ∃ fn, C.T f = some fn
  blt : ∀ x ∈ bnames, mg x = none
  glb : ∀ (g : Nat) (d : D) (x : Str), C.G[g]? = some d → C.Gn.g[g]? = some x → nmOk x = true → ∃ u v, mg x = some u ∧ RelV v u ∧ ∀ H m, RD K H m d v
  exc : ∀ (c : Nat) (x : Str), C.Cn[c]? = some x → nmOk x = true → ∃ a, C.cl[c]? = some a ∧ mg x = some (.ref a) ∧ PySem.W.excIn K a [.type "ValueError", .type "Exception", .type "BaseException", .type "object"] "ValueError.__new__" = true ∧
    PySem.W.keepIn K (.ref a) = true ∧ PySem.W.subIn K (.ref a) (.type "BaseException") = some true ∧ PySem.W.typeIn K (.ref a) = some (.type "type")
  big : ∀ f fn, C.T f = some fn → f < resN
  res : C.Gn.lam = true → ResS C K mg
  fnc : ∀ f a, Fns.fa f = some a → ∃ fn x, C.T f = some fn ∧ C.F[f]? = some x ∧ nmOk x = true ∧ mg x = some (.ref a)
  fns : C.Gn.fns = true → ∀ (f : Nat) (x : Str), C.F[f]? = some x → nmOk x = true → ∃ a, Fns.fa f = some a ∧ mg x = some (.ref a)
/-- the same, lambdas allowed or not -/
abbrev Ctx.lm (C : Ctx) (b : Bool) : Ctx := { C with Gn := { C.Gn with lam := b } }
theorem Stat.lm {C : Ctx} {K : PySem.W.Frag} {mg : Str → Option Value} (s : Stat C K mg) {b : Bool} (h : b = true → C.Gn.lam = true) : Stat (C.lm b) K mg :=
  ⟨s.has, s.blt, s.glb, s.exc, s.big, fun z => s.res (h z), s.fnc, s.fns⟩
/-- a def bound by place and by keywords -/
def KwOk (C : Ctx) (K : PySem.W.Frag) (f : Nat) (fd : FuncData) (ps : List Str) : Prop := ∀ n ks, C.Gn.kw.contains (f, n, ks) = true → KBn K fd ps n ks (fun us ws => us ++ ws) (fun vs zs => vs ++ zs)
/-- the defs' promises at level k -/
def Tab (C : Ctx) (P : Program) (w : World) (K : PySem.W.Frag) (mg : Str → Option Value) (base : Heap) (k : Nat) : Prop :=
  ∀ (f : Nat) (fn : Fn) (x : Str), C.T f = some fn → C.F[f]? = some x → nmOk x = true → ∃ fa fd ps, ps.length = fn.pars ∧ mg x = some (.ref fa) ∧ PySem.W.keepIn K (.ref fa) = true ∧ (Binds K fd ps [] ∧ KwOk C K f fd ps) ∧
    FnOk P w K mg base (L2.CX P w) k fa fd ps (spI K C k f fn.pars)
/-- the context's code makes lambdas -/
def Maker (X : Cx) : Prop := ∃ c P, X.env.code = .ref c ∧ LamX.TabB X.base X.mg c P ∧ (P, X.env.qual ++ "<lambda>") ∈ Fns.tabs ∧ ∀ p ∈ Fns.tabs, p.1 = P → p.2 = X.env.qual ++ "<lambda>"
structure Good (C : Ctx) (k : Nat) (X : Cx) (W : Nat → Hp → Prop) : Prop where
  calm : X.calm = true
  nd : X.N.Nodup
  room : Room k X.A
  tk : Takes X (wx C.cl W)
  tab : ∀ j, j ≤ k → Tab C X.prog X.w X.K X.mg X.base j
  stat : Stat C X.K X.mg
  lam : C.Gn.lam = true → Maker X

theorem Good.units {C : Ctx} {k : Nat} {X : Cx} {W : Nat → Hp → Prop} (g : Good C k X W) : X.A.units + 65 < cLine := by have := g.room.un; omega

/-- a weaker reading -/
theorem _root_.L2.PE.imp {X : Cx} {x : Expr} {t t' : TE} (h : PE X x t) (i : ∀ σ H Q, t' σ H Q → t σ H Q) : PE X x t' := ⟨fun pins s σ H Q I q => h.run pins s σ H Q I (i σ H Q q)⟩
theorem _root_.L2.PT.imp {X : Cx} {x : Expr} {t t' : TT} (h : PT X x t) (i : ∀ σ H Q, t' σ H Q → t σ H Q) : PT X x t' := ⟨fun pins s σ H Q I q => h.run pins s σ H Q I (i σ H Q q)⟩

abbrev yI (C : Ctx) (k : Nat) (X : Cx) (W : Nat → Hp → Prop) : E → TE := tI X.K (callI C.T C.G k) C.G W
abbrev yIs (C : Ctx) (k : Nat) (X : Cx) (W : Nat → Hp → Prop) : Es → TA := tIs X.K (callI C.T C.G k) C.G W
abbrev yT (C : Ctx) (k : Nat) (X : Cx) (W : Nat → Hp → Prop) : E → TT := tT X.K (callI C.T C.G k) C.G W
abbrev yO (C : Ctx) (k : Nat) (X : Cx) (W : Nat → Hp → Prop) : Oe → TO := tO X.K (callI C.T C.G k) C.G W
section
variable {C : Ctx} {k : Nat} {X : Cx} {W : Nat → Hp → Prop} (g : Good C k X W)
include g

theorem x_var {i : Nat} {x : Str} {p : Pos} (h1 : X.N[i]? = some x) (h2 : Vis X.env.scope x) (h3 : nmOk x = true) : PE X (.Name x p) (yI C k X W (.var i)) := by
  refine (pe_var h1 h2 (nmOk_ok h3).1 (nmOk_ok h3).2.1).imp fun σ H Q h => ?_
  obtain ⟨m, env, S, ok, re, h⟩ := h
  simp only [ev] at h
  split at h
  · rename_i d e
    obtain ⟨v, e1, r⟩ := re.2 i d e
    exact ⟨v, e1, h H m (Ext.refl _ _) ok v r⟩
  · exact h.elim
theorem x_glb {j : Nat} {x : Str} {p : Pos} (h1 : C.Gn.g[j]? = some x) (h2 : Gl X x) (h3 : nmOk x = true) : PE X (.Name x p) (yI C k X W (.glb j)) := by
  cases e : C.G[j]? with
  | none =>
    refine ⟨fun pins s σ H Q I h => ?_⟩
    obtain ⟨m, env, S, ok, re, h⟩ := h
    simp only [ev, e] at h
    exact h.elim
  | some d =>
    obtain ⟨u, v, e1, r, rd⟩ := g.stat.glb j d x e h1 h3
    refine (pe_glob h2 e1 r (nmOk_ok h3).1).imp fun σ H Q h => ?_
    obtain ⟨m, env, S, ok, re, h⟩ := h
    simp only [ev, e] at h
    exact h H m (Ext.refl _ _) ok v (rd H m)
omit g in
theorem x_const {e : E} {d : D} {v : V} (he : ∀ env S, ev (callI C.T C.G k) C.G e env S = .ok d S) (hr : ∀ H m, RD X.K H m d v) {x : Expr} (hp : PE X x (tC v)) : PE X x (yI C k X W e) := by
  refine hp.imp fun σ H Q h => ?_
  obtain ⟨m, env, S, ok, re, h⟩ := h
  rw [he] at h
  exact h H m (Ext.refl _ _) ok v (hr H m)

theorem x_bin {op : Bop} {a b : E} {x y : Expr} {p : Pos} (ha : PE X x (yI C k X W a)) (hb : PE X y (yI C k X W b)) : PE X (.BinOp x (opB op) y p) (yI C k X W (.bin op a b)) := by
  refine (pe_op (op_bin op) ha hb).imp fun σ H Q h => ?_
  obtain ⟨m, env, S, ok, re, h⟩ := h
  simp only [ev] at h
  refine tI_bind ok re h fun d S1 v H1 m1 e1 o1 re1 r1 h => ?_
  refine tI_bind o1 re1 h fun d' S2 v' H2 m2 e2 o2 re2 r2 h => ?_
  simp only [M.of] at h
  split at h
  · rename_i z q
    exact ⟨m2, S2, d, d', z, o2, r1.mono e2, r2, q, fun u H' e' o' r' => h H' m2 e' o' u r'⟩
  · exact h.elim
theorem x_neg {a : E} {x : Expr} {p : Pos} (ha : PE X x (yI C k X W a)) : PE X (.UnaryOp .USub x p) (yI C k X W (.neg a)) := by
  refine (pe_un un_neg ha).imp fun σ H Q h => ?_
  obtain ⟨m, env, S, ok, re, h⟩ := h
  simp only [ev] at h
  refine tI_bind ok re h fun d S1 v H1 m1 e1 o1 re1 r1 h => ?_
  cases d with
  | int i =>
    simp only [RD] at r1
    exact ⟨i, r1, h H1 m1 (Ext.refl _ _) o1 _ (by simp only [RD])⟩
  | _ => exact h.elim
/-- a comparison by values, off the store -/
theorem x_cmpV {op : Cop} {a b : E} {σ : L2.St} {H : Hp} {Q : VK} (h : yI C k X W (.cmp op a b) σ H Q) (hn : ∀ d d' S, ∃ r, doCmpS op d d' S = (match r with
    | some b => R.ok (.bl b) S
    | none => .bad) ∧ (r = none ∨ r = doCmp op d d')) : tOp (rB X.K fun x y => (doCmp op x y).map D.bl) (yI C k X W a) (yI C k X W b) σ H Q := by
  obtain ⟨m, env, S, ok, re, h⟩ := h
  simp only [ev] at h
  refine tI_bind ok re h fun d S1 v H1 m1 e1 o1 re1 r1 h => ?_
  refine tI_bind o1 re1 h fun d' S2 v' H2 m2 e2 o2 re2 r2 h => ?_
  obtain ⟨r, q1, q2⟩ := hn d d' S2
  rw [q1] at h
  cases r with
  | none => exact h.elim
  | some b =>
    have q : doCmp op d d' = some b := by
      rcases q2 with z | z
      · cases z
      · exact z.symm
    exact ⟨m2, S2, d, d', .bl b, o2, r1.mono e2, r2, by simp only [q]; rfl, fun u H' e' o' r' => h H' m2 e' o' u r'⟩
end
end G11

/-! Snd2: one lemma a construct -/
namespace G11
open PySem PySem.Spec PyProof.Rows L2
variable [Fns]

theorem star_cons {x : Expr} {xs : List Expr} {env : Env} (h : plainX x = true) : starEach (x :: xs) env = (false, eval x env) :: starEach xs env := by
  cases x <;> first | rfl | (simp [plainX] at h)
theorem star_none : ∀ {xs : List Expr} {env : Env}, xs.all plainX = true → (starEach xs env).any (·.1) = false
  | [], _, _ => rfl
  | x :: xs, env, h => by
    simp only [List.all_cons, Bool.and_eq_true] at h
    rw [star_cons h.1, List.any_cons, star_none h.2]; rfl
theorem star_back {xs : List Expr} {env : Env} {p : Pos} (h : xs.all plainX = true) : (backTo p (starEach xs env)).any (·.1) = false := by
  unfold backTo
  rw [List.any_map]
  exact star_none h
def tplain : Expr → Bool
  | .UnaryOp .Not _ _ => false
  | .BoolOp _ _ _ => false
  | .IfExp _ _ _ _ => false
  | .Compare _ _ _ _ => false
  | _ => true
theorem true_plain {x : Expr} (h : tplain x = true) (env : Env) (whole : Sem Value) : isTrue x env whole = (do let v ← whole; standAt x.pos; holding [v] (truthy v)) := by
  cases x with
  | UnaryOp op y p => cases op <;> first | rfl | cases h
  | BoolOp _ _ _ => cases h
  | IfExp _ _ _ _ => cases h
  | Compare _ _ _ _ => cases h
  | _ => rfl

section
variable {C : Ctx} {k : Nat} {X : Cx} {W : Nat → Hp → Prop}

/-! ### arguments -/
theorem xs_nil : PA X [] (yIs C k X W .nil) := by
  refine ⟨fun pos pins s σ H Q I h => (pa_nil (X := X)).run pos pins s σ H Q I ?_⟩
  obtain ⟨m, env, S, ok, re, h⟩ := h
  simp only [evs] at h
  exact h H m (Ext.refl _ _) ok [] (by simp only [RDs])
theorem xs_cons {e : E} {es : Es} {x : Expr} {xs : List Expr} (h1 : PE X x (yI C k X W e)) (h2 : PA X xs (yIs C k X W es)) (hp : plainX x = true) : PA X (x :: xs) (yIs C k X W (.cons e es)) := by
  refine ⟨fun pos pins s σ H Q I h => (pa_cons h1 h2 (star_cons hp)).run pos pins s σ H Q I ?_⟩
  obtain ⟨m, env, S, ok, re, h⟩ := h
  simp only [evs] at h
  refine tI_bind ok re h fun d S1 v H1 m1 e1 o1 re1 r1 h => ?_
  refine tIs_bind o1 re1 h fun ds S2 vs H2 m2 e2 o2 re2 r2 h => ?_
  refine h H2 m2 (Ext.refl _ _) o2 (v :: vs) ?_
  simp only [RDs]
  exact ⟨v, vs, rfl, r1.mono e2, r2⟩
theorem x_tup {es : Es} {xs : List Expr} {j : Nat} {p : Pos} (h : PA X xs (yIs C k X W es)) : PE X (.Tuple xs j p) (yI C k X W (.tup es)) := by
  refine (pe_tup h).imp fun σ H Q h => ?_
  obtain ⟨m, env, S, ok, re, h⟩ := h
  simp only [ev] at h
  refine tIs_bind (f := fun ds S' => if ds.length ≤ lim then .ok (.tup ds) S' else .bad) (P := PV X.K Q) ok re (by unfold M.bind; revert h; cases evs (callI C.T C.G k) C.G es env S <;> exact id) fun ds S1 vs H1 m1 e1 o1 re1 r1 h => ?_
  split at h
  · rename_i hl
    exact ⟨by rw [r1.length]; exact Nat.le_trans hl lim_le, fun q hq => new_tup o1 r1 hl (fun v H' e' o' r' => h H' m1 e' o' v r') hq⟩
  · exact h.elim
theorem x_lst {es : Es} {xs : List Expr} {p : Pos} (h : PA X xs (yIs C k X W es)) : PE X (.List xs p) (yI C k X W (.lst es)) := by
  refine (pe_lst h).imp fun σ H Q h => ?_
  obtain ⟨m, env, S, ok, re, h⟩ := h
  simp only [ev] at h
  refine tIs_bind (f := fun ds S' => if ds.length ≤ lim then .ok (.lst ds) S' else .bad) (P := PV X.K Q) ok re (by unfold M.bind; revert h; cases evs (callI C.T C.G k) C.G es env S <;> exact id) fun ds S1 vs H1 m1 e1 o1 re1 r1 h => ?_
  split at h
  · rename_i hl
    exact ⟨by rw [r1.length]; exact Nat.le_trans hl lim_le, fun q hq => new_lst o1 r1 hl (fun v H' e' o' r' => h H' m1 e' o' v r') hq⟩
  · exact h.elim
end

/-- an object that bears a name in a heap of its own -/
def hpOf (a : Addr) (q : Str) : Heap := ⟨Array.replicate (a + 1) { cls := .none, data := .fields #[.none, .str q 0] }, {}⟩
theorem hpOf_get (a : Addr) (q : Str) : (hpOf a q).get? a = some { cls := .none, data := .fields #[.none, .str q 0] } := by
  unfold hpOf Heap.get?
  simp
theorem dtO_code (a : Addr) (xs : List (LL × Addr × Value)) (q : Str) : dtO a xs ≠ LamX.CodeO a q := fun z => by
  unfold dtO LamX.CodeO at z
  have z2 := HO.ext.inj z
  have z3 := (congrFun z2 (hpOf a q)).mpr ⟨_, _, _, hpOf_get a q, rfl, rfl⟩
  obtain ⟨o, es, ep, e1, _, e3, _⟩ := z3
  rw [hpOf_get] at e1
  cases e1
  cases e3
theorem NoCode.lst {a : Addr} {xs : List V} : NoCode a (.lst xs) := ⟨fun _ z => (by cases z), fun _ z => by unfold LamX.CodeO at z; cases z⟩
theorem NoCode.dK {a : Addr} {xs : List (Key × V)} : NoCode a (.dK xs) := ⟨fun _ z => (by cases z), fun _ z => by unfold LamX.CodeO at z; cases z⟩
theorem NoCode.frz {a : Addr} {o : Obj} {u : HO} : NoCode a (.frz o u) := ⟨fun _ z => (by cases z), fun _ z => by unfold LamX.CodeO at z; cases z⟩
theorem NoCode.dt {a : Addr} {xs : List (LL × Addr × Value)} : NoCode a (dtO a xs) := ⟨fun _ z => (by unfold dtO at z; cases z), fun q => dtO_code a xs q⟩
theorem OR.noCode {K : PySem.W.Frag} {H : Hp} {m : Ms} {a : Addr} {o : O} (h : OR K H m a o) {u : HO} (e : H a = Option.some u) : NoCode a u := by
  cases o with
  | lst ds => obtain ⟨vs, e1, _⟩ := h; rw [e1] at e; cases e; exact .lst
  | dk kvs => obtain ⟨vs, e1, _⟩ := h; rw [e1] at e; cases e; exact .dK
  | dt kvs => obtain ⟨xs, e1, _⟩ := h; rw [e1] at e; cases e; exact .dt
  | fz kvs => obtain ⟨xs, o, e1, _⟩ := h; rw [e1] at e; cases e; exact .frz
  | ins _ _ => exact False.elim h
theorem OkS.noCode {K : PySem.W.Frag} {H : Hp} {m : Ms} {S : Store} (ok : OkS K H m S) {a : Addr} (ha : a ∈ m.ix) {u : HO} (e : H a = some u) : NoCode a u := by
  obtain ⟨i, hi⟩ := List.mem_iff_getElem?.mp ha
  obtain ⟨o, _, q⟩ := ok.free hi
  exact q.noCode e
/-- one place is written that is no code -/
theorem tab_upd {H : Hp} {a : Addr} {u : HO} (n : ∀ x, H a = some x → NoCode a x) {P : Addr} {q : Str} (t : LamX.TabS H P q) : LamX.TabS (upd H a u) P q :=
  tab_keep (fun b o e => by
    by_cases hb : b = a
    · subst hb; exact .inr (n o e)
    · rw [upd_ne hb]; exact .inl e) t

/-- a new object of the store -/
abbrev Ms.add (m : Ms) (p : Addr) : Ms := { m with ix := m.ix ++ [p] }
theorem Ext.alloc {H : Hp} {m : Ms} {p : Addr} {o : HO} (h : H p = none) : Ext H m (upd H p o) (m.add p) := by
  have e := Ext.new (m := m) (o := o) h
  exact ⟨e.keepN, e.tup, e.frz, ⟨[p], rfl, fun a ha => by simp at ha; rw [ha]; exact h⟩, fun _ z => z, fun _ z => .inl z, e.old, e.tab⟩
/-- .. where p may have been filled meanwhile -/
theorem OkS.addAt {K : PySem.W.Frag} {H H' : Hp} {m : Ms} {S : Store} (ok : OkS K H m S) {p : Addr} {o : O} (hm : p ∉ m.ix) (e : Ext0 H m H' (m.add p)) (hH : ∀ a ∈ m.ix, H' a = H a) (hh : ∀ a ∈ m.hid, (H' a).isSome) (ht : LamX.Tabs Fns.tabs H')
    (ho : OR K H' (m.add p) p o) : OkS K H' (m.add p) (S ++ [o]) := by
  refine ⟨by show (m.ix ++ [p]).length = _; rw [List.length_append, List.length_append, ok.len]; rfl, ?_, hh, fun i a x e1 e2 => ?_, ht⟩
  · show (m.ix ++ [p]).Nodup
    rw [List.nodup_append]
    exact ⟨ok.nd, by simp, fun a ha b hb => by simp at hb; rw [hb]; exact fun z => hm (z ▸ ha)⟩
  · have e1 : (m.ix ++ [p])[i]? = some a := e1
    by_cases hi : i < m.ix.length
    · rw [List.getElem?_append_left hi] at e1
      rw [List.getElem?_append_left (by rw [← ok.len]; exact hi)] at e2
      exact (ok.obj i a x e1 e2).mono e (hH a (List.mem_of_getElem? e1))
    · have hl : i = m.ix.length := by
        have := (List.getElem?_eq_some_iff.mp e1).1
        rw [List.length_append] at this
        simp at this; omega
      subst hl
      rw [List.getElem?_append_right (Nat.le_refl _)] at e1
      rw [ok.len, List.getElem?_append_right (Nat.le_refl _)] at e2
      simp at e1 e2
      subst e1 e2
      exact ho
theorem OkS.alloc {K : PySem.W.Frag} {H : Hp} {m : Ms} {S : Store} (ok : OkS K H m S) {p : Addr} {u : HO} {o : O} (hp : H p = none) (ho : OR K (upd H p u) (m.add p) p o) : OkS K (upd H p u) (m.add p) (S ++ [o]) := by
  have hm := ok.fresh hp
  exact ok.addAt hm (Ext.alloc hp).to0 (fun a ha => upd_ne fun z => hm (z ▸ ha)) (fun a ha => (Ext.alloc (m := m) hp).kept (ok.hd a ha)) ((Ext.alloc (m := m) hp).tab ok.tabs) ho

section
variable {C : Ctx} {k : Nat} {X : Cx} {W : Nat → Hp → Prop}
theorem x_newL {es : Es} {xs : List Expr} {p : Pos} (h : PA X xs (yIs C k X W es)) : PE X (.List xs p) (yI C k X W (.newL es)) := by
  refine (pe_lst h).imp fun σ H Q h => ?_
  obtain ⟨m, env, S, ok, re, h⟩ := h
  simp only [ev] at h
  refine tIs_bind (f := fun ds S' => if ds.length ≤ lim then .ok (.ref S'.length) (S' ++ [.lst ds]) else .bad) (P := PV X.K Q) ok re (by unfold M.bind; revert h; cases evs (callI C.T C.G k) C.G es env S <;> exact id) fun ds S1 vs H1 m1 e1 o1 re1 r1 h => ?_
  split at h
  · rename_i hl
    refine ⟨by rw [r1.length]; exact Nat.le_trans hl lim_le, fun q hq => ?_⟩
    refine h (upd H1 q (.lst vs)) (m1.add q) (Ext.alloc hq) (o1.alloc hq ⟨vs, upd_same, r1.mono (Ext.alloc hq), hl⟩) _ ?_
    simp only [RD]
    exact ⟨q, by show (m1.ix ++ [q])[_]? = _; rw [← o1.len, List.getElem?_append_right (Nat.le_refl _)]; simp, rfl⟩
  · exact h.elim

/-! ### tests -/
theorem t_val {e : E} {x : Expr} (h : PE X x (yI C k X W e)) (hp : tplain x = true) : PT X x (yT C k X W e) := by
  refine (pt_val h (true_plain hp X.env)).imp fun σ H Q h => ?_
  obtain ⟨m, env, S, ok, re, h⟩ := h
  refine ⟨m, env, S, ok, re, ?_⟩
  revert h
  cases ev (callI C.T C.G k) C.G e env S with
  | ok d S' =>
    intro h H' m' e' o' v r
    obtain ⟨b, rfl, q⟩ := h H' m' e' o'
    simp only [RD] at r
    exact ⟨b, r, q⟩
  | exc c S' => exact id
  | bad => exact id
/-- a comparison as a test -/
theorem t_cmp {e : E} {a b : Expr} {op : CmpOp} {r : R2} {ta tb : TE} {p : Pos} (ho : OpR X (compareOp op) r) (ha : PE X a ta) (hb : PE X b tb) (hm : behindInMarks op b = false)
    (hi : ∀ σ H Q, yI C k X W e σ H Q → tOp r ta tb σ H Q) : PT X (.Compare a [op] [b] p) (yT C k X W e) := by
  refine (pt_cmpR ho ha hb hm).imp fun σ H Q h => hi σ H _ ?_
  obtain ⟨m, env, S, ok, re, h⟩ := h
  refine ⟨m, env, S, ok, re, ?_⟩
  revert h
  cases ev (callI C.T C.G k) C.G e env S with
  | ok d S' =>
    intro h H' m' e' o' v r
    obtain ⟨b, rfl, q⟩ := h H' m' e' o'
    simp only [RD] at r
    exact ⟨b, r, q⟩
  | exc c S' => exact id
  | bad => exact id
theorem nomark_plain {op : CmpOp} {b : Expr} (h : plainX b = true) : behindInMarks op b = false := by
  cases b <;> first | rfl | (simp [plainX] at h)

theorem t_not {e : E} {x : Expr} {p : Pos} (h : PT X x (yT C k X W e)) : PT X (.UnaryOp .Not x p) (yT C k X W (.not e)) := by
  refine (pt_not h).imp fun σ H Q h => ?_
  obtain ⟨m, env, S, ok, re, h⟩ := h
  simp only [ev] at h
  refine tT_bind ok re h (fun d S hd => by cases d <;> first | rfl | exact absurd rfl (hd _)) fun b S1 H1 m1 e1 o1 re1 h => ?_
  obtain ⟨b', z, q⟩ := h H1 m1 (Ext.refl _ _) o1
  cases z
  exact q
theorem x_not {e : E} {x : Expr} {p : Pos} (h : PE X x (yI C k X W e)) : PE X (.UnaryOp .Not x p) (yI C k X W (.not e)) := by
  refine (pe_not h).imp fun σ H Q h => ?_
  obtain ⟨m, env, S, ok, re, h⟩ := h
  simp only [ev] at h
  refine tI_bind ok re h fun d S1 v H1 m1 e1 o1 re1 r1 h => ?_
  cases d with
  | bl b =>
    simp only [RD] at r1
    exact ⟨b, r1, h H1 m1 (Ext.refl _ _) o1 _ (by simp only [RD])⟩
  | _ => exact h.elim
theorem x_and1 {e : E} {x : Expr} {p : Pos} (h : PE X x (yI C k X W e)) : PE X (.BoolOp .And [x] p) (yI C k X W (.and (.cons e .nil))) := by
  refine (pe_one h).imp fun σ H Q h => ?_
  obtain ⟨m, env, S, ok, re, h⟩ := h
  simp only [ev, evAnd] at h
  refine tI_bind ok re h fun d S1 v H1 m1 e1 o1 re1 r1 h => ?_
  cases d with
  | bl b => exact h H1 m1 (Ext.refl _ _) o1 v r1
  | _ => exact h.elim
theorem x_or1 {e : E} {x : Expr} {p : Pos} (h : PE X x (yI C k X W e)) : PE X (.BoolOp .Or [x] p) (yI C k X W (.or (.cons e .nil))) := by
  refine (pe_one h).imp fun σ H Q h => ?_
  obtain ⟨m, env, S, ok, re, h⟩ := h
  simp only [ev, evOr] at h
  refine tI_bind ok re h fun d S1 v H1 m1 e1 o1 re1 r1 h => ?_
  cases d with
  | bl b => exact h H1 m1 (Ext.refl _ _) o1 v r1
  | _ => exact h.elim
theorem x_and {e e' : E} {es : Es} {x y : Expr} {r : List Expr} {p : Pos} (h : PE X x (yI C k X W e)) (h2 : PE X (.BoolOp .And (y :: r) p) (yI C k X W (.and (.cons e' es)))) : PE X (.BoolOp .And (x :: y :: r) p) (yI C k X W (.and (.cons e (.cons e' es)))) := by
  refine (pe_and h h2).imp fun σ H Q h => ?_
  obtain ⟨m, env, S, ok, re, h⟩ := h
  simp only [ev, evAnd] at h
  refine tI_bind ok re h fun d S1 v H1 m1 e1 o1 re1 r1 h => ?_
  cases d with
  | bl b =>
    simp only [RD] at r1
    refine ⟨b, r1, ?_⟩
    cases b with
    | true => exact ⟨m1, env, S1, o1, re1, by simp only [ev]; exact h⟩
    | false => exact h H1 m1 (Ext.refl _ _) o1 _ (by simp only [RD])
  | _ => exact h.elim
theorem x_or {e e' : E} {es : Es} {x y : Expr} {r : List Expr} {p : Pos} (h : PE X x (yI C k X W e)) (h2 : PE X (.BoolOp .Or (y :: r) p) (yI C k X W (.or (.cons e' es)))) : PE X (.BoolOp .Or (x :: y :: r) p) (yI C k X W (.or (.cons e (.cons e' es)))) := by
  refine (pe_or h h2).imp fun σ H Q h => ?_
  obtain ⟨m, env, S, ok, re, h⟩ := h
  simp only [ev, evOr] at h
  refine tI_bind ok re h fun d S1 v H1 m1 e1 o1 re1 r1 h => ?_
  cases d with
  | bl b =>
    simp only [RD] at r1
    refine ⟨b, r1, ?_⟩
    cases b with
    | false => exact ⟨m1, env, S1, o1, re1, by simp only [ev]; exact h⟩
    | true => exact h H1 m1 (Ext.refl _ _) o1 _ (by simp only [RD])
  | _ => exact h.elim
theorem _root_.L2.PW.imp {X : Cx} {x : Expr} {t t' : TT} (h : PW X x t) (i : ∀ σ H Q, t' σ H Q → t σ H Q) : PW X x t' := ⟨fun wh pins s σ H Q I q => h.run wh pins s σ H Q I (i σ H Q q)⟩
theorem notbl {α : Type} {d : D} {S : Store} {f : Bool → M α} (hd : ∀ b, d ≠ .bl b) : (match d with
    | .bl b => f b
    | _ => M.bad) S = .bad := by cases d <;> first | rfl | exact absurd rfl (hd _)
theorem t_and1 {e : E} {x : Expr} {p : Pos} (h : PT X x (yT C k X W e)) : PW X (.BoolOp .And [x] p) (yT C k X W (.and (.cons e .nil))) := by
  refine (pw_and1 h).imp fun σ H Q h => ?_
  obtain ⟨m, env, S, ok, re, h⟩ := h
  simp only [ev, evAnd] at h
  refine tT_bind ok re h (fun d S hd => by cases d <;> first | rfl | exact absurd rfl (hd _)) fun b S1 H1 m1 e1 o1 re1 h => ?_
  obtain ⟨b', z, q⟩ := h H1 m1 (Ext.refl _ _) o1
  cases z
  exact q
theorem t_or1 {e : E} {x : Expr} {p : Pos} (h : PT X x (yT C k X W e)) : PW X (.BoolOp .Or [x] p) (yT C k X W (.or (.cons e .nil))) := by
  refine (pw_or1 h).imp fun σ H Q h => ?_
  obtain ⟨m, env, S, ok, re, h⟩ := h
  simp only [ev, evOr] at h
  refine tT_bind ok re h (fun d S hd => by cases d <;> first | rfl | exact absurd rfl (hd _)) fun b S1 H1 m1 e1 o1 re1 h => ?_
  obtain ⟨b', z, q⟩ := h H1 m1 (Ext.refl _ _) o1
  cases z
  exact q
theorem t_and {e e' : E} {es : Es} {x y : Expr} {r : List Expr} {p : Pos} (h : PT X x (yT C k X W e)) (h2 : PW X (.BoolOp .And (y :: r) p) (yT C k X W (.and (.cons e' es)))) : PW X (.BoolOp .And (x :: y :: r) p) (yT C k X W (.and (.cons e (.cons e' es)))) := by
  refine (pw_and h h2).imp fun σ H Q h => ?_
  obtain ⟨m, env, S, ok, re, h⟩ := h
  simp only [ev, evAnd] at h
  refine tT_bind ok re h (fun d S hd => by cases d <;> first | rfl | exact absurd rfl (hd _)) fun b S1 H1 m1 e1 o1 re1 h => ?_
  cases b with
  | true =>
    rw [if_pos rfl]
    exact ⟨m1, env, S1, o1, re1, by simp only [ev]; exact h⟩
  | false =>
    rw [if_neg (by decide)]
    obtain ⟨b', z, q⟩ := h H1 m1 (Ext.refl _ _) o1
    cases z
    exact q
theorem t_or {e e' : E} {es : Es} {x y : Expr} {r : List Expr} {p : Pos} (h : PT X x (yT C k X W e)) (h2 : PW X (.BoolOp .Or (y :: r) p) (yT C k X W (.or (.cons e' es)))) : PW X (.BoolOp .Or (x :: y :: r) p) (yT C k X W (.or (.cons e (.cons e' es)))) := by
  refine (pw_or h h2).imp fun σ H Q h => ?_
  obtain ⟨m, env, S, ok, re, h⟩ := h
  simp only [ev, evOr] at h
  refine tT_bind ok re h (fun d S hd => by cases d <;> first | rfl | exact absurd rfl (hd _)) fun b S1 H1 m1 e1 o1 re1 h => ?_
  cases b with
  | false =>
    rw [if_neg (by decide)]
    exact ⟨m1, env, S1, o1, re1, by simp only [ev]; exact h⟩
  | true =>
    rw [if_pos rfl]
    obtain ⟨b', z, q⟩ := h H1 m1 (Ext.refl _ _) o1
    cases z
    exact q
theorem x_ife {c a b : E} {x y z : Expr} {p : Pos} (hc : PT X x (yT C k X W c)) (ha : PE X y (yI C k X W a)) (hb : PE X z (yI C k X W b)) : PE X (.IfExp x y z p) (yI C k X W (.ife c a b)) := by
  refine (pe_ifExp hc ha hb).imp fun σ H Q h => ?_
  obtain ⟨m, env, S, ok, re, h⟩ := h
  simp only [ev] at h
  refine tT_bind ok re h (fun d S hd => by cases d <;> first | rfl | exact absurd rfl (hd _)) fun b S1 H1 m1 e1 o1 re1 h => ?_
  cases b with
  | true => rw [if_pos rfl]; exact ⟨m1, env, S1, o1, re1, h⟩
  | false => rw [if_neg (by decide)]; exact ⟨m1, env, S1, o1, re1, h⟩
theorem x_isN {a : E} {x : Expr} {j : Nat} {p p' : Pos} (h : PE X x (yI C k X W a)) : PE X (.Compare x [.Is] [.Constant .none j p'] p) (yI C k X W (.isN a)) := by
  refine (pe_cmp (pc_isN h)).imp fun σ H Q h => ?_
  obtain ⟨m, env, S, ok, re, h⟩ := h
  simp only [ev] at h
  refine tI_bind ok re h fun d S1 v H1 m1 e1 o1 re1 r1 h => ?_
  cases d with
  | non => simp only [RD] at r1; subst r1; exact h H1 m1 (Ext.refl _ _) o1 _ (by simp only [RD]; rfl)
  | fn _ => simp only [RD] at r1; obtain ⟨_, _, z⟩ := r1; subst z; exact h H1 m1 (Ext.refl _ _) o1 _ (by simp only [RD]; rfl)
  | bl b => simp only [RD] at r1; subst r1; exact h H1 m1 (Ext.refl _ _) o1 _ (by simp only [RD]; rfl)
  | int b => simp only [RD] at r1; subst r1; exact h H1 m1 (Ext.refl _ _) o1 _ (by simp only [RD]; rfl)
  | str b => simp only [RD] at r1; subst r1; exact h H1 m1 (Ext.refl _ _) o1 _ (by simp only [RD]; rfl)
  | tup _ => simp only [RD] at r1; obtain ⟨_, _, z, _⟩ := r1; subst z; exact h H1 m1 (Ext.refl _ _) o1 _ (by simp only [RD]; rfl)
  | lst _ => simp only [RD] at r1; obtain ⟨_, _, z, _⟩ := r1; subst z; exact h H1 m1 (Ext.refl _ _) o1 _ (by simp only [RD]; rfl)
  | ref _ => simp only [RD] at r1; obtain ⟨_, _, z⟩ := r1; subst z; exact h H1 m1 (Ext.refl _ _) o1 _ (by simp only [RD]; rfl)
  | scl _ => simp only [RD] at r1; obtain ⟨_, z, _⟩ := r1; subst z; exact h H1 m1 (Ext.refl _ _) o1 _ (by simp only [RD]; rfl)
theorem x_notN {a : E} {x : Expr} {j : Nat} {p p' : Pos} (h : PE X x (yI C k X W a)) : PE X (.Compare x [.IsNot] [.Constant .none j p'] p) (yI C k X W (.notN a)) := by
  refine (pe_cmp (pc_notN h)).imp fun σ H Q h => ?_
  obtain ⟨m, env, S, ok, re, h⟩ := h
  simp only [ev] at h
  refine tI_bind ok re h fun d S1 v H1 m1 e1 o1 re1 r1 h => ?_
  cases d with
  | non => simp only [RD] at r1; subst r1; exact h H1 m1 (Ext.refl _ _) o1 _ (by simp only [RD]; rfl)
  | fn _ => simp only [RD] at r1; obtain ⟨_, _, z⟩ := r1; subst z; exact h H1 m1 (Ext.refl _ _) o1 _ (by simp only [RD]; rfl)
  | bl b => simp only [RD] at r1; subst r1; exact h H1 m1 (Ext.refl _ _) o1 _ (by simp only [RD]; rfl)
  | int b => simp only [RD] at r1; subst r1; exact h H1 m1 (Ext.refl _ _) o1 _ (by simp only [RD]; rfl)
  | str b => simp only [RD] at r1; subst r1; exact h H1 m1 (Ext.refl _ _) o1 _ (by simp only [RD]; rfl)
  | tup _ => simp only [RD] at r1; obtain ⟨_, _, z, _⟩ := r1; subst z; exact h H1 m1 (Ext.refl _ _) o1 _ (by simp only [RD]; rfl)
  | lst _ => simp only [RD] at r1; obtain ⟨_, _, z, _⟩ := r1; subst z; exact h H1 m1 (Ext.refl _ _) o1 _ (by simp only [RD]; rfl)
  | ref _ => simp only [RD] at r1; obtain ⟨_, _, z⟩ := r1; subst z; exact h H1 m1 (Ext.refl _ _) o1 _ (by simp only [RD]; rfl)
  | scl _ => simp only [RD] at r1; obtain ⟨_, z, _⟩ := r1; subst z; exact h H1 m1 (Ext.refl _ _) o1 _ (by simp only [RD]; rfl)
/-- a test from its value's reading, where the test's rule asks no more -/
theorem t_of {e : E} {x : Expr} {t : TE} (ht : PT X x (tB t)) (hi : ∀ σ H Q, yI C k X W e σ H Q → t σ H Q) : PT X x (yT C k X W e) := by
  refine ht.imp fun σ H Q h => hi σ H _ ?_
  obtain ⟨m, env, S, ok, re, h⟩ := h
  refine ⟨m, env, S, ok, re, ?_⟩
  revert h
  cases ev (callI C.T C.G k) C.G e env S with
  | ok d S' =>
    intro h H' m' e' o' v r
    obtain ⟨b, rfl, q⟩ := h H' m' e' o'
    simp only [RD] at r
    exact ⟨b, r, q⟩
  | exc c S' => exact id
  | bad => exact id
end
end G11

/-! Snd3: comparisons, subscripts, calls, built-ins -/
namespace G11
open PySem PySem.Spec PyProof.Rows L2
variable [Fns]

def rS (K : PySem.W.Frag) (f : D → D → M D) : R2 := fun x y H Q => ∃ m S dx dy, OkS K H m S ∧ RD K H m dx x ∧ RD K H m dy y ∧ Af K m H (fun _ _ => False) (PV K Q) (f dx dy S)
def rS1 (K : PySem.W.Frag) (f : D → M D) : List V → Hp → VK → Prop := fun xs H Q => ∃ m S dx x, xs = [x] ∧ OkS K H m S ∧ RD K H m dx x ∧ Af K m H (fun _ _ => False) (PV K Q) (f dx S)

section
variable {K : PySem.W.Frag} {H : Hp} {m : Ms} {S : Store}
theorem OkS.at {i : Nat} {a : Addr} {o : O} (ok : OkS K H m S) (h1 : m.ix[i]? = some a) (h2 : S[i]? = some o) : OR K H m a o := ok.obj i a o h1 h2
theorem RDk.val : ∀ {kvs : List (KY × D)} {kvs' : List (Key × V)} (k : KY), RDk K H m kvs kvs' → (∀ d, kvs.lookup k = some d → ∃ v, valV kvs' (keyV k) = some v ∧ RD K H m d v) ∧ (kvs.lookup k = none → valV kvs' (keyV k) = none)
  | [], _, k, h => by
    have h : _ = [] := h
    subst h
    exact ⟨fun d e => by simp at e, fun _ => rfl⟩
  | (k0, d0) :: r, _, k, h => by
    obtain ⟨v, vs', e1, e2, e3⟩ := h
    subst e1
    have ih := RDk.val k e3
    rw [List.lookup_cons]
    by_cases hk : k = k0
    · subst hk
      simp only [beq_self_eq_true]
      refine ⟨fun d e => ?_, fun e => by cases e⟩
      cases e
      exact ⟨v, valV_pos rfl, e2⟩
    · rw [beq_eq_false_iff_ne.mpr hk]
      have hn : ¬ (keyV k0 = keyV k) := fun z => by
        cases k0 <;> cases k <;> simp [keyV] at z
        · exact hk (by rw [z])
        · exact hk (by rw [z])
      simp only
      refine ⟨fun d e => ?_, fun e => ?_⟩
      · obtain ⟨u, q1, q2⟩ := ih.1 d e
        exact ⟨u, by rw [valV_neg hn]; exact q1, q2⟩
      · rw [valV_neg hn]; exact ih.2 e
theorem keyV_of {x : D} {k : KY} {v : V} (h : asKY x = some k) (r : RD K H m x v) : v = kV (keyV k) := by
  cases x with
  | int i => simp only [asKY, Option.some.injEq] at h; subst h; simp only [RD] at r; rw [r]; rfl
  | str i => simp only [asKY, Option.some.injEq] at h; subst h; simp only [RD] at r; rw [r]; rfl
  | _ => simp [asKY] at h
theorem atI_nth {xs : List D} {vs : List V} {i : Int} {d : D} (r : RDs K H m xs vs) (h : nth xs i = some d) : ∃ v, atI vs i = some v ∧ RD K H m d v := by
  unfold nth ixI at h
  unfold atI ixN
  rw [r.length]
  obtain ⟨j, h1, h2⟩ := Option.bind_eq_some_iff.mp h
  obtain ⟨v, e1, e2⟩ := r.get h2
  exact ⟨v, by rw [h1]; exact e1, e2⟩
theorem RDs.ofInts : ∀ ns : List Int, RDs K H m (ns.map .int) (ns.map V.int)
  | [] => by simp [RDs]
  | n :: ns => by simp only [List.map_cons, RDs]; exact ⟨_, _, rfl, by simp only [RD], RDs.ofInts ns⟩
theorem OkS.refD {i : Nat} {x : V} (r : RD K H m (.ref i) x) : ∃ a, m.ix[i]? = some a ∧ x = .ref a := by
  simp only [RD] at r
  exact r
end

section
variable {X : Cx}
/-- a list of the store is read as it is -/
theorem dp_deref {H : Hp} {m : Ms} {S : Store} {n : Nat} {d : D} {v : V} (ok : OkS X.K H m S) (r : RD X.K H m d v) (o : okD n (derefL S d) = true) : Dp X.K H v (toPy (derefL S d)) := by
  cases d with
  | ref i =>
    obtain ⟨a, ha, rfl⟩ := OkS.refD r
    obtain ⟨ob, ho, hO⟩ := ok.free ha
    simp only [derefL, ho] at o ⊢
    cases ob with
    | lst ys =>
      simp only at o ⊢
      obtain ⟨vs, e1, e2, _⟩ := hO
      cases n with
      | zero => simp [okD] at o
      | succ n =>
        simp only [okD] at o
        exact .lst (SqL.of e1) (e2.dp o)
    | _ => simp [okD] at o
  | _ => exact r.dp o
theorem op_cmpS (op : Cop) (hu : X.A.units + 65 < cLine) : OpR X (compareOp (opC op)) (rS X.K (doCmpS op)) := by
  intro pins s σ H x y v u Q I rx ry h
  obtain ⟨m, S, dx, dy, ok, r1, r2, h⟩ := h
  by_cases h1 : op = .eq
  · subst h1
    simp only [doCmpS, doCmp] at h
    split at h
    · rename_i b hb
      split at hb
      · rename_i ho
        simp only [Option.some.injEq] at hb
        subst hb
        simp only [Bool.and_eq_true] at ho
        obtain ⟨o1, o2⟩ := ho
        obtain ⟨as, t1⟩ := Dp.reads I _ x v (dp_deref ok r1 o1) rx
        obtain ⟨bs, t2⟩ := Dp.reads I _ y u (dp_deref ok r2 o2) ry
        have l1 := okD_lay o1
        have l2 := okD_lay o2
        exact SeqAt.compareEq_reads t1 t2 l1.1 l2.1 (by have := Nat.min_le_left (toPy (derefL S dx)).depth (toPy (derefL S dy)).depth; omega) ⟨.bl _, H, I, rfl, by
          rw [deq_py _ _ o1 o2]; exact h H m (Ext.refl _ _) ok _ (by simp only [RD])⟩
      · cases hb
    · exact h.elim
  by_cases h2 : op = .ne
  · subst h2
    simp only [doCmpS, doCmp] at h
    split at h
    · rename_i b hb
      split at hb
      · rename_i ho
        simp only [Option.some.injEq] at hb
        subst hb
        simp only [Bool.and_eq_true] at ho
        obtain ⟨o1, o2⟩ := ho
        obtain ⟨as, t1⟩ := Dp.reads I _ x v (dp_deref ok r1 o1) rx
        obtain ⟨bs, t2⟩ := Dp.reads I _ y u (dp_deref ok r2 o2) ry
        have l1 := okD_lay o1
        have l2 := okD_lay o2
        exact SeqAt.compareNe_reads t1 t2 l1.1 l2.1 (by have := Nat.min_le_left (toPy (derefL S dx)).depth (toPy (derefL S dy)).depth; omega) ⟨.bl _, H, I, rfl, by
          rw [deq_py _ _ o1 o2]; exact h H m (Ext.refl _ _) ok _ (by simp only [RD])⟩
      · cases hb
    · exact h.elim
  have base : (∀ i, ¬ ((op = .isin ∨ op = .notin) ∧ dy = .ref i)) → wpAny (model X.prog X.w) X.A (compareOp (opC op) v u) (EP X pins σ Q) X.xe s := fun hn => by
    have e : doCmpS op dx dy S = (match doCmp op dx dy with
      | some b => .ok (.bl b) S
      | none => .bad) := by
      unfold doCmpS
      split
      · exact absurd rfl h1
      · exact absurd rfl h2
      · exact absurd ⟨.inl rfl, rfl⟩ (hn _)
      · exact absurd ⟨.inr rfl, rfl⟩ (hn _)
      · rfl
    rw [e] at h
    cases q : doCmp op dx dy with
    | none => rw [q] at h; exact h.elim
    | some b =>
      rw [q] at h
      exact op_cmp op hu pins s σ H x y v u Q I rx ry ⟨m, S, dx, dy, .bl b, ok, r1, r2, by simp only [q]; rfl, fun w H' e' o' r' => h H' m e' o' w r'⟩
  by_cases hc : ∃ i, (op = .isin ∨ op = .notin) ∧ dy = .ref i
  · obtain ⟨i, hop, rfl⟩ := hc
    obtain ⟨a, ha, e2⟩ := OkS.refD r2
    subst e2
    cases (show u = Value.ref a from ry)
    obtain ⟨o, ho, hO⟩ := ok.free ha
    have hb : ∃ b, hasK S i dx = some b ∧ Q (.bl (if op = .isin then b else !b)) H := by
      rcases hop with rfl | rfl
      · simp only [doCmpS] at h
        cases q : hasK S i dx with
        | none => rw [q] at h; exact h.elim
        | some b => rw [q] at h; exact ⟨b, rfl, h H m (Ext.refl _ _) ok _ (by simp only [RD]; rfl)⟩
      · simp only [doCmpS] at h
        cases q : hasK S i dx with
        | none => rw [q] at h; exact h.elim
        | some b => rw [q] at h; exact ⟨b, rfl, h H m (Ext.refl _ _) ok _ (by simp only [RD]; rfl)⟩
    obtain ⟨b, hk, fin⟩ := hb
    unfold hasK at hk
    rw [ho] at hk
    have deep : ∀ {kvs : List (LL × D)} {xs : List (LL × Addr × Value)}, Rd H a (dtO a xs) → DTx X.K H m a kvs xs → (asTT dx).map (fun k => (lkT kvs k).isSome) = some b → wpAny (model X.prog X.w) X.A (compareOp (opC op) v (.ref a)) (EP X pins σ Q) X.xe s := fun {kvs xs} hr t hk => by
      obtain ⟨l, k1, k2⟩ := Option.map_eq_some_iff.mp hk
      obtain ⟨rb, b', rfl⟩ := asTT_RD k1 r1
      cases (show v = Value.ref b' from rx)
      rcases hop with rfl | rfl
      · exact dt_in hu I hr t rb fun s' I' => ⟨.bl _, H, I', rfl, by rw [k2]; exact fin⟩
      · exact dt_notIn hu I hr t rb fun s' I' => ⟨.bl _, H, I', rfl, by rw [k2]; exact fin⟩
    cases o with
    | lst ys =>
      simp only at hk
      split at hk
      · rename_i hok
        cases hk
        simp only [Bool.and_eq_true] at hok
        obtain ⟨o1, o2⟩ := hok
        obtain ⟨vs, e1, e2, _⟩ := hO
        obtain ⟨as, t1⟩ := Dp.reads I _ x v (r1.dp o1) rx
        obtain ⟨bs, t2⟩ := Dp.reads I (.list (toPys ys)) (.ref a) (.ref a) (.lst (SqL.of e1) (e2.dp o2)) rfl
        have l1 := okD_lay o1
        have l2 := okDs_lay o2
        have hroom : X.A.units + 1 + min (PyData.depthAll (toPys ys)) (toPy dx).depth < cLine := by
          have := Nat.min_le_right (PyData.depthAll (toPys ys)) (toPy dx).depth; omega
        rcases hop with rfl | rfl
        · exact SeqAt.in_list_reads t2 t1 l2.1 l1.1 hroom ⟨.bl _, H, I, rfl, by rw [anyEq_py _ o1 ys o2]; exact fin⟩
        · exact SeqAt.notIn_list_reads t2 t1 l2.1 l1.1 hroom ⟨.bl _, H, I, rfl, by rw [anyEq_py _ o1 ys o2]; exact fin⟩
      · cases hk
    | dk kvs =>
      obtain ⟨k, k1, k2⟩ := Option.map_eq_some_iff.mp hk
      obtain ⟨kvs', e1, e2, _⟩ := hO
      have hv := keyV_of k1 r1
      have hg : DGet H a x (valV kvs' (keyV k)) := by rw [hv]; exact DGet.k e1
      have hs : (valV kvs' (keyV k)).isSome = b := by
        have z := e2.val k
        rw [← k2]
        cases q : kvs.lookup k with
        | none => rw [z.2 q]; rfl
        | some d => obtain ⟨w, z1, _⟩ := z.1 d q; rw [z1]; rfl
      rcases hop with rfl | rfl
      · exact d_in (by omega) I hg rx fun s' I' => ⟨.bl _, H, I', rfl, by rw [hs]; exact fin⟩
      · exact d_notIn (by omega) I hg rx fun s' I' => ⟨.bl _, H, I', rfl, by rw [hs]; exact fin⟩
    | dt kvs =>
      obtain ⟨xs, e1, t⟩ := hO
      exact deep (.inl e1) t hk
    | fz kvs =>
      obtain ⟨xs, o, e1, t⟩ := hO
      exact deep (.inr ⟨o, e1⟩) t hk
    | ins _ _ => cases hk
  · exact base fun i hi => hc ⟨i, hi⟩

/-! ### subscripts -/
theorem ix_all (hu : X.A.units + 65 < cLine) : IxR X (rS X.K doIdx) := by
  intro value slice pins s σ H x y v u Q I rx ry h hs
  obtain ⟨m, S, dx, dy, ok, r1, r2, h⟩ := h
  have fin : ∀ {d : D} {w : V}, Af X.K m H (fun _ _ => False) (PV X.K Q) (.ok d S) → RD X.K H m d w → Q w H := fun h r => h H m (Ext.refl _ _) ok _ r
  unfold doIdx at h
  cases dx with
  | tup xs =>
    cases dy with
    | int j =>
      simp only at h
      cases q : nth xs j with
      | none => rw [q] at h; exact h.elim
      | some d =>
        rw [q] at h
        simp only [RD] at r1 r2
        obtain ⟨a, vs, e1, e2, e3, _⟩ := r1
        obtain ⟨w, e4, e5⟩ := atI_nth e3 q
        exact ix_tup value slice pins s σ H x y v u Q I rx ry ⟨a, vs, j, w, e1, r2, e2, e4, fin h e5⟩ hs
    | _ => exact h.elim
  | lst xs =>
    cases dy with
    | int j =>
      simp only at h
      cases q : nth xs j with
      | none => rw [q] at h; exact h.elim
      | some d =>
        rw [q] at h
        simp only [RD] at r1 r2
        obtain ⟨a, vs, e1, e2, _, e3, _⟩ := r1
        obtain ⟨w, e4, e5⟩ := atI_nth e3 q
        exact ix_list value slice pins s σ H x y v u Q I rx ry ⟨a, vs, j, w, e1, r2, SqL.of e2, e4, fin h e5⟩ hs
    | _ => exact h.elim
  | ref i =>
    simp only at h
    obtain ⟨a, ha, e1⟩ := OkS.refD r1
    subst e1
    obtain ⟨o, ho, hO⟩ := ok.free ha
    cases q : getK S i dy with
    | none => rw [q] at h; exact h.elim
    | some d =>
      rw [q] at h
      unfold getK at q
      rw [ho] at q
      cases o with
      | lst ys =>
        cases dy with
        | int j =>
          simp only [RD] at r2
          obtain ⟨vs, e2, e3, _⟩ := hO
          obtain ⟨w, e4, e5⟩ := atI_nth e3 q
          exact ix_list value slice pins s σ H _ y v u Q I rx ry ⟨a, vs, j, w, rfl, r2, SqL.of e2, e4, fin h e5⟩ hs
        | _ => cases q
      | dk kvs =>
        obtain ⟨k, k1, k2⟩ := Option.bind_eq_some_iff.mp q
        obtain ⟨kvs', e2, e3, _⟩ := hO
        obtain ⟨w, z1, z2⟩ := (e3.val k).1 d k2
        have hg : DGet H a y (some w) := by rw [keyV_of k1 r2, ← z1]; exact DGet.k e2
        cases (show v = Value.ref a from rx)
        exact tail_any (dict_typeIs I hg) PySem.F.slot_dict_getitem.lookup (d_getItem (by omega) I hg ry fun w' s3 I3 rw' => ⟨w, H, I3, rw', fin h z2⟩) hs
      | dt kvs =>
        obtain ⟨l, k1, k2⟩ := Option.bind_eq_some_iff.mp q
        obtain ⟨xs, e2, t⟩ := hO
        obtain ⟨rb, b', rfl⟩ := asTT_RD k1 r2
        cases (show v = Value.ref a from rx)
        cases (show u = Value.ref b' from ry)
        exact tail_any (dict_at I (.inl e2) t).typeIs PySem.F.slot_dict_getitem.lookup (dt_getItem hu I (.inl e2) t rb k2 fun w' s3 v3 I3 rw' r3 => ⟨v3, H, I3, rw', fin h r3⟩) hs
      | fz kvs =>
        obtain ⟨l, k1, k2⟩ := Option.bind_eq_some_iff.mp q
        obtain ⟨xs, ob, e2, t⟩ := hO
        obtain ⟨rb, b', rfl⟩ := asTT_RD k1 r2
        cases (show v = Value.ref a from rx)
        cases (show u = Value.ref b' from ry)
        exact tail_any (dict_at I (.inr ⟨ob, e2⟩) t).typeIs PySem.F.slot_dict_getitem.lookup (dt_getItem hu I (.inr ⟨ob, e2⟩) t rb k2 fun w' s3 v3 I3 rw' r3 => ⟨v3, H, I3, rw', fin h r3⟩) hs
      | ins _ _ => cases q
  | scl ns =>
    cases dy with
    | int j =>
      simp only at h
      cases q : nth (ns.map .int) j with
      | none => rw [q] at h; exact h.elim
      | some d =>
        rw [q] at h
        simp only [RD] at r1 r2
        obtain ⟨a, rfl, e2⟩ := r1
        have e3 : RDs X.K H m (ns.map .int) (ns.map V.int) := RDs.ofInts ns
        obtain ⟨w, e4, e5⟩ := atI_nth e3 q
        exact ix_list value slice pins s σ H _ y v u Q I rx ry ⟨a, _, j, w, rfl, r2, e2.sql, e4, fin h e5⟩ hs
    | _ => exact h.elim
  | _ => exact h.elim

/-! ### built-ins of one argument -/
theorem cb_len (hl : lim ≤ sizeLine := lim_le) : CallR X (.builtin "len") (rS1 X.K (doBi .len)) := by
  intro pins s σ H xs us Q I r h
  obtain ⟨m, S, dx, x, rfl, ok, r1, h⟩ := h
  simp only [doBi] at h
  have fin : ∀ {n : Nat}, Af X.K m H (fun _ _ => False) (PV X.K Q) (.ok (.int n) S) → Q (.int n) H := fun h => h H m (Ext.refl _ _) ok _ (by simp only [RD])
  cases dx with
  | tup ds =>
    simp only [RD] at r1
    obtain ⟨a, vs, e1, e2, e3, _⟩ := r1
    subst e1
    exact call_len_seq pins s σ H _ us Q I r ⟨a, vs, rfl, .inr e2, by rw [e3.length]; exact fin h⟩
  | lst ds =>
    simp only [RD] at r1
    obtain ⟨a, vs, e1, e2, _, e3, _⟩ := r1
    subst e1
    exact call_len_seq pins s σ H _ us Q I r ⟨a, vs, rfl, .inl (SqL.of e2), by rw [e3.length]; exact fin h⟩
  | ref i =>
    obtain ⟨a, ha, e1⟩ := OkS.refD r1
    subst e1
    obtain ⟨o, ho, hO⟩ := ok.free ha
    simp only [ho] at h
    cases o with
    | lst ds =>
      obtain ⟨vs, e2, e3, _⟩ := hO
      exact call_len_seq pins s σ H _ us Q I r ⟨a, vs, rfl, .inl (SqL.of e2), by rw [e3.length]; exact fin h⟩
    | dt kvs =>
      obtain ⟨xs, e2, t⟩ := hO
      cases r with
      | cons ra rb =>
        cases rb
        rename_i w
        cases (show w = Value.ref a from ra)
        exact dt_len I (.inl e2) t fun tk s' I' => ⟨.int kvs.length, H, I', ⟨_, rfl⟩, fin h⟩
    | _ => exact h.elim
  | scl ns =>
    simp only [RD] at r1
    obtain ⟨a, rfl, e2⟩ := r1
    exact call_len_seq pins s σ H _ us Q I r ⟨a, _, rfl, .inl e2.sql, by rw [List.length_map]; exact fin h⟩
  | _ => exact h.elim
theorem cb_all (hc : X.calm = true) : CallR X (.builtin "all") (rS1 X.K (doBi .all)) := by
  intro pins s σ H xs us Q I r h
  obtain ⟨m, S, dx, x, rfl, ok, r1, h⟩ := h
  simp only [doBi] at h
  cases dx with
  | lst ds =>
    simp only at h
    cases q : bools ds with
    | none => rw [q] at h; exact h.elim
    | some bs =>
      rw [q] at h
      simp only [RD] at r1
      obtain ⟨a, vs, e1, e2, _, e3, _⟩ := r1
      subst e1
      rw [e3.bools q] at e2
      exact cr_all hc pins s σ H _ us Q I r ⟨a, bs, rfl, SqL.of e2, h H m (Ext.refl _ _) ok _ (by simp only [RD])⟩
  | _ => exact h.elim
theorem cb_any (hc : X.calm = true) : CallR X (.builtin "any") (rS1 X.K (doBi .any)) := by
  intro pins s σ H xs us Q I r h
  obtain ⟨m, S, dx, x, rfl, ok, r1, h⟩ := h
  simp only [doBi] at h
  cases dx with
  | lst ds =>
    simp only at h
    cases q : bools ds with
    | none => rw [q] at h; exact h.elim
    | some bs =>
      rw [q] at h
      simp only [RD] at r1
      obtain ⟨a, vs, e1, e2, _, e3, _⟩ := r1
      subst e1
      rw [e3.bools q] at e2
      exact cr_any hc pins s σ H _ us Q I r ⟨a, bs, rfl, SqL.of e2, h H m (Ext.refl _ _) ok _ (by simp only [RD])⟩
  | _ => exact h.elim
theorem cb_tuple : CallR X (.type "tuple") (rS1 X.K (doBi .tuple)) := by
  intro pins s σ H xs us Q I r h
  obtain ⟨m, S, dx, x, rfl, ok, r1, h⟩ := h
  simp only [doBi] at h
  have q : ∀ {ds : List D}, Af X.K m H (fun _ _ => False) (PV X.K Q) (.ok (.tup ds) S) → ∀ v H', Ext H m H' m → OkS X.K H' m S → RD X.K H' m (.tup ds) v → Q v H' := fun h v H' e' o' r' => h H' m e' o' v r'
  cases dx with
  | tup ds =>
    have r1' := r1
    simp only [RD] at r1
    obtain ⟨a, vs, e1, e2, e3, _⟩ := r1
    subst e1
    exact call_tuple_of pins s σ H _ us Q I r ⟨a, vs, rfl, .inr ⟨e2, same_v ok r1' (q h)⟩⟩
  | lst ds =>
    simp only [RD] at r1
    obtain ⟨a, vs, e1, e2, _, e3, hl⟩ := r1
    subst e1
    exact call_tuple_of pins s σ H _ us Q I r ⟨a, vs, rfl, .inl ⟨SqL.of e2, fun p hp => new_tup ok e3 hl (q h) hp⟩⟩
  | ref i =>
    obtain ⟨a, ha, e1⟩ := OkS.refD r1
    subst e1
    obtain ⟨o, ho, hO⟩ := ok.free ha
    simp only [ho] at h
    cases o with
    | lst ds =>
      obtain ⟨vs, e2, e3, hl⟩ := hO
      exact call_tuple_of pins s σ H _ us Q I r ⟨a, vs, rfl, .inl ⟨SqL.of e2, fun p hp => new_tup ok e3 hl (q h) hp⟩⟩
    | _ => exact h.elim
  | _ => exact h.elim
theorem cb_list : CallR X (.type "list") (rS1 X.K (doBi .list)) := by
  intro pins s σ H xs us Q I r h
  obtain ⟨m, S, dx, x, rfl, ok, r1, h⟩ := h
  simp only [doBi] at h
  have q : ∀ {ds : List D}, Af X.K m H (fun _ _ => False) (PV X.K Q) (.ok (.lst ds) S) → ∀ v H', Ext H m H' m → OkS X.K H' m S → RD X.K H' m (.lst ds) v → Q v H' := fun h v H' e' o' r' => h H' m e' o' v r'
  cases dx with
  | tup ds =>
    simp only [RD] at r1
    obtain ⟨a, vs, e1, e2, e3, hl⟩ := r1
    subst e1
    exact call_list_of pins s σ H _ us Q I r ⟨a, vs, rfl, .inr e2, fun p hp => new_lst ok e3 hl (q h) hp⟩
  | lst ds =>
    simp only [RD] at r1
    obtain ⟨a, vs, e1, e2, _, e3, hl⟩ := r1
    subst e1
    exact call_list_of pins s σ H _ us Q I r ⟨a, vs, rfl, .inl (SqL.of e2), fun p hp => new_lst ok e3 hl (q h) hp⟩
  | ref i =>
    obtain ⟨a, ha, e1⟩ := OkS.refD r1
    subst e1
    obtain ⟨o, ho, hO⟩ := ok.free ha
    simp only [ho] at h
    cases o with
    | lst ds =>
      obtain ⟨vs, e2, e3, hl⟩ := hO
      exact call_list_of pins s σ H _ us Q I r ⟨a, vs, rfl, .inl (SqL.of e2), fun p hp => new_lst ok e3 hl (q h) hp⟩
    | _ => exact h.elim
  | _ => exact h.elim
/-- isinstance -/
def rIsiD (K : PySem.W.Frag) (t : Ty) : List V → Hp → VK → Prop := fun xs H Q => ∃ m S dx x, xs = [x, .ty (tyName t).toString] ∧ OkS K H m S ∧ RD K H m dx x ∧ Af K m H (fun _ _ => False) (PV K Q) (doBi (.isi t) dx S)
def tyS : Ty → String
  | .int => "int"
  | .bool => "bool"
  | .tuple => "tuple"
  | .str => "str"
theorem cb_isi (t : Ty) : CallR X (.builtin "isinstance") (fun xs H Q => ∃ m S dx x, xs = [x, .ty (tyS t)] ∧ OkS X.K H m S ∧ RD X.K H m dx x ∧ Af X.K m H (fun _ _ => False) (PV X.K Q) (doBi (.isi t) dx S)) := by
  intro pins s σ H xs us Q I r h
  obtain ⟨m, S, dx, x, rfl, ok, r1, h⟩ := h
  simp only [doBi] at h
  cases q : isiD t dx with
  | none => rw [q] at h; exact h.elim
  | some b =>
    rw [q] at h
    have fin : Q (.bl b) H := h H m (Ext.refl _ _) ok _ (by simp only [RD])
    have go : ∀ {T : String}, TyX X.K H x (.type T) → kitB T (tyS t) = some b → wpAny (model X.prog X.w) X.A (call (.builtin "isinstance") us) (EP X pins σ Q) X.xe s := fun {T} tx kb =>
      call_isi pins s σ H _ us Q I r ⟨x, .ty (tyS t), .type T, .type (tyS t), b, rfl, .ty _, tx, kit_ty kb, fin⟩
    cases dx with
    | non => simp only [RD] at r1; subst r1; exact go (T := "NoneType") (.base .non) (by cases t <;> simp [isiD] at q <;> subst q <;> decide +kernel)
    | bl c => simp only [RD] at r1; subst r1; exact go (T := "bool") (.base (.bl c)) (by cases t <;> simp [isiD] at q <;> subst q <;> decide +kernel)
    | int c => simp only [RD] at r1; subst r1; exact go (T := "int") (.base (.int c)) (by cases t <;> simp [isiD] at q <;> subst q <;> decide +kernel)
    | str c => simp only [RD] at r1; subst r1; exact go (T := "str") (.base (.str _)) (by cases t <;> simp [isiD] at q <;> subst q <;> decide +kernel)
    | lst ds =>
      simp only [RD] at r1
      obtain ⟨a, vs, e1, e2, _⟩ := r1
      subst e1
      exact go (T := "list") (.base (.lst e2)) (by cases t <;> simp [isiD] at q <;> subst q <;> decide +kernel)
    | tup ds =>
      simp only [RD] at r1
      obtain ⟨a, vs, e1, e2, _⟩ := r1
      subst e1
      refine go (T := "tuple") ?_ (by cases t <;> simp [isiD] at q <;> subst q <;> decide +kernel)
      rcases e2 with (e2 | ⟨o, e2⟩) | ⟨o, its, n, e2, e3, _⟩
      · exact .base (.tup e2)
      · exact .fTuple e2
      · exact .kTuple e2 e3
    | ref i => cases t <;> simp [isiD] at q
    | fn i => cases t <;> simp [isiD] at q
    | scl i => cases t <;> simp [isiD] at q
end
end G11

/-! Enm: enumerate over a tuple -/
namespace G11
open PySem PySem.Spec PyProof.Rows L2
variable [Fns]

/-- enumerate(v) of anything whose iterator is one new object -/
theorem meets_enum1 {v : Value} {o : Obj} {HH : Heap → Prop} (B : Begins v o HH) :
    Meets (Builtin.«enumerate.__new__» ⟨[.type "enumerate", v], []⟩) (fun _ R s => HH s.heap ∧
      R (.ok (.ret (.ref (s.heap.push o).objs.size)))
        { s with heap := (s.heap.push o).push { cls := .type "enumerate", data := .fields #[.none, .bool false, .ref s.heap.objs.size, rawInt 0, .none, .none] } }) :=
  .of_wp fun prog w A R s h => by
    obtain ⟨hp, g, d, tk, os⟩ := s
    obtain ⟨h1, h⟩ := h
    have hsub := sub_enumerate
    have it1 : ∀ {A' : Around} {E : Value → Shared → Prop} {Q : Value → Shared → Prop}, Q (.ref hp.objs.size) ⟨hp.push o, g, d, tk, os⟩ → wpAny (model prog w) A' (pyIter v) Q E ⟨hp, g, d, tk, os⟩ :=
      fun q => B.iter prog w _ _ ⟨hp, g, d, tk, os⟩ _ h1 q
    wp_walk using it1
    refine wpAny_stack_any fun st => wpAny_pure ?_
    split
    · rename_i c _ _ _ _ _
      cases (c == Value.type "enumerate") <;> (wp_walk using it1; exact ⟨_, rfl, h⟩)
    · wp_walk using it1
      exact ⟨_, rfl, h⟩

theorem call_enum1 {prog : Program} {w : World} {A : Around} {E : Value → Shared → Prop} {s : Shared} {v : Value} {o : Obj} {HH : Heap → Prop} {Q : Value → Shared → Prop} (B : Begins v o HH) (h1 : HH s.heap)
    (h : ∀ h', IsEnum h' (s.heap.objs.size + 1) s.heap.objs.size 0 .none → h'.get? s.heap.objs.size = some o → (∀ b u, s.heap.get? b = some u → h'.get? b = some u) → Q (.ref (s.heap.objs.size + 1)) { s with heap := h' }) :
    wpAny (model prog w) A (call (.type "enumerate") [v]) Q E s := by
  refine callType_new F.called_enumerate (by decide) (F.typeCall_enumerate_1 _) (F.newCall_enumerate_1 _) (fun obj => F.args_object_init_2 obj _) F.entry_enumerate_new (meets_enum1 B) ⟨h1, ?_⟩
  have hz : (s.heap.push o).objs.size = s.heap.objs.size + 1 := Heap.size_push ..
  have he : IsEnum ((s.heap.push o).push { cls := .type "enumerate", data := .fields #[.none, .bool false, .ref s.heap.objs.size, rawInt 0, .none, .none] }) (s.heap.objs.size + 1) s.heap.objs.size 0 .none := by
    have q := Heap.get?_push_size (s.heap.push o) (o := { cls := .type "enumerate", data := .fields #[.none, .bool false, .ref s.heap.objs.size, rawInt 0, .none, .none] }) rfl
    rw [hz] at q
    exact q
  show _ ∧ _
  rw [hz]
  exact ⟨⟨_, he, rfl⟩, h _ he (Heap.get?_push_of_some _ (Heap.get?_push_size _ B.free)) fun b u x => Heap.get?_push_of_some _ (Heap.get?_push_of_some _ x)⟩

/-- the tuple at a, its items in new pairs with their numbers -/
def ItE (K : PySem.W.Frag) (a : Addr) : It :=
  ⟨fun i H => ∃ (xs : List V) (x : V), SqT K H a xs ∧ xs[i]? = some x, fun i H v H' => ∃ T x, v = .ref T ∧ H T = none ∧ H' = upd H T (.tup [.int (i : Nat), x]) ∧ ∀ xs, SqT K H a xs → xs[i]? = some x,
    fun i H => ∃ xs : List V, SqT K H a xs ∧ xs.length ≤ i⟩
theorem ne_iter {h : Heap} {a it : Addr} {i : Nat} {its : Array Value} (t : h.IsTuple a its) (d : h.IsTupleIter it a i) : a ≠ it := by
  intro e
  subst e
  obtain ⟨o, h1, h2, _⟩ := t
  obtain ⟨o', h3, h4, _⟩ := d
  rw [h1] at h3; cases h3
  rw [h2] at h4
  injection h4 with h4
  exact absurd h4 (by decide)
theorem enum_done {prog : Program} {w : World} {A : Around} {E : Value → Shared → Prop} {s : Shared} {e it a : Addr} {i : Nat} {its : Array Value} {old : Value} {Q : Option Value → Shared → Prop} (hh : A.handled = none) (he : IsEnum s.heap e it i old)
    (hit : s.heap.IsTupleIter it a i) (ht : s.heap.IsTuple a its) (hx : its[i]? = none) (hQ : ∀ h', Heap.ExtBut it s.heap h' → Q none { s with heap := h' }) : wpAny (model prog w) A (pyNext (.ref e)) Q E s := by
  have hT : s.TypeIs (.ref e) "enumerate" := ⟨_, he, rfl⟩
  unfold pyNext
  refine wpAny_bind (wpAny_attempt (wpAny_callSpecial?_slot (name := Str.ofString "__next__") hT F.slot_enumerate_next
    (wpAny_call_entry F.slot_enumerate_next hT F.entry_enumerate_next ?_ (F.args_enumerate_next_1 _))))
  show wpAny _ _ (field (.ref e) 2 >>= _) _ _ _
  refine wpAny_bind (wpAny_field he rfl (x := .ref it) rfl ?_)
  refine wpAny_bind (wpAny_nextOf_tuple_end hh hit ht hx fun h' x he' hx' => ?_)
  obtain ⟨o, ho, hc⟩ := hx'
  exact wpAny_bind (wpAny_isInstance (T := "StopIteration") (b := true) ⟨o, ho, hc⟩ isSubtype_stop (wpAny_pure (hQ _ he')))
theorem turn_enumT {P : Program} {w : World} {K : PySem.W.Frag} {elts : List Expr} {kk : Nat} {tpos : Pos} (a e it : Addr) :
    Turn P w K (.Tuple elts kk tpos) (ItE K a) [e, it] e (fun i h => (∃ old, IsEnum h e it ((i : Nat) : Int) old) ∧ h.IsTupleIter it a i ∧ e ≠ it) where
  mem := by simp
  obj := fun i h st b hb => by
    obtain ⟨⟨old, he⟩, ⟨o, ho, hc, hd⟩, _⟩ := st
    rcases (show b = e ∨ b = it by simpa using hb) with z | z
    · rw [z]; exact ⟨_, he, fun v q => nomatch q⟩
    · rw [z]; exact ⟨o, ho, fun v q => by rw [hd] at q; cases q⟩
  keep := fun i h h' st k => let ⟨⟨old, he⟩, hi, hne⟩ := st; ⟨⟨old, k e (by simp) _ he⟩, hi.at fun o q => k it (by simp) o q, hne⟩
  item := by
    intro X hP hw hK hc i pins s σ H E I hf st hg
    subst hP hw hK
    obtain ⟨⟨old, he⟩, hit, hne⟩ := st
    obtain ⟨xs, x, hq, hx⟩ := hg
    obtain ⟨its, rv, p, hz⟩ := I.tuple hq
    obtain ⟨u, hu, ru⟩ := rv.get hx
    have p : s.heap.IsTuple a its.toArray := p
    have hai := ne_iter p hit
    have hel : e < s.heap.objs.size := Heap.lt_size he
    have hil : it < s.heap.objs.size := by obtain ⟨_, q, _⟩ := hit; exact Heap.lt_size q
    have hea : e ≠ a := by
      intro z
      subst z
      obtain ⟨o, h1, h2, _⟩ := p
      have he' : s.heap.get? e = _ := he
      rw [h1] at he'
      have := Option.some.inj he'
      rw [this] at h2
      injection h2 with h2
      exact absurd h2 (by decide)
    have Dr := Draws.tuple (prog := X.prog) (w := X.w) (A := X.A.in1) (I.ok.hd hc) it a hai its.toArray
    have hlt : i < its.toArray.size := by
      have := (List.getElem?_eq_some_iff.mp hu).1
      simpa using this
    refine wpAny_pyNext_enum_itemD Dr he ⟨hit, p⟩ hlt hne (by simp [hne, hea]) fun u' h' tk hPu ho hst hT hsz hk => ?_
    have hu' : u' = u := by
      have z : its.toArray[i]? = some u' := hPu
      rw [show its.toArray[i]? = its[i]? by simp, hu] at z
      exact (Option.some.inj z).symm
    subst hu'
    refine ⟨_, rfl, wpAny_letOwnedTupleGo_enum (s := { s with heap := h', toks := tk + 1 }) ho fun h'' he' sb => ?_⟩
    have hT2 : h''.get? s.heap.objs.size = some { cls := .type "tuple", data := .seq #[.int i tk, u'] } := (sb.2 _ (Nat.ne_of_gt hel)).trans hT
    have new : ObjOk X.prog X.w (upd H s.heap.objs.size (.tup [.int (i : Nat), x])) h'' s.heap.objs.size (.tup [.int (i : Nat), x]) :=
      ⟨by show 2 ≤ sizeLine; decide, [.int i tk, u'], .cons ⟨_, rfl⟩ (.cons ru .nil), ⟨_, hT2, rfl, _, rfl⟩⟩
    have I1 : Inv X pins σ (upd H s.heap.objs.size (.tup [.int (i : Nat), x])) { s with heap := h'', toks := tk + 1 } :=
      I.turnedNew (ch := [e, it]) (fun b ob hb q => (sb.2 b (fun z => hb (by simp [z]))).trans (hk b ob (fun z => hb (by simp [z])) (fun z => hb (by simp [z])) q)) hf (Nat.le_refl _) new
    refine ⟨.ref s.heap.objs.size, _, I1, rfl, ⟨_, x, rfl, I.hok.fresh (Nat.le_refl _), rfl, fun ys hy => by rw [I.tuple_inj hy hq]; exact hx⟩, ⟨⟨u', ?_⟩, hst.1.at fun o q => (sb.2 it (Ne.symm hne)).trans q, hne⟩, fun b hb => ?_⟩
    · have e1 : ((i + 1 : Nat) : Int) = (i : Int) + 1 := by omega
      rw [e1]; exact he'
    · have hb' : b < s.heap.objs.size := by
        rcases (show b = e ∨ b = it by simpa using hb) with z | z
        · rw [z]; exact hel
        · rw [z]; exact hil
      rw [upd_ne (Nat.ne_of_lt hb')]
      exact (hf b hb).1
  done := by
    intro X hP hw hK hc i pins s σ H E I hf st hg
    subst hP hw hK
    obtain ⟨⟨old, he⟩, hit, hne⟩ := st
    obtain ⟨xs, hq, hx⟩ := hg
    obtain ⟨its, rv, p, hz⟩ := I.tuple hq
    have p : s.heap.IsTuple a its.toArray := p
    have hai := ne_iter p hit
    obtain ⟨f0, f1, f2, f3, f4, f5⟩ := hf it (by simp)
    have hl := rv.length
    exact enum_done (I.ok.hd hc) he hit p (by simp; omega) fun h' eb => ⟨rfl, I.turned (t' := s.toks) (fun b o hb q => eb b o hb q) f0 f1 f3 f4 f5⟩
  self := fun A i s Q E st h => let ⟨⟨_, he⟩, _⟩ := st; wpAny_pyIter_enum he h
def iEnT (K : PySem.W.Frag) (ta : TA) : TI := fun σ H R => ta σ H fun vs H1 => ∃ a xs, vs = [.ref a] ∧ SqT K H1 a xs ∧ R (ItE K a) H1
theorem pi_enumT {X : Cx} {e : Expr} {ta : TA} {p pos tpos : Pos} {elts : List Expr} {kk : Nat} (hg : Gl X "enumerate") (hm : X.mg "enumerate" = none) (ha : PA X [e] ta) (hs : starEach [e] X.env = [(false, eval e X.env)]) :
    PI X (.Tuple elts kk tpos) (.Call (.Name "enumerate" p) [e] [] pos) (iEnT X.K ta) := by
  refine ⟨fun pins s σ H R I h => ?_⟩
  refine Call_ (ld_blt I hg hm boot_enumerate (PyProof.Rows.callWith_type1 (thn (ha.run pos pins s σ H _ I h) fun us s1 ⟨vs, H1, I1, r1, q1⟩ => ?_) hs rfl))
  obtain ⟨a, xs, ex, hq, q⟩ := q1
  subst ex
  have eu := Vals.ref1 r1
  subst eu
  obtain ⟨its, rv, p', hz⟩ := I1.tuple hq
  refine call_enum1 (begins_tuple a its.toArray) p' fun h' he hit hk => wpAny_pyIter_enum he ?_
  have I2 : Inv X pins σ H1 { s1 with heap := h' } := I1.kept (t' := s1.toks) hk
  refine ⟨s1.heap.objs.size + 1, [s1.heap.objs.size + 1, s1.heap.objs.size], _, _, H1, rfl, I2, turn_enumT a (s1.heap.objs.size + 1) s1.heap.objs.size, ⟨⟨.none, he⟩, ⟨_, hit, rfl, rfl⟩, Nat.succ_ne_self _⟩, fun b hb => ?_, q⟩
  have hle : s1.heap.objs.size ≤ b := by
    rcases (show b = s1.heap.objs.size + 1 ∨ b = s1.heap.objs.size by simpa using hb) with z | z
    · rw [z]; exact Nat.le_add_right _ _
    · rw [z]; exact Nat.le_refl _
  exact I1.fpOk hle (I1.hok.fresh hle)
end G11

/-! Snd4: what is walked, targets, comprehensions -/
namespace G11
open PySem PySem.Spec PyProof.Rows L2
variable [Fns]

/-- J yields xs, whatever else happens to the heap -/
structure SrcOk (K : PySem.W.Frag) (J : It) (xs : List D) (m : Ms) (H : Hp) : Prop where
  go : ∀ (i : Nat) (H' : Hp) (m' : Ms) (S' : Store), Ext H m H' m' → OkS K H' m' S' → i < xs.length → J.go i H' ∧ ∀ x H'', J.yld i H' x H'' → ∃ d, xs[i]? = some d ∧ Ext H' m' H'' m' ∧ OkS K H'' m' S' ∧ RD K H'' m' d x
  stop : ∀ H' m', Ext H m H' m' → J.stop xs.length H'

def PSr (K : PySem.W.Frag) (R : It → Hp → Prop) : List D → Ms → Hp → Prop := fun xs m H => ∀ J, SrcOk K J xs m H → xs.length ≤ lim → R J H
def tSr (K : PySem.W.Frag) (G0 : Nat → List D → M D) (G : List D) (W : Nat → Hp → Prop) (e : Sr) : TI := fun σ H R => ∃ m env S, OkS K H m S ∧ RelE K H m env σ ∧ Af K m H W (PSr K R) (evSr G0 G e env S)
abbrev ySr (C : Ctx) (k : Nat) (X : Cx) (W : Nat → Hp → Prop) : Sr → TI := tSr X.K (callI C.T C.G k) C.G W

section
variable {K : PySem.W.Frag} {H : Hp} {m : Ms} {S : Store}
theorem src_tup {a : Addr} {vs : List V} {ds : List D} (h : SqT K H a vs) (r : RDs K H m ds vs) : SrcOk K (Itt K a) ds m H := by
  refine ⟨fun i H' m' S' e ok hi => ?_, fun H' m' e => ⟨vs, e.sqt h, by rw [r.length]; exact Nat.le_refl _⟩⟩
  obtain ⟨v, q1, q2⟩ := r.get (List.getElem?_eq_getElem hi)
  refine ⟨⟨vs, v, e.sqt h, q1⟩, fun x H'' y => ?_⟩
  obtain ⟨rfl, y⟩ := y
  have z := y vs (e.sqt h)
  rw [q1] at z; cases z
  exact ⟨_, List.getElem?_eq_getElem hi, Ext.refl _ _, ok, q2.mono e⟩
theorem src_lst {a : Addr} {vs : List V} {ds : List D} (h : H a = some (.lst vs)) (ho : a ∉ m.ix) (r : RDs K H m ds vs) : SrcOk K (Itl K a) ds m H := by
  refine ⟨fun i H' m' S' e ok hi => ?_, fun H' m' e => ⟨vs, SqL.of (e.keepN _ _ h ho (fun _ z => by cases z)), by rw [r.length]; exact Nat.le_refl _⟩⟩
  obtain ⟨v, q1, q2⟩ := r.get (List.getElem?_eq_getElem hi)
  have h' : SqL K H' a vs := SqL.of (e.keepN _ _ h ho (fun _ z => by cases z))
  refine ⟨⟨vs, v, h', q1⟩, fun x H'' y => ?_⟩
  obtain ⟨rfl, y⟩ := y
  have z := y vs h'
  rw [q1] at z; cases z
  exact ⟨_, List.getElem?_eq_getElem hi, Ext.refl _ _, ok, q2.mono e⟩
theorem rangeD_get : ∀ (n : Nat) (lo : Int) (i : Nat), i < n → (rangeD lo n)[i]? = some (.int (lo + i))
  | 0, _, _, h => by omega
  | n + 1, lo, 0, _ => by simp [rangeD]
  | n + 1, lo, i + 1, h => by
    simp only [rangeD, List.getElem?_cons_succ]
    rw [rangeD_get n (lo + 1) i (by omega)]
    congr 2
    omega
theorem rangeD_length : ∀ (n : Nat) (lo : Int), (rangeD lo n).length = n
  | 0, _ => rfl
  | n + 1, lo => by simp [rangeD, rangeD_length n]
theorem src_range (lo : Int) (n : Nat) : SrcOk K (Itr lo n) (rangeD lo n) m H := by
  refine ⟨fun i H' m' S' e ok hi => ?_, fun H' m' e => by rw [rangeD_length]; exact Nat.le_refl _⟩
  rw [rangeD_length] at hi
  refine ⟨hi, fun x H'' y => ?_⟩
  obtain ⟨rfl, rfl⟩ := y
  exact ⟨_, rangeD_get n lo i hi, Ext.refl _ _, ok, by simp only [RD]⟩
theorem enumD_get : ∀ (ds : List D) (j i : Nat) (d : D), ds[i]? = some d → (enumD j ds)[i]? = some (.tup [.int ((j + i : Nat) : Int), d])
  | [], _, _, _, h => by simp at h
  | x :: xs, j, 0, d, h => by simp at h; simp [enumD, h]
  | x :: xs, j, i + 1, d, h => by
    simp only [enumD, List.getElem?_cons_succ]
    rw [enumD_get xs (j + 1) i d (by simpa using h)]
    congr 5
    omega
theorem enumD_length : ∀ (ds : List D) (j : Nat), (enumD j ds).length = ds.length
  | [], _ => rfl
  | x :: xs, j => by simp [enumD, enumD_length xs]
theorem RD.pair {a : Addr} {u v : V} {x y : D} (h : H a = some (.tup [u, v])) (r1 : RD K H m x u) (r2 : RD K H m y v) : RD K H m (.tup [x, y]) (.ref a) := by
  simp only [RD, RDs]
  exact ⟨a, [u, v], rfl, .inl (.inl h), ⟨u, [v], rfl, r1, v, [], rfl, r2, rfl⟩, by show 2 ≤ lim; decide⟩
theorem src_enum {a : Addr} {vs : List V} {ds : List D} (h : SqT K H a vs) (r : RDs K H m ds vs) : SrcOk K (ItE K a) (enumD 0 ds) m H := by
  refine ⟨fun i H' m' S' e ok hi => ?_, fun H' m' e => ⟨vs, e.sqt h, by rw [r.length, enumD_length]; exact Nat.le_refl _⟩⟩
  rw [enumD_length] at hi
  obtain ⟨v, q1, q2⟩ := r.get (List.getElem?_eq_getElem hi)
  refine ⟨⟨vs, v, e.sqt h, q1⟩, fun x H'' y => ?_⟩
  obtain ⟨T, w, rfl, hT, rfl, y⟩ := y
  have z := y vs (e.sqt h)
  rw [q1] at z; cases z
  have e2 : Ext H' m' (upd H' T (.tup [.int (i : Nat), v])) m' := Ext.new hT
  refine ⟨_, enumD_get ds 0 i _ (List.getElem?_eq_getElem hi), e2, ok.beside hT, RD.pair upd_same (by simp only [RD]; simp) ((q2.mono e).mono e2)⟩
theorem zipD_length : ∀ (xs ys : List D), (zipD xs ys).length = min xs.length ys.length
  | [], _ => by simp [zipD]
  | _ :: _, [] => by simp [zipD]
  | x :: xs, y :: ys => by
    simp only [zipD, List.length_cons, zipD_length xs ys]
    omega
theorem zipD_get : ∀ (xs ys : List D) (i : Nat) (x y : D), xs[i]? = some x → ys[i]? = some y → (zipD xs ys)[i]? = some (.tup [x, y])
  | [], _, _, _, _, h, _ => by simp at h
  | _ :: _, [], _, _, _, _, h => by simp at h
  | x :: xs, y :: ys, 0, _, _, h, h2 => by simp at h h2; simp [zipD, h, h2]
  | x :: xs, y :: ys, i + 1, a, b, h, h2 => by
    simp only [zipD, List.getElem?_cons_succ]
    exact zipD_get xs ys i a b (by simpa using h) (by simpa using h2)
theorem src_zip {a b : Addr} {vs us : List V} {ds es : List D} (h : SqT K H a vs) (r : RDs K H m ds vs) (h2 : SqT K H b us) (r2 : RDs K H m es us) : SrcOk K (RZ.ItzT K a b) (zipD ds es) m H := by
  refine ⟨fun i H' m' S' e ok hi => ?_, fun H' m' e => ⟨vs, us, e.sqt h, e.sqt h2, by rw [r.length, r2.length, zipD_length]; omega⟩⟩
  rw [zipD_length] at hi
  have hi1 : i < ds.length := by omega
  have hi2 : i < es.length := by omega
  obtain ⟨v, q1, q2⟩ := r.get (List.getElem?_eq_getElem hi1)
  obtain ⟨u, q3, q4⟩ := r2.get (List.getElem?_eq_getElem hi2)
  refine ⟨⟨vs, us, v, u, e.sqt h, e.sqt h2, q1, q3⟩, fun x H'' y => ?_⟩
  obtain ⟨T, w, w', rfl, hT, rfl, y1, y2⟩ := y
  have z := y1 vs (e.sqt h)
  rw [q1] at z; cases z
  have z := y2 us (e.sqt h2)
  rw [q3] at z; cases z
  have e2 : Ext H' m' (upd H' T (.tup [v, u])) m' := Ext.new hT
  exact ⟨_, zipD_get ds es i _ _ (List.getElem?_eq_getElem hi1) (List.getElem?_eq_getElem hi2), e2, ok.beside hT, RD.pair upd_same ((q2.mono e).mono e2) ((q4.mono e).mono e2)⟩
end

section
variable {C : Ctx} {k : Nat} {X : Cx} {W : Nat → Hp → Prop} (g : Good C k X W)
theorem sr_val {e : E} {t x : Expr} (h : PE X x (yI C k X W e)) : PI X t x (ySr C k X W (.val e)) := by
  refine ⟨fun pins s σ H R I h0 => ?_⟩
  obtain ⟨m, env, S, ok, re, h0⟩ := h0
  simp only [evSr, M.bind] at h0
  cases q : ev (callI C.T C.G k) C.G e env S with
  | bad => rw [q] at h0; exact h0.elim
  | exc c S' =>
    rw [q] at h0
    refine (pi_list h).run pins s σ H R I ⟨m, env, S, ok, re, ?_⟩
    rw [q]; exact h0
  | ok d S' =>
    rw [q] at h0
    cases d with
    | tup xs =>
      refine (pi_tup h).run pins s σ H R I ⟨m, env, S, ok, re, ?_⟩
      rw [q]
      intro H1 m1 e1 o1 v r
      simp only [RD] at r
      obtain ⟨a, vs, rfl, e2, e3, hl⟩ := r
      exact ⟨a, rfl, ⟨vs, e2⟩, h0 H1 m1 e1 o1 _ (src_tup e2 e3) hl⟩
    | lst xs =>
      refine (pi_list h).run pins s σ H R I ⟨m, env, S, ok, re, ?_⟩
      rw [q]
      intro H1 m1 e1 o1 v r
      simp only [RD] at r
      obtain ⟨a, vs, rfl, e2, e4, e3, hl⟩ := r
      exact ⟨a, rfl, ⟨vs, SqL.of e2⟩, h0 H1 m1 e1 o1 _ (src_lst e2 e4.1 e3) hl⟩
    | _ => exact h0.elim
include g in
theorem sr_rng {e : E} {t x : Expr} {p p' : Pos} (hg : Gl X "range") (h : PE X x (yI C k X W e)) (hp : plainX x = true) : PI X t (.Call (.Name "range" p) [x] [] p') (ySr C k X W (.rng e)) := by
  have ha : PA X [x] (yIs C k X W (.cons e .nil)) := xs_cons h xs_nil hp
  have P := pi_range1 (tg := t) (p := p) (pos := p') hg (g.stat.blt "range" (by decide)) ha (by rw [star_cons hp]; rfl)
  refine ⟨fun pins s σ H R I h0 => P.run pins s σ H R I ?_⟩
  obtain ⟨m, env, S, ok, re, h0⟩ := h0
  refine ⟨m, env, S, ok, re, ?_⟩
  simp only [evSr, evs, M.bind] at h0 ⊢
  cases q : ev (callI C.T C.G k) C.G e env S with
  | bad => rw [q] at h0; exact h0.elim
  | exc c S' => rw [q] at h0; exact h0
  | ok d S' =>
    rw [q] at h0
    cases d with
    | int n =>
      simp only at h0 ⊢
      split at h0
      · rename_i hn
        simp only [Bool.and_eq_true, decide_eq_true_eq] at hn
        intro H1 m1 e1 o1 vs r
        simp only [RDs, RD] at r
        obtain ⟨v, vs', rfl, rfl, rfl⟩ := r
        exact ⟨n, rfl, by omega, by omega, h0 H1 m1 e1 o1 _ (src_range 0 n.toNat) (by rw [rangeD_length]; show n.toNat ≤ 1000000; omega)⟩
      · exact h0.elim
    | _ => exact h0.elim
include g in
theorem sr_rng2 {a b : E} {t x y : Expr} {p p' : Pos} (hg : Gl X "range") (h : PE X x (yI C k X W a)) (h2 : PE X y (yI C k X W b)) (hp : plainX x = true) (hp2 : plainX y = true) : PI X t (.Call (.Name "range" p) [x, y] [] p') (ySr C k X W (.rng2 a b)) := by
  have ha : PA X [x, y] (yIs C k X W (.cons a (.cons b .nil))) := xs_cons h (xs_cons h2 xs_nil hp2) hp
  have P := pi_range2 (tg := t) (p := p) (pos := p') hg (g.stat.blt "range" (by decide)) ha (by rw [star_cons hp, star_cons hp2]; rfl) (by rw [star_cons hp2]; rfl)
  refine ⟨fun pins s σ H R I h0 => P.run pins s σ H R I ?_⟩
  obtain ⟨m, env, S, ok, re, h0⟩ := h0
  refine ⟨m, env, S, ok, re, ?_⟩
  simp only [evSr, evs, M.bind] at h0 ⊢
  cases q : ev (callI C.T C.G k) C.G a env S with
  | bad => rw [q] at h0; exact h0.elim
  | exc c S' => rw [q] at h0; exact h0
  | ok d S' =>
    rw [q] at h0
    simp only at h0 ⊢
    cases q2 : ev (callI C.T C.G k) C.G b env S' with
    | bad => rw [q2] at h0; exact h0.elim
    | exc c S2 => rw [q2] at h0; exact h0
    | ok d2 S2 =>
      rw [q2] at h0
      simp only at h0 ⊢
      split at h0
      · rename_i lo hi
        split at h0
        · rename_i hn
          simp only [Bool.and_eq_true, decide_eq_true_eq] at hn
          intro H1 m1 e1 o1 vs r
          simp only [RDs, RD] at r
          obtain ⟨v, vs', rfl, rfl, v', vs2, rfl, rfl, rfl⟩ := r
          exact ⟨lo, hi, rfl, ⟨by omega, by omega, by omega, by omega⟩, h0 H1 m1 e1 o1 _ (src_range lo (hi - lo).toNat) (by rw [rangeD_length]; show (hi - lo).toNat ≤ 1000000; omega)⟩
        · exact h0.elim
      · exact h0.elim
include g in
theorem sr_enum {e : E} {x : Expr} {es : List Expr} {kk : Nat} {tp p p' : Pos} (hg : Gl X "enumerate") (h : PE X x (yI C k X W e)) (hp : plainX x = true) : PI X (.Tuple es kk tp) (.Call (.Name "enumerate" p) [x] [] p') (ySr C k X W (.enum e)) := by
  have ha : PA X [x] (yIs C k X W (.cons e .nil)) := xs_cons h xs_nil hp
  have P := pi_enumT (elts := es) (kk := kk) (tpos := tp) (p := p) (pos := p') hg (g.stat.blt "enumerate" (by decide)) ha (by rw [star_cons hp]; rfl)
  refine ⟨fun pins s σ H R I h0 => P.run pins s σ H R I ?_⟩
  obtain ⟨m, env, S, ok, re, h0⟩ := h0
  refine ⟨m, env, S, ok, re, ?_⟩
  simp only [evSr, evs, M.bind] at h0 ⊢
  cases q : ev (callI C.T C.G k) C.G e env S with
  | bad => rw [q] at h0; exact h0.elim
  | exc c S' => rw [q] at h0; exact h0
  | ok d S' =>
    rw [q] at h0
    cases d with
    | tup xs =>
      simp only at h0 ⊢
      intro H1 m1 e1 o1 vs r
      simp only [RDs, RD] at r
      obtain ⟨v, vs', rfl, ⟨a, us, rfl, e2, e3, hl⟩, rfl⟩ := r
      exact ⟨a, us, rfl, e2, h0 H1 m1 e1 o1 _ (src_enum e2 e3) (by rw [enumD_length]; exact hl)⟩
    | _ => exact h0.elim
include g in
theorem sr_zip {a b : E} {x y : Expr} {es : List Expr} {kk : Nat} {tp p p' : Pos} (hg : Gl X "zip") (h : PE X x (yI C k X W a)) (h2 : PE X y (yI C k X W b)) (hp : plainX x = true) (hp2 : plainX y = true) : PI X (.Tuple es kk tp) (.Call (.Name "zip" p) [x, y] [] p') (ySr C k X W (.zip a b)) := by
  have ha : PA X [x, y] (yIs C k X W (.cons a (.cons b .nil))) := xs_cons h (xs_cons h2 xs_nil hp2) hp
  have P := RZ.pi_zipA (elts := es) (kk := kk) (tpos := tp) (p := p) (pos := p') hg (g.stat.blt "zip" (by decide)) ha (by rw [star_cons hp]) (star_back (by simp [hp2]))
  refine ⟨fun pins s σ H R I h0 => P.run pins s σ H R I ?_⟩
  obtain ⟨m, env, S, ok, re, h0⟩ := h0
  refine ⟨m, env, S, ok, re, ?_⟩
  simp only [evSr, evs, M.bind] at h0 ⊢
  cases q : ev (callI C.T C.G k) C.G a env S with
  | bad => rw [q] at h0; exact h0.elim
  | exc c S' => rw [q] at h0; exact h0
  | ok d S' =>
    rw [q] at h0
    simp only at h0 ⊢
    cases q2 : ev (callI C.T C.G k) C.G b env S' with
    | bad => rw [q2] at h0; exact h0.elim
    | exc c S2 => rw [q2] at h0; exact h0
    | ok d2 S2 =>
      rw [q2] at h0
      simp only at h0 ⊢
      split at h0
      · intro H1 m1 e1 o1 vs r
        simp only [RDs, RD] at r
        obtain ⟨v, vs', rfl, ⟨a1, us, rfl, e2, e3, hl⟩, v', vs2, rfl, ⟨a2, us2, rfl, e4, e5, hl2⟩, rfl⟩ := r
        exact ⟨a1, a2, us, us2, rfl, .inr ⟨e2, e4, h0 H1 m1 e1 o1 _ (src_zip e2 e3 e4 e5) (by rw [zipD_length]; omega)⟩⟩
      · exact h0.elim
end
end G11

/-! Snd5: targets, comprehensions -/
namespace G11
open PySem PySem.Spec PyProof.Rows L2
variable [Fns]

/-! ### targets -/
def gNames : List Nat → TGs
  | [] => gNil
  | i :: is => gCons (gName i) (gNames is)
def gTg (K : PySem.W.Frag) : Tg → TG
  | .nm i => gName i
  | .tp is => gTup K is.length (gNames is)
section
variable {K : PySem.W.Frag} {H : Hp} {m : Ms}
theorem gNames_ok : ∀ {is : List Nat} {ds : List D} {vs : List V} {env env' : EnvD} {σ : L2.St}, setAll env is ds = some env' → RDs K H m ds vs → RelE K H m env σ → ∃ σ', RelE K H m env' σ' ∧ (∀ j, j ∉ is → σ'[j]? = σ[j]?) ∧ σ'.length = σ.length ∧ ∀ Q : L2.St → Hp → Prop, Q σ' H → gNames is vs σ H Q
  | [], [], _, env, env', σ, e, r, re => by
    simp only [setAll, Option.some.injEq] at e
    simp only [RDs] at r
    subst e r
    exact ⟨σ, re, fun _ _ => rfl, rfl, fun Q q => ⟨rfl, q⟩⟩
  | [], _ :: _, _, _, _, _, e, _, _ => by simp [setAll] at e
  | _ :: _, [], _, _, _, _, e, _, _ => by simp [setAll] at e
  | i :: is, d :: ds, _, env, env', σ, e, r, re => by
    simp only [setAll] at e
    simp only [RDs] at r
    obtain ⟨v, vs', rfl, r1, r2⟩ := r
    obtain ⟨σ', a, b, c, f⟩ := gNames_ok e r2 (re.set i r1)
    refine ⟨σ', a, fun j hj => ?_, by rw [c, List.length_set], fun Q q => ⟨v, vs', rfl, f Q q⟩⟩
    simp only [List.mem_cons, not_or] at hj
    rw [b j hj.2, List.getElem?_set_ne (Ne.symm hj.1)]
theorem setAll_len : ∀ {is : List Nat} {ds : List D} {env env' : EnvD}, setAll env is ds = some env' → ds.length = is.length
  | [], [], _, _, _ => rfl
  | [], _ :: _, _, _, e => by simp [setAll] at e
  | _ :: _, [], _, _, e => by simp [setAll] at e
  | i :: is, d :: ds, _, _, e => by
    simp only [setAll] at e
    rw [List.length_cons, List.length_cons, setAll_len e]
theorem gTg_ok {tg : Tg} {d : D} {v : V} {env env' : EnvD} {σ : L2.St} (e : bindTg env tg d = some env') (r : RD K H m d v) (re : RelE K H m env σ) :
    ∃ σ', RelE K H m env' σ' ∧ (∀ j, j ∉ tgIs tg → σ'[j]? = σ[j]?) ∧ σ'.length = σ.length ∧ ∀ Q : L2.St → Hp → Prop, Q σ' H → gTg K tg v σ H Q := by
  cases tg with
  | nm i =>
    simp only [bindTg, Option.some.injEq] at e
    subst e
    exact ⟨_, re.set i r, fun j hj => by simp only [tgIs, List.mem_singleton] at hj; rw [List.getElem?_set_ne (Ne.symm hj)], by rw [List.length_set], fun Q q => q⟩
  | tp is =>
    cases d with
    | tup ds =>
      simp only [bindTg] at e
      simp only [RD] at r
      obtain ⟨a, xs, rfl, e2, e3, _⟩ := r
      obtain ⟨σ', h1, h2, h3, h4⟩ := gNames_ok e e3 re
      exact ⟨σ', h1, h2, h3, fun Q q => ⟨a, xs, rfl, e2, by rw [e3.length, setAll_len e], h4 Q q⟩⟩
    | _ => simp [bindTg] at e
end
section
variable {X : Cx}
theorem names_each {N : List Str} {sc : Scope} : ∀ {is : List Nat} {es : List Expr} {env : Env}, trNames N sc is es = true → (assignEach es env).length = is.length ∧ (assignEach es env).findIdx? (·.1) = none
  | [], [], env, _ => ⟨rfl, rfl⟩
  | [], _ :: _, _, h => by simp [trNames] at h
  | i :: is, [], _, h => by simp [trNames] at h
  | i :: is, e :: es, env, h => by
    cases e with
    | Name x p =>
      simp only [trNames, Bool.and_eq_true] at h
      have ih := names_each (env := env) h.2
      refine ⟨?_, ?_⟩
      · show (assignEach es env).length + 1 = _
        rw [ih.1]; rfl
      · show ((false, assign (.Name x p) env) :: assignEach es env).findIdx? (·.1) = none
        rw [List.findIdx?_cons, ih.2]; rfl
    | _ => simp [trNames] at h
theorem pgs_names (hN : X.N.Nodup) : ∀ {is : List Nat} {es : List Expr}, trNames X.N X.env.scope is es = true → (∀ i ∈ is, ∀ x, X.N[i]? = some x → X.fn x = true ∨ X.env.scope.names.lookup x = some .local) → PGs X es (gNames is)
  | [], [], _, _ => pgs_nil
  | [], _ :: _, h, _ => by simp [trNames] at h
  | i :: is, [], h, _ => by simp [trNames] at h
  | i :: is, e :: es, h, hf => by
    cases e with
    | Name x p =>
      simp only [trNames, Bool.and_eq_true, decide_eq_true_eq] at h
      obtain ⟨⟨h1, h2⟩, h3⟩ := h
      exact pgs_cons (pg_name hN h1 (locB_ok h2) (hf i (by simp) x h1)) (pgs_names hN h3 fun j hj => hf j (by simp [hj])) rfl
    | _ => simp [trNames] at h
theorem pg_tg (hc : X.calm = true) (hN : X.N.Nodup) {tg : Tg} {t : Expr} (h : trTg X.N X.env.scope tg t = true) (hf : ∀ i ∈ tgIs tg, ∀ x, X.N[i]? = some x → X.fn x = true ∨ X.env.scope.names.lookup x = some .local) : PG X t (gTg X.K tg) := by
  unfold trTg at h
  split at h
  · rename_i i x p
    simp only [Bool.and_eq_true, decide_eq_true_eq] at h
    exact pg_name hN h.1 (locB_ok h.2) (hf i (by simp [tgIs]) x h.1)
  · rename_i is es j p
    have q := names_each (env := X.env) h
    exact pg_tup hc (pgs_names hN h hf) q.1 q.2
  · cases h
end

/-! ### wiping -/
theorem wipe_get (σ : L2.St) : ∀ (vs : List Nat) (j : Nat), (wipe σ vs)[j]? = if j ∈ vs ∧ j < σ.length then some none else σ[j]?
  | [], j => by simp [wipe]
  | v :: vs, j => by
    simp only [wipe]
    by_cases hj : v = j
    · subst hj
      by_cases hl : v < σ.length
      · rw [List.getElem?_set_self (by rw [wipe_length]; exact hl), if_pos ⟨by simp, hl⟩]
      · rw [List.getElem?_eq_none (by rw [List.length_set, wipe_length]; omega), if_neg (fun z => hl z.2), List.getElem?_eq_none (by omega)]
    · rw [List.getElem?_set_ne hj, wipe_get σ vs j]
      simp [Ne.symm hj]
theorem wipe_same {σ σ' : L2.St} {vs : List Nat} (hl : σ'.length = σ.length) (h : ∀ j, j ∉ vs → σ'[j]? = σ[j]?) : wipe σ' vs = wipe σ vs := by
  apply List.ext_getElem?
  intro j
  rw [wipe_get, wipe_get, hl]
  by_cases hj : j ∈ vs ∧ j < σ.length
  · rw [if_pos hj, if_pos hj]
  · rw [if_neg hj, if_neg hj]
    by_cases hv : j ∈ vs
    · have : σ.length ≤ j := by
        by_cases hz : j < σ.length
        · exact absurd ⟨hv, hz⟩ hj
        · omega
      rw [List.getElem?_eq_none this, List.getElem?_eq_none (by omega)]
    · exact h j hv
theorem wipe_wipe (σ : L2.St) (vs : List Nat) : wipe (wipe σ vs) vs = wipe σ vs := wipe_same (wipe_length σ vs) fun j hj => by
  rw [wipe_get, if_neg (fun z => hj z.1)]

/-! ### hidden places -/
abbrev Ms.hide (m : Ms) (p : Addr) : Ms := { m with hid := p :: m.hid }
theorem RD.hide {K : PySem.W.Frag} {H : Hp} {m : Ms} {p : Addr} {o : HO} (hp : H p = none) {d : D} {v : V} (r : RD K H m d v) : RD K (upd H p o) (m.hide p) d v := r.mono0 (by
  refine ⟨fun a xs h hm => ⟨by rw [upd_ne (ne_of_none h hp)]; exact h, hm.1, ?_⟩, fun a xs h => by rw [upd_ne (ne_of_none h hp)]; exact h, fun a o' u _ h => by rw [upd_ne (ne_of_none h hp)]; exact h, fun i a h => h⟩
  show a ∉ p :: m.hid
  simp only [List.mem_cons, not_or]
  exact ⟨ne_of_none h hp, hm.2⟩)
theorem ext0_hide {H : Hp} {m : Ms} {p : Addr} {o : HO} (hp : H p = none) : Ext0 H m (upd H p o) (m.hide p) := by
  refine ⟨fun a xs h hm => ⟨by rw [upd_ne (ne_of_none h hp)]; exact h, hm.1, ?_⟩, fun a xs h => by rw [upd_ne (ne_of_none h hp)]; exact h, fun a o' u _ h => by rw [upd_ne (ne_of_none h hp)]; exact h, fun i a h => h⟩
  show a ∉ p :: m.hid
  simp only [List.mem_cons, not_or]
  exact ⟨ne_of_none h hp, hm.2⟩
theorem RelE.mono0 {K : PySem.W.Frag} {H H' : Hp} {m m' : Ms} {env : EnvD} {s : L2.St} (e : Ext0 H m H' m') (h : RelE K H m env s) : RelE K H' m' env s :=
  ⟨h.1, fun i d q => let ⟨v, a, b⟩ := h.2 i d q; ⟨v, a, b.mono0 e⟩⟩
theorem OkS.hide {K : PySem.W.Frag} {H : Hp} {m : Ms} {S : Store} (ok : OkS K H m S) {p : Addr} {o : HO} (hp : H p = none) : OkS K (upd H p o) (m.hide p) S := by
  refine ⟨ok.len, ok.nd, fun a ha => ?_, fun i a x e1 e2 => (ok.obj i a x e1 e2).mono (ext0_hide hp) (upd_ne fun z => ok.fresh hp (z ▸ List.mem_of_getElem? e1)), (Ext.new (m := m) hp).tab ok.tabs⟩
  rcases List.mem_cons.mp ha with z | z
  · rw [z, upd_same]; rfl
  · obtain ⟨u, q⟩ := Option.isSome_iff_exists.mp (ok.hd a z)
    rw [upd_ne (ne_of_none q hp), q]; rfl
/-- the hidden list is written -/
theorem ext0_wr {H : Hp} {m : Ms} {p : Addr} {o : HO} {xs : List V} (hp : p ∈ m.hid) (h0 : H p = some (.lst xs)) : Ext0 H m (upd H p o) m := by
  refine ⟨fun a ys h hm => ⟨?_, hm⟩, fun a ys h => ?_, fun a u x _ h => ?_, fun _ _ h => h⟩
  · rw [upd_ne fun z => hm.2 (by rw [z]; exact hp)]; exact h
  · rw [upd_ne (ne_of h h0 (by intro z; cases z))]; exact h
  · rw [upd_ne (ne_of h h0 (by intro z; cases z))]; exact h
theorem OkS.wr {K : PySem.W.Frag} {H : Hp} {m : Ms} {S : Store} (ok : OkS K H m S) {p : Addr} {o : HO} {xs : List V} (hp : p ∈ m.hid) (hn : p ∉ m.ix) (h0 : H p = some (.lst xs)) : OkS K (upd H p o) m S := by
  refine ⟨ok.len, ok.nd, fun a ha => ?_, fun i a x e1 e2 => (ok.obj i a x e1 e2).mono (ext0_wr hp h0) (upd_ne fun z => hn (z ▸ List.mem_of_getElem? e1)), fun q hq => tab_upd (fun x e => by rw [h0] at e; cases e; exact .lst) (ok.tabs q hq)⟩
  by_cases hap : a = p
  · rw [hap, upd_same]; rfl
  · rw [upd_ne hap]; exact ok.hd a ha
/-- out of hiding -/
abbrev Ms.unhide (m : Ms) (p : Addr) : Ms := { m with hid := m.hid.filter fun a => decide (a ≠ p) }
theorem ext0_unhide {H : Hp} {m : Ms} {p : Addr} : Ext0 H m H (m.unhide p) :=
  ⟨fun a xs h hm => ⟨h, hm.1, fun z => hm.2 (List.mem_filter.mp z).1⟩, fun _ _ h => h, fun _ _ _ _ h => h, fun _ _ h => h⟩
theorem OkS.unhide {K : PySem.W.Frag} {H : Hp} {m : Ms} {S : Store} {p : Addr} (ok : OkS K H m S) : OkS K H (m.unhide p) S :=
  ⟨ok.len, ok.nd, fun a ha => ok.hd a (List.mem_filter.mp ha).1, fun i a x e1 e2 => (ok.obj i a x e1 e2).mono ext0_unhide rfl, ok.tabs⟩
theorem Ext.hide {H : Hp} {m : Ms} {p : Addr} {o : HO} (hp : H p = none) : Ext H m (upd H p o) (m.hide p) := by
  have e := Ext.new (m := m) (o := o) hp
  exact ⟨e.keepN, e.tup, e.frz, e.grow, fun a ha => List.mem_cons_of_mem _ ha, fun a ha => (List.mem_cons.mp ha).elim (fun z => .inr (by rw [z]; exact hp)) .inl, e.old, e.tab⟩
theorem Ext.unhide {H H' : Hp} {m m' : Ms} {p : Addr} (e : Ext H m H' m') (hp : H p = none) (hd : ∀ a ∈ m.hid, (H a).isSome) : Ext H m H' (m'.unhide p) :=
  ⟨e.keepN, e.tup, e.frz, e.grow, fun a ha => List.mem_filter.mpr ⟨e.hid a ha, decide_eq_true fun z => by
    have q := hd a ha
    rw [z, hp] at q; cases q⟩, fun a ha => e.hidN a (List.mem_filter.mp ha).1, e.old, e.tab⟩
theorem Ext.writes {H H' : Hp} {m m' : Ms} (e : Ext H m H' m') {p : Addr} {o : HO} (h0 : ∀ x, H' p = some x → NoCode p x) (hp : H p = none) : Ext H m (upd H' p o) m' := by
  refine ⟨fun a u h hm ho => by rw [upd_ne (ne_of_none h hp)]; exact e.keepN a u h hm ho, fun a xs h => by rw [upd_ne (ne_of_none h hp)]; exact e.tup a xs h, fun a u x h => by rw [upd_ne (ne_of_none h hp)]; exact e.frz a u x h, e.grow, e.hid, e.hidN, fun a h => ?_, fun t p hp => tab_upd h0 (e.tab t p hp)⟩
  obtain ⟨u, q⟩ := Option.isSome_iff_exists.mp h
  rw [upd_ne (ne_of_none q hp)]; exact e.old a h

/-! ### a comprehension -/
def tC2 (K : PySem.W.Frag) (G0 : Nat → List D → M D) (G : List D) (W : Nat → Hp → Prop) (e : Es) : TT := fun σ H Q => ∃ m env S, OkS K H m S ∧ RelE K H m env σ ∧ Af K m H W (fun b _ H' => Q b H') (evC G0 G e env S)
theorem ownOf_snd (N : List Str) (own : List Nat) : (ownOf N own).map (·.2) = own := by
  unfold ownOf
  rw [List.map_map]
  simp [Function.comp_def]
theorem lcM_len {f : D → M (Option D)} : ∀ {xs ys : List D} {S S' : Store}, lcM f xs S = .ok ys S' → ys.length ≤ xs.length
  | [], ys, S, S', h => by simp only [lcM, R.ok.injEq] at h; rw [← h.1]; exact Nat.le_refl _
  | x :: xs, ys, S, S', h => by
    simp only [lcM] at h
    split at h
    · rename_i r S1 _
      split at h
      · rename_i ys2 S2 q
        have ih := lcM_len q
        simp only [R.ok.injEq] at h
        rw [← h.1]
        cases r <;> simp <;> omega
      · cases h
      · cases h
    · cases h
    · cases h

section
variable {C : Ctx} {k : Nat} {X : Cx} {W : Nat → Hp → Prop}
theorem lc_run {own : List Nat} {tg : Tg} {cs : Es} {elt : E} (hs : ∀ i ∈ tgIs tg, i ∈ own) {env : EnvD} {σ : L2.St} {Q : VK} {f : D → M (Option D)} (hf : (fun x => match bindTg (wipeD env own) tg x with
      | none => M.bad
      | some env' => M.bind (evC (callI C.T C.G k) C.G cs env') fun b => if b then M.bind (ev (callI C.T C.G k) C.G elt env') fun y => M.pure (some y) else M.pure none) = f)
    {xs ys : List D} {S1 Sf : Store} {H1 : Hp} {m1 : Ms} (o1 : OkS X.K H1 m1 S1) (re1 : RelE X.K H1 m1 env σ) {J : It} (src : SrcOk X.K J xs m1 H1) (hl : xs.length ≤ lim) (q2 : lcM f xs S1 = .ok ys Sf)
    (fin : ∀ H' m', Ext H1 m1 H' m' → OkS X.K H' m' Sf → ∀ v, RD X.K H' m' (.lst ys) v → Q v H') (Dl : Addr) (hD : H1 Dl = none) :
    ∃ W : Nat → Nat → Hp → Prop, (∃ m, W 0 m (upd H1 Dl (.lst []))) ∧ ∀ i m H, W i m H →
      (J.stop i H ∧ Q (.ref Dl) H) ∨ (J.go i H ∧ ∃ Nx : Hp → Prop, (∀ H', Nx H' → ∃ m', m' < m ∧ W (i + 1) m' H') ∧ ∀ x H', J.yld i H x H' → gTg X.K tg x (wipe σ own) H' fun σ2 H2 => wipe σ2 own = wipe σ own ∧ tC2 X.K (callI C.T C.G k) C.G (fun _ _ => False) cs σ2 H2 fun b H3 =>
        if b = true then tI X.K (callI C.T C.G k) C.G (fun _ _ => False) elt σ2 H3 fun y H4 => ∃ acc, H4 Dl = some (.lst acc) ∧ acc.length < sizeLine ∧ Nx (upd H4 Dl (.lst (acc ++ [y]))) else Nx H3) := by
  refine ⟨fun i n Hc => n = xs.length - i ∧ i ≤ xs.length ∧ ∃ mc Sc acc accD rest, Ext H1 m1 Hc mc ∧ Dl ∉ mc.ix ∧ Dl ∈ mc.hid ∧ OkS X.K Hc mc Sc ∧ RelE X.K Hc mc env σ ∧ Hc Dl = some (.lst acc) ∧ RDs X.K Hc mc accD acc ∧ accD.length ≤ i ∧
    lcM f (xs.drop i) Sc = .ok rest Sf ∧ ys = accD ++ rest, ⟨xs.length, by omega, Nat.zero_le _, m1.hide Dl, S1, [], [], ys, Ext.hide hD, o1.fresh hD, List.mem_cons_self, o1.hide hD, re1.mono0 (ext0_hide hD), upd_same, by simp only [RDs], Nat.le_refl _, by simpa using q2, rfl⟩, ?_⟩
  rintro i n Hc ⟨rfl, hil, mc, Sc, acc, accD, rest, ec, hDm, hDh, oc, rc, hDc, ra, hla, hr, hys⟩
  by_cases hlt : i < xs.length
  · -- a turn
    have hd : xs.drop i = xs[i] :: xs.drop (i + 1) := List.drop_eq_getElem_cons hlt
    rw [hd] at hr
    simp only [lcM] at hr
    obtain ⟨go, yl⟩ := src.go i Hc mc Sc ec oc hlt
    refine .inr ⟨go, fun H' => xs.length - (i + 1) < xs.length - i ∧ i + 1 ≤ xs.length ∧ ∃ mc Sc acc accD rest, Ext H1 m1 H' mc ∧ Dl ∉ mc.ix ∧ Dl ∈ mc.hid ∧ OkS X.K H' mc Sc ∧ RelE X.K H' mc env σ ∧ H' Dl = some (.lst acc) ∧ RDs X.K H' mc accD acc ∧ accD.length ≤ i + 1 ∧
      lcM f (xs.drop (i + 1)) Sc = .ok rest Sf ∧ ys = accD ++ rest, fun H' hN => ⟨xs.length - (i + 1), hN.1, rfl, hN.2.1, hN.2.2⟩, fun x H2 hy => ?_⟩
    obtain ⟨d, hd1, e2, o2, r2⟩ := yl x H2 hy
    rw [List.getElem?_eq_getElem hlt] at hd1
    cases hd1
    have bnd : accD.length < sizeLine := by
      have := lim_lt
      omega
    rw [← hf] at hr
    simp only at hr
    cases q3 : bindTg (wipeD env own) tg xs[i] with
    | none => rw [q3] at hr; cases hr
    | some env' =>
      rw [q3] at hr
      simp only [M.bind] at hr
      have re2 := ((rc.wipe own).mono e2)
      obtain ⟨σ', s1, s2, s3, s4⟩ := gTg_ok q3 r2 re2
      refine s4 _ ⟨?_, ?_⟩
      · exact (wipe_same s3 fun j hj => s2 j fun z => hj (hs j z)).trans (wipe_wipe σ own)
      refine ⟨mc, env', Sc, o2, s1, ?_⟩
      cases q4 : evC (callI C.T C.G k) C.G cs env' Sc with
      | bad => rw [q4] at hr; cases hr
      | exc c S' => rw [q4] at hr; cases hr
      | ok b S4 =>
        rw [q4] at hr
        intro H3 m3 e3 o3
        have k3 : Ext Hc mc H3 m3 := e2.trans e3
        have hD3 : H3 Dl = some (.lst acc) := k3.keepN _ _ hDc hDm (fun _ z => by cases z)
        have hDm3 : Dl ∉ m3.ix := by
          obtain ⟨nn, z1, z2⟩ := k3.grow
          rw [z1]
          intro z
          rcases List.mem_append.mp z with z | z
          · exact hDm z
          · rw [z2 _ z] at hDc; cases hDc
        cases b with
        | false =>
          simp only [M.pure] at hr
          refine iteF ?_
          simp only [Bool.false_eq_true, if_false] at hr
          rw [hf] at hr
          cases q5 : lcM f (xs.drop (i + 1)) S4 with
          | bad => rw [q5] at hr; cases hr
          | exc c S' => rw [q5] at hr; cases hr
          | ok ys2 S5 =>
            rw [q5] at hr
            simp only [R.ok.injEq] at hr
            obtain ⟨h1, h2⟩ := hr
            subst h1 h2
            exact ⟨by omega, hlt, m3, S4, acc, accD, ys2, ec.trans k3, hDm3, k3.hid _ hDh, o3, rc.mono k3, hD3, ra.mono k3, by omega, q5, hys⟩
        | true =>
          simp only [M.pure] at hr
          refine iteT ?_
          simp only [if_true] at hr
          rw [hf] at hr
          simp only [M.bind] at hr
          refine ⟨m3, env', S4, o3, s1.mono e3, ?_⟩
          cases q6 : ev (callI C.T C.G k) C.G elt env' S4 with
          | bad => rw [q6] at hr; cases hr
          | exc c S' => rw [q6] at hr; cases hr
          | ok y S6 =>
            rw [q6] at hr
            simp only at hr
            cases q5 : lcM f (xs.drop (i + 1)) S6 with
            | bad => rw [q5] at hr; cases hr
            | exc c S' => rw [q5] at hr; cases hr
            | ok ys2 S5 =>
              rw [q5] at hr
              simp only [R.ok.injEq] at hr
              obtain ⟨h1, h2⟩ := hr
              subst h1 h2
              intro H4 m4 e4 o4 v r4
              have k4 : Ext Hc mc H4 m4 := k3.trans e4
              have hD4 : H4 Dl = some (.lst acc) := k4.keepN _ _ hDc hDm (fun _ z => by cases z)
              have hDm4 : Dl ∉ m4.ix := by
                obtain ⟨nn, z1, z2⟩ := k4.grow
                rw [z1]
                intro z
                rcases List.mem_append.mp z with z | z
                · exact hDm z
                · rw [z2 _ z] at hDc; cases hDc
              have hDh4 := k4.hid _ hDh
              have w := ext0_wr (o := .lst (acc ++ [v])) hDh4 hD4
              refine ⟨acc, hD4, by rw [ra.length]; exact bnd, by omega, hlt, m4, S6, acc ++ [v], accD ++ [y], ys2, (ec.trans k4).writes (fun x e => by rw [hD4] at e; cases e; exact .lst) hD, hDm4, hDh4, o4.wr hDh4 hDm4 hD4, (rc.mono k4).mono0 w, upd_same, ((ra.mono k4).append (RDs.one r4)).mono0 w, by rw [List.length_append]; simp; omega, q5, ?_⟩
              rw [hys, List.append_assoc]; rfl
  · -- the end
    have hie : i = xs.length := by omega
    subst hie
    rw [List.drop_length] at hr
    simp only [lcM, R.ok.injEq] at hr
    obtain ⟨h1, h2⟩ := hr
    subst h1 h2
    rw [List.append_nil] at hys
    subst hys
    refine .inl ⟨src.stop Hc mc ec, ?_⟩
    refine fin Hc (mc.unhide Dl) (ec.unhide hD o1.hd) oc.unhide (.ref Dl) ?_
    simp only [RD]
    refine ⟨Dl, acc, rfl, hDc, ⟨hDm, fun z => ?_⟩, ra.mono0 ext0_unhide, Nat.le_trans hla hl⟩
    have := of_decide_eq_true (List.mem_filter.mp z).2
    exact this rfl
theorem r_lc {own : List Nat} {tg : Tg} {sr : Sr} {cs : Es} {elt : E} (hs : ∀ i ∈ tgIs tg, i ∈ own) {σ : L2.St} {H : Hp} {Q : VK} (h : yI C k X W (.lc own tg sr cs elt) σ H Q) :
    tLc (ySr C k X W sr) (gTg X.K tg) (tC2 X.K (callI C.T C.G k) C.G (fun _ _ => False) cs) (tI X.K (callI C.T C.G k) C.G (fun _ _ => False) elt) own σ H Q := by
  obtain ⟨m, env, S, ok, re, h⟩ := h
  simp only [ev, M.bind] at h
  refine ⟨m, env, S, ok, re, ?_⟩
  cases q : evSr (callI C.T C.G k) C.G sr env S with
  | bad => rw [q] at h; exact h.elim
  | exc c S' => rw [q] at h; exact h
  | ok xs S1 =>
    rw [q] at h
    simp only at h
    intro H1 m1 e1 o1 J src hl Dl hD
    have re1 := re.mono e1
    generalize hf : (fun x => match bindTg (wipeD env own) tg x with
      | none => M.bad
      | some env' => M.bind (evC (callI C.T C.G k) C.G cs env') fun b => if b then M.bind (ev (callI C.T C.G k) C.G elt env') fun y => M.pure (some y) else M.pure none) = f at h
    cases q2 : lcM f xs S1 with
    | bad => rw [q2] at h; exact h.elim
    | exc c S' => rw [q2] at h; exact h.elim
    | ok ys Sf =>
      rw [q2] at h
      simp only [noExc] at h
      exact lc_run hs hf o1 re1 src hl q2 (fun H' m' e' o' v r => h H' m' (e1.trans e') o' v r) Dl hD
theorem x_lc (g : Good C k X W) {own : List Nat} {tg : Tg} {sr : Sr} {cs : Es} {elt : E} {x t it : Expr} {ifs : List Expr} {scope : Scope} {p : Pos} (hb : blkC X.N X.env.scope scope (ownOf X.N own) = true) (hs : ∀ i ∈ tgIs tg, i ∈ own)
    (hi : PI X t it (ySr C k X W sr)) (hx : ∀ x, foldedSetIterable it X.env x = pure x)
    (hg : ∀ (s : Shared) (H : Hp) (c : Addr) (cl : List (Str × Addr)) (fp : List Addr), PG (X.blk s H scope (compEnvC scope cl c X.env) fp) t (gTg X.K tg))
    (ht : ∀ (s : Shared) (H : Hp) (c : Addr) (cl : List (Str × Addr)) (fp : List Addr), PTs (X.blk s H scope (compEnvC scope cl c X.env) fp) ifs (tC2 X.K (callI C.T C.G k) C.G (fun _ _ => False) cs))
    (he : ∀ (s : Shared) (H : Hp) (c : Addr) (cl : List (Str × Addr)) (fp : List Addr), PE (X.blk s H scope (compEnvC scope cl c X.env) fp) x (tI X.K (callI C.T C.G k) C.G (fun _ _ => False) elt)) :
    PE X (.ListComp x [⟨t, it, ifs, 0⟩] scope p) (yI C k X W (.lc own tg sr cs elt)) := by
  have P := pe_lc (pos := p) g.calm g.nd hi (blkOk_by hb) hg ht he hx
  rw [ownOf_snd] at P
  exact P.imp fun σ H Q h => r_lc hs h
end
end G11

/-! Snd6: objects that change, calls -/
namespace G11
open PySem PySem.Spec PyProof.Rows L2
variable [Fns]

theorem ext_mut {H : Hp} {m : Ms} {a : Addr} {o o0 : HO} (ha : a ∈ m.ix) (h0 : H a = some o0) (ht : ∀ xs, o0 ≠ .tup xs) (hf : ∀ u v, o0 ≠ .frz u v) (nc : NoCode a o0) : Ext H m (upd H a o) m := by
  refine ⟨fun b u h hm _ => ?_, fun b xs h => ?_, fun b u x h => ?_, ⟨[], by simp, fun _ z => by cases z⟩, fun _ z => z, fun _ z => .inl z, fun b h => ?_, fun t p hp => tab_upd (fun x e => by rw [h0] at e; cases e; exact nc) (t p hp)⟩
  · rw [upd_ne fun z => hm (by rw [z]; exact ha)]; exact h
  · rw [upd_ne (ne_of h h0 fun z => ht xs z.symm)]; exact h
  · rw [upd_ne (ne_of h h0 fun z => hf u x z.symm)]; exact h
  · by_cases hb : b = a
    · rw [hb, upd_same]; rfl
    · rw [upd_ne hb]; exact h
theorem OkS.mut {K : PySem.W.Frag} {H : Hp} {m : Ms} {S : Store} (ok : OkS K H m S) {i : Nat} {a : Addr} {o o0 : HO} {ob : O} (hi : m.ix[i]? = some a) (h0 : H a = some o0) (ht : ∀ xs, o0 ≠ .tup xs) (hf : ∀ u v, o0 ≠ .frz u v)
    (hO : OR K (upd H a o) m a ob) : OkS K (upd H a o) m (S.set i ob) := by
  have e := ext_mut (o := o) (List.mem_of_getElem? hi) h0 ht hf (ok.noCode (List.mem_of_getElem? hi) h0)
  refine ⟨by rw [List.length_set]; exact ok.len, ok.nd, fun b hb => e.kept (ok.hd b hb), fun j b x e1 e2 => ?_, e.tab ok.tabs⟩
  by_cases hj : i = j
  · subst hj
    rw [hi] at e1; cases e1
    have hl : i < S.length := by
      have := (List.getElem?_eq_some_iff.mp e2).1
      rw [List.length_set] at this; exact this
    rw [List.getElem?_set_self hl] at e2; cases e2
    exact hO
  · rw [List.getElem?_set_ne hj] at e2
    have hb : b ≠ a := by
      intro z
      subst z
      have h1 := (List.getElem?_eq_some_iff.mp hi).1
      exact hj ((List.getElem?_inj h1 ok.nd).mp (hi.trans e1.symm))
    exact (ok.obj j b x e1 e2).mono e.to0 (upd_ne hb)

def rM (K : PySem.W.Frag) (f : D → List D → M D) : V → List V → Hp → VK → Prop := fun x xs H Q => ∃ m S dx ds, OkS K H m S ∧ RD K H m dx x ∧ RDs K H m ds xs ∧ Af K m H (fun _ _ => False) (PV K Q) (f dx ds S)

section
variable {X : Cx}
theorem ms_append : MtR X "list.append" (rM X.K (doMeth .append)) := by
  intro pins s σ H x xs v us Q I rx rs h
  obtain ⟨m, S, dx, ds, ok, r1, r2, h⟩ := h
  unfold doMeth at h
  split at h
  · rename_i i d hm
    obtain ⟨a, ha, e1⟩ := OkS.refD r1
    subst e1
    obtain ⟨o, ho, hO⟩ := ok.free ha
    rw [ho] at h
    cases o with
    | lst ys =>
      simp only at h
      split at h
      · rename_i hl
        obtain ⟨vs, e2, e3, e4⟩ := hO
        simp only [RDs] at r2
        obtain ⟨w, ws, rfl, r2, rfl⟩ := r2
        have e := ext_mut (o := .lst (vs ++ [w])) (List.mem_of_getElem? ha) e2 (fun _ z => by cases z) (fun _ _ z => by cases z) .lst
        refine mt_append pins s σ H _ _ v us Q I rx rs ⟨a, vs, w, rfl, rfl, e2, by rw [e3.length]; exact Nat.lt_trans hl lim_lt, ?_⟩
        refine h _ m e (ok.mut ha e2 (fun _ z => by cases z) (fun _ _ z => by cases z) ⟨vs ++ [w], upd_same, (e3.append (RDs.one r2)).mono e, ?_⟩) .non (by simp only [RD])
        rw [List.length_append]; simp; omega
      · exact h.elim
    | _ => exact h.elim
  all_goals first | (rename_i z; cases z; done) | exact h.elim
theorem ms_pop : MtR X "list.pop" (rM X.K (doMeth .pop)) := by
  intro pins s σ H x xs v us Q I rx rs h
  obtain ⟨m, S, dx, ds, ok, r1, r2, h⟩ := h
  unfold doMeth at h
  split at h
  all_goals try (first | (rename_i z; cases z; done) | exact h.elim)
  · rename_i i _
    obtain ⟨a, ha, e1⟩ := OkS.refD r1
    subst e1
    obtain ⟨o, ho, hO⟩ := ok.free ha
    rw [ho] at h
    cases o with
    | lst ys =>
      simp only at h
      cases q : ys[ys.length - 1]? with
      | none => rw [q] at h; exact h.elim
      | some y =>
        rw [q] at h
        obtain ⟨vs, e2, e3, e4⟩ := hO
        simp only [RDs] at r2
        subst r2
        obtain ⟨w, q1, q2⟩ := e3.get q
        have e := ext_mut (o := .lst vs.dropLast) (List.mem_of_getElem? ha) e2 (fun _ z => by cases z) (fun _ _ z => by cases z) .lst
        refine mt_pop pins s σ H _ _ v us Q I rx rs ⟨a, vs, w, rfl, rfl, e2, by rw [e3.length]; exact q1, ?_⟩
        refine h _ m e (ok.mut ha e2 (fun _ z => by cases z) (fun _ _ z => by cases z) ⟨vs.dropLast, upd_same, ?_, ?_⟩) w (q2.mono e)
        · have z : RDs X.K H m ys.dropLast vs.dropLast := by
            rw [List.dropLast_eq_take, List.dropLast_eq_take, e3.length]
            exact e3.take _
          exact z.mono e
        · rw [List.length_dropLast]; omega
    | _ => exact h.elim
theorem list_extT (l : Addr) (items : Array Value) (n : Nat) (b : Addr) (items2 : Array Value) (n2 : Nat) (dd : Option Addr) (sl : Array (Option Value)) (hs0 : ¬(!items.isEmpty && Builtin.List.listTooLong (items.size + items2.size)) = true) (hs1 : items.size ≤ sizeLine) (hs2 : items.size + items2.size ≤ sizeLine + 1) :
    Meets (Builtin.«list.extend» ⟨[.ref l, .ref b], []⟩) (fun _ R s => s.heap.get? l = some { cls := .type "list", dict := none, data := .seq items n, slots := #[] } ∧ s.heap.get? b = some { cls := .type "tuple", dict := dd, data := .seq items2 n2, slots := sl } ∧ R (.ok (.ret Value.none)) { s with heap := s.heap.update l (Obj.mapSeq fun x => x ++ items2), toks := s.toks }) :=
  .of_wp fun prog w A R s h => by
    obtain ⟨hp, g, d, tk, os⟩ := s; obtain ⟨hl, hb, h⟩ := h
    have f1 := AutoSeq1.idx_int; have f2 := AutoSeq1.sub_tuple_tuple; have f3 := AutoSeq1.sub_list_list; have f4 := AutoSeq1.sub_tuple_list; have f5 := AutoSeq1.sub_list_tuple
    have hz' : (items ++ items2).size ≤ sizeLine + 1 := by rw [Array.size_append]; exact hs2
    wp_walk using (wpAny_updateSeq hl rfl (hz := hs1) (_hz' := hz')), wpAny_loadPart' hl, wpAny_loadPart' hb
    exact ⟨_, rfl, h⟩
def rExtT (K : PySem.W.Frag) : V → List V → Hp → VK → Prop := fun x vs H Q => ∃ l b xs zs, x = .ref l ∧ vs = [.ref b] ∧ H l = some (.lst xs) ∧ SqT K H b zs ∧ xs.length + zs.length ≤ sizeLine ∧ Q .non (upd H l (.lst (xs ++ zs)))
theorem mt_extT : MtR X "list.extend" (rExtT X.K) := by
  intro pins s σ H x vs v us Q I rx rv h
  obtain ⟨l, b, xs, zs, rfl, rfl, hH, hB, hz, q⟩ := h
  cases rx
  obtain ⟨u, rfl, ru⟩ := rv.one
  cases ru
  obtain ⟨z, its, n, r, hl, e⟩ := I.lstM hH
  obtain ⟨its2, r2, ⟨⟨cls, dd, data, sl⟩, ho, hc, n2, hd⟩, hs⟩ := I.tuple hB
  simp only at hc hd
  subst hc hd
  have hl2 := r2.length
  have hsz : its.toArray.size + its2.toArray.size ≤ sizeLine := by rw [List.size_toArray, List.size_toArray]; omega
  have hlong : ¬ (!its.toArray.isEmpty && Builtin.List.listTooLong (its.toArray.size + its2.toArray.size)) = true := by
    rw [notLongL hsz, Bool.and_false]
    exact Bool.false_ne_true
  refine call_meets F.slot_list_extend ⟨_, e, rfl⟩ F.entry_list_extend (F.args_list_extend_2 _ _)
    (list_extT l its.toArray n b its2.toArray n2 dd sl hlong (by rw [List.size_toArray]; omega) (by omega)) ⟨e, ho, ?_⟩
  refine ⟨.non, _, I.lset (its' := its ++ its2) hH e (by simp) (r.append r2) ?_, rfl, q⟩
  rw [List.length_append]
  omega
theorem ms_extend : MtR X "list.extend" (rM X.K (doMeth .extend)) := by
  intro pins s σ H x xs v us Q I rx rs h
  obtain ⟨m, S, dx, ds, ok, r1, r2, h⟩ := h
  unfold doMeth at h
  split at h
  all_goals try (first | (rename_i z; cases z; done) | exact h.elim)
  · rename_i i ds hm
    obtain ⟨a, ha, e1⟩ := OkS.refD r1
    subst e1
    obtain ⟨o, ho, hO⟩ := ok.free ha
    rw [ho] at h
    cases o with
    | lst ys =>
      simp only at h
      split at h
      · rename_i hl
        obtain ⟨vs, e2, e3, e4⟩ := hO
        simp only [RDs, RD] at r2
        obtain ⟨w, ws, rfl, ⟨b, us2, rfl, e5, e6, e7, _⟩, rfl⟩ := r2
        have e := ext_mut (o := .lst (vs ++ us2)) (List.mem_of_getElem? ha) e2 (fun _ z => by cases z) (fun _ _ z => by cases z) .lst
        refine mt_extend pins s σ H _ _ v us Q I rx rs ⟨a, b, vs, us2, rfl, rfl, e2, e5, by rw [e3.length, e7.length]; exact Nat.le_trans hl lim_le, ?_⟩
        refine h _ m e (ok.mut ha e2 (fun _ z => by cases z) (fun _ _ z => by cases z) ⟨vs ++ us2, upd_same, (e3.append e7).mono e, ?_⟩) .non (by simp only [RD])
        rw [List.length_append]; exact hl
      · exact h.elim
    | _ => exact h.elim
  · rename_i i ds hm
    obtain ⟨a, ha, e1⟩ := OkS.refD r1
    subst e1
    obtain ⟨o, ho, hO⟩ := ok.free ha
    rw [ho] at h
    cases o with
    | lst ys =>
      simp only at h
      split at h
      · rename_i hl
        obtain ⟨vs, e2, e3, e4⟩ := hO
        simp only [RDs, RD] at r2
        obtain ⟨w, ws, rfl, ⟨b, us2, rfl, e5, e7, _⟩, rfl⟩ := r2
        have e := ext_mut (o := .lst (vs ++ us2)) (List.mem_of_getElem? ha) e2 (fun _ z => by cases z) (fun _ _ z => by cases z) .lst
        refine mt_extT pins s σ H _ _ v us Q I rx rs ⟨a, b, vs, us2, rfl, rfl, e2, e5, by rw [e3.length, e7.length]; exact Nat.le_trans hl lim_le, ?_⟩
        refine h _ m e (ok.mut ha e2 (fun _ z => by cases z) (fun _ _ z => by cases z) ⟨vs ++ us2, upd_same, (e3.append e7).mono e, ?_⟩) .non (by simp only [RD])
        rw [List.length_append]; exact hl
      · exact h.elim
    | _ => exact h.elim
theorem base_plain {o : Expr} {name : Str} {env : Env} (h : (match o with
    | .Call (.Name _ _) [] [] _ => false
    | _ => true) = true) : attributeBase o name env (eval o env) = eval o env := by
  unfold attributeBase
  split
  · simp at h
  · rfl
/-- list.index -/
theorem idx_spec (x : D) {n k : Nat} (hx : okD n x = true) : ∀ (xs : List D) (j : Nat), okDs k xs = true → idxOf x xs = some j → ∃ z, (toPys xs)[j]? = some z ∧ PyData.eqv z (toPy x) = true ∧ ∀ (i : Nat) (z' : PyData), i < j → (toPys xs)[i]? = some z' → PyData.eqv z' (toPy x) = false
  | [], j, _, h => by simp [idxOf] at h
  | y :: ys, j, ho, h => by
    simp only [okDs, Bool.and_eq_true] at ho
    simp only [idxOf] at h
    split at h
    · rename_i e
      cases h
      exact ⟨toPy y, rfl, by rw [deq_py y x ho.1 hx]; exact e, fun i z' hi => by omega⟩
    · rename_i e
      obtain ⟨j', h1, h2⟩ := Option.map_eq_some_iff.mp h
      subst h2
      obtain ⟨z, z1, z2, z3⟩ := idx_spec x hx ys j' ho.2 h1
      refine ⟨z, by simpa [toPys] using z1, z2, fun i z' hi hz => ?_⟩
      cases i with
      | zero =>
        simp [toPys] at hz
        subst hz
        rw [deq_py y x ho.1 hx]
        simpa using e
      | succ i => exact z3 i z' (by omega) (by simpa [toPys] using hz)
theorem ms_index (hu : X.A.units + 65 < cLine) : MtR X "list.index" (rM X.K (doMeth .index)) := by
  intro pins s σ H x xs v us Q I rx rs h
  obtain ⟨m, S, dx, ds, ok, r1, r2, h⟩ := h
  have go : ∀ {a : Addr} {vs : List V} {ys : List D} {d : D} {w : V}, x = .ref a → xs = [w] → H a = some (.lst vs) → RDs X.K H m ys vs → RD X.K H m d w → okD 60 d = true → okDs 60 ys = true → ∀ {j : Nat}, idxOf d ys = some j → Q (.int j) H →
      wpAny (model X.prog X.w) X.A (call (.builtin "list.index") (v :: us)) (EP X pins σ Q) X.xe s := by
    intro a vs ys d w e1 e2 e3 e4 r o1 o2 j q fin
    subst e1 e2
    obtain ⟨z, z1, z2, z3⟩ := idx_spec d o1 ys j o2 q
    have l1 := okD_lay o1
    have l2 := okDs_lay o2
    have hy : Dp X.K H (.ref a) (.list (toPys ys)) := .lst (SqL.of e3) (e4.dp o2)
    exact mt_indexD hu pins s σ H _ _ v us Q I rx rs ⟨a, w, toPy d, toPys ys, j, z, rfl, rfl, hy, r.dp o1, by
      unfold SeqAt.shaped
      exact Bool.and_eq_true_iff.mpr ⟨l2.1, decide_eq_true (by simp only [PyData.depth]; have := l2.2; omega)⟩, by
      unfold SeqAt.shaped
      exact Bool.and_eq_true_iff.mpr ⟨l1.1, decide_eq_true (by have := l1.2; omega)⟩, z1, z2, fun i z' hi hz => z3 i z' hi hz, fin⟩
  cases ds with
  | nil => cases dx <;> exact h.elim
  | cons d ds =>
    cases ds with
    | cons _ _ => cases dx <;> exact h.elim
    | nil =>
      simp only [RDs] at r2
      obtain ⟨w, ws, e0, r2, e5⟩ := r2
      subst e5
      cases dx with
      | lst ys =>
        simp only [doMeth] at h
        split at h
        · rename_i ho
          simp only [Bool.and_eq_true] at ho
          cases q : idxOf d ys with
          | none => rw [q] at h; exact h.elim
          | some j =>
            rw [q] at h
            simp only [RD] at r1
            obtain ⟨a, vs, e1, e2, _, e3, _⟩ := r1
            exact go e1 e0 e2 e3 r2 ho.1 ho.2 q (h H m (Ext.refl _ _) ok _ (by simp only [RD]))
        · exact h.elim
      | ref i =>
        simp only [doMeth] at h
        obtain ⟨a, ha, e1⟩ := OkS.refD r1
        obtain ⟨o, ho, hO⟩ := ok.free ha
        rw [ho] at h
        cases o with
        | lst ys =>
          simp only at h
          split at h
          · rename_i ho
            simp only [Bool.and_eq_true] at ho
            cases q : idxOf d ys with
            | none => rw [q] at h; exact h.elim
            | some j =>
              rw [q] at h
              obtain ⟨vs, e2, e3, _⟩ := hO
              exact go e1 e0 e2 e3 r2 ho.1 ho.2 q (h H m (Ext.refl _ _) ok _ (by simp only [RD]))
          · exact h.elim
        | _ => exact h.elim
      | _ => exact h.elim
end
end G11

/-! Snd7: the rest of the expressions -/
namespace G11
open PySem PySem.Spec PyProof.Rows L2
variable [Fns]

theorem Af.impW {K : PySem.W.Frag} {m : Ms} {H : Hp} {W W' : Nat → Hp → Prop} {α : Type} {P : α → Ms → Hp → Prop} {r : R α} (h : Af K m H W P r) (i : ∀ c H', W c H' → W' c H') : Af K m H W' P r := by
  cases r with
  | ok a S => exact h
  | exc c S => exact fun H' m' e o => i _ _ (h H' m' e o)
  | bad => exact h
theorem Af.noexc {K : PySem.W.Frag} {m : Ms} {H : Hp} {W W' : Nat → Hp → Prop} {α : Type} {P : α → Ms → Hp → Prop} {r : R α} (h : Af K m H W P r) (i : ∀ c S, r ≠ .exc c S) : Af K m H W' P r := by
  cases r with
  | ok a S => exact h
  | exc c S => exact absurd rfl (i c S)
  | bad => exact h
theorem cmpS_out (op : Cop) (x y : D) (S : Store) : doCmpS op x y S = .bad ∨ ∃ b, doCmpS op x y S = .ok (.bl b) S := by
  unfold doCmpS
  split
  all_goals
    split
    · exact .inr ⟨_, rfl⟩
    · exact .inl rfl
theorem idx_noexc (x y : D) (S : Store) : ∀ c S', doIdx x y S ≠ .exc c S' := by
  intro c S' h
  unfold doIdx at h
  repeat' (split at h)
  all_goals cases h
theorem bi_noexc (b : Bi) (x : D) (S : Store) : ∀ c S', doBi b x S ≠ .exc c S' := by
  intro c S' h
  unfold doBi at h
  repeat' (split at h)
  all_goals cases h
theorem meth_noexc (b : Mt) (x : D) (ds : List D) (S : Store) : ∀ c S', doMeth b x ds S ≠ .exc c S' := by
  intro c S' h
  unfold doMeth at h
  repeat' (split at h)
  all_goals cases h

section
variable {C : Ctx} {k : Nat} {X : Cx} {W : Nat → Hp → Prop} (g : Good C k X W)
include g
theorem r_cmp {op : Cop} {a b : E} {σ : L2.St} {H : Hp} {Q : VK} (h : yI C k X W (.cmp op a b) σ H Q) : tOp (rS X.K (doCmpS op)) (yI C k X W a) (yI C k X W b) σ H Q := by
  obtain ⟨m, env, S, ok, re, h⟩ := h
  simp only [ev] at h
  refine tI_bind ok re h fun d S1 v H1 m1 e1 o1 re1 r1 h => ?_
  refine tI_bind o1 re1 h fun d' S2 v' H2 m2 e2 o2 re2 r2 h => ?_
  exact ⟨m2, S2, d, d', o2, r1.mono e2, r2, h.noexc fun c S' z => by
    rcases cmpS_out op d d' S2 with q | ⟨b, q⟩ <;> rw [q] at z <;> cases z⟩
theorem x_cmp {op : Cop} {a b : E} {x y : Expr} {p : Pos} (ha : PE X x (yI C k X W a)) (hb : PE X y (yI C k X W b)) (hp : plainX y = true) : PE X (.Compare x [opC op] [y] p) (yI C k X W (.cmp op a b)) :=
  (pe_cmpR (op_cmpS op g.units) ha hb (nomark_plain hp)).imp fun σ H Q h => r_cmp g h
theorem t_cmpS {op : Cop} {a b : E} {x y : Expr} {p : Pos} (ha : PE X x (yI C k X W a)) (hb : PE X y (yI C k X W b)) (hp : plainX y = true) : PT X (.Compare x [opC op] [y] p) (yT C k X W (.cmp op a b)) :=
  t_cmp (op_cmpS op g.units) ha hb (nomark_plain hp) fun σ H Q h => r_cmp g h
theorem r_chain {op op' : Cop} {a b c : E} {σ : L2.St} {H : Hp} {Q : VK} (h : yI C k X W (.chain op op' a b c) σ H Q) : tChain (rS X.K (doCmpS op)) (rS X.K (doCmpS op')) (yI C k X W a) (yI C k X W b) (yI C k X W c) σ H Q := by
  obtain ⟨m, env, S, ok, re, h⟩ := h
  simp only [ev] at h
  refine tI_bind ok re h fun d S1 v H1 m1 e1 o1 re1 r1 h => ?_
  refine tI_bind o1 re1 h fun d' S2 v' H2 m2 e2 o2 re2 r2 h => ?_
  refine ⟨m2, S2, d, d', o2, r1.mono e2, r2, ?_⟩
  simp only [M.bind] at h
  rcases cmpS_out op d d' S2 with q | ⟨b, q⟩
  · rw [q] at h; exact h.elim
  · rw [q] at h ⊢
    intro H3 m3 e3 o3 z rz
    simp only [RD] at rz
    refine ⟨b, rz, ?_⟩
    simp only at h
    cases b with
    | false => exact iteF (h H3 m3 e3 o3 _ (by simp only [RD]))
    | true =>
      refine iteT ?_
      refine tI_bind o3 (re2.mono e3) (Af.shift e3 h) fun d3 S4 v3 H4 m4 e4 o4 re4 r4 h => ?_
      exact ⟨m4, S4, d', d3, o4, (r2.mono e3).mono e4, r4, h.noexc fun c S' z => by
        rcases cmpS_out op' d' d3 S4 with q | ⟨b, q⟩ <;> rw [q] at z <;> cases z⟩
theorem x_chain {op op' : Cop} {a b c : E} {x y z : Expr} {p : Pos} (ha : PE X x (yI C k X W a)) (hb : PE X y (yI C k X W b)) (hc : PE X z (yI C k X W c)) (hp : plainX z = true) : PE X (.Compare x [opC op, opC op'] [y, z] p) (yI C k X W (.chain op op' a b c)) :=
  (pe_chain (op_cmpS op g.units) (op_cmpS op' g.units) ha hb hc (nomark_plain hp)).imp fun σ H Q h => r_chain g h
theorem t_chain {op op' : Cop} {a b c : E} {x y z : Expr} {p : Pos} (ha : PE X x (yI C k X W a)) (hb : PE X y (yI C k X W b)) (hc : PE X z (yI C k X W c)) (hp : plainX z = true) : PT X (.Compare x [opC op, opC op'] [y, z] p) (yT C k X W (.chain op op' a b c)) :=
  t_of (pt_chain (op_cmpS op g.units) (op_cmpS op' g.units) ha hb hc (nomark_plain hp)) fun σ H Q h => r_chain g h
omit g in
theorem ix_plain {i : Expr} (h : plainX i = true) : PlainIx i := by
  intro o v
  cases i <;> first | rfl | (simp [plainX] at h)
theorem x_idx {a b : E} {x y : Expr} {p : Pos} (ha : PE X x (yI C k X W a)) (hb : PE X y (yI C k X W b)) (hp : plainX y = true) : PE X (.Subscript x y p) (yI C k X W (.idx a b)) := by
  refine (pe_ix (ix_all g.units) ha hb (ix_plain hp)).imp fun σ H Q h => ?_
  obtain ⟨m, env, S, ok, re, h⟩ := h
  simp only [ev] at h
  refine tI_bind ok re h fun d S1 v H1 m1 e1 o1 re1 r1 h => ?_
  refine tI_bind o1 re1 h fun d' S2 v' H2 m2 e2 o2 re2 r2 h => ?_
  exact ⟨m2, S2, d, d', o2, r1.mono e2, r2, h.noexc (idx_noexc _ _ _)⟩
omit g in
theorem o_no : PO X none (yO C k X W .no) := by
  refine ⟨fun pins s σ H Q I h => (po_none (X := X)).run pins s σ H Q I ?_⟩
  obtain ⟨m, env, S, ok, re, h⟩ := h
  simp only [evO] at h
  exact h H m (Ext.refl _ _) ok
omit g in
theorem o_some {e : E} {x : Expr} (ha : PE X x (yI C k X W e)) : PO X (some x) (yO C k X W (.some e)) := by
  refine ⟨fun pins s σ H Q I h => (po_some ha).run pins s σ H Q I ?_⟩
  obtain ⟨m, env, S, ok, re, h⟩ := h
  simp only [evO] at h
  refine tI_bind ok re h fun d S1 v H1 m1 e1 o1 re1 r1 h => ?_
  cases d with
  | int i =>
    simp only [RD] at r1
    exact ⟨i, r1, h H1 m1 (Ext.refl _ _) o1⟩
  | _ => exact h.elim
omit g in
theorem sIx_eq (n d : Nat) (o : Option Int) : HT.sIx n d o = sIx n d o := by
  cases o with
  | none => rfl
  | some i =>
    unfold HT.sIx sIx
    rfl
omit g in
theorem cut_eq {K : PySem.W.Frag} {H : Hp} {m : Ms} {ds : List D} {vs : List V} (lo hi : Option Int) (r : RDs K H m ds vs) : RDs K H m (cutD ds lo hi) (cutV vs lo hi) := by
  unfold cutD cutV
  rw [r.length, sIx_eq, sIx_eq]
  exact (r.drop _).take _
theorem x_sl {a : E} {lo hi : Oe} {x : Expr} {l h' : Option Expr} {p p2 : Pos} (ha : PE X x (yI C k X W a)) (hl : PO X l (yO C k X W lo)) (hh : PO X h' (yO C k X W hi)) : PE X (.Subscript x (.Slice l h' none p2) p) (yI C k X W (.sl a lo hi)) := by
  refine (pe_slice (SlR.or sl_tupA sl_list) ha hl hh).imp fun σ H Q h => ?_
  obtain ⟨m, env, S, ok, re, h⟩ := h
  simp only [ev] at h
  refine tI_bind ok re h fun d S1 v H1 m1 e1 o1 re1 r1 h => ?_
  refine tO_bind o1 re1 h fun l S2 H2 m2 e2 o2 re2 h => ?_
  refine tO_bind o2 re2 h fun u S3 H3 m3 e3 o3 re3 h => ?_
  have r1 := (r1.mono e2).mono e3
  unfold doSl at h
  cases d with
  | tup ds =>
    simp only [M.of] at h
    have r1' := r1
    simp only [RD] at r1
    obtain ⟨b, vs, rfl, e5, e6, hlen⟩ := r1
    refine .inl ⟨b, vs, rfl, e5, fun hw => ?_, fun _ q hq => ?_⟩
    · have e7 : cutD ds l u = ds := by
        unfold cutD
        rw [e6.length] at hw
        rw [← sIx_eq, ← sIx_eq, hw.1, hw.2]
        simp
      rw [e7] at h
      exact h H3 m3 (Ext.refl _ _) o3 _ r1'
    · refine new_tup o3 (cut_eq l u e6) ?_ (fun v H' e' o' r' => h H' m3 e' o' v r') hq
      have := (cut_eq l u e6).length
      have z := cutV_length vs l u
      rw [this, e6.length] at z
      omega
  | lst ds =>
    simp only [M.of] at h
    simp only [RD] at r1
    obtain ⟨b, vs, rfl, e5, _, e6, hlen⟩ := r1
    refine .inr ⟨b, vs, rfl, SqL.of e5, fun q hq => ?_⟩
    refine new_lst o3 (cut_eq l u e6) ?_ (fun v H' e' o' r' => h H' m3 e' o' v r') hq
    have := (cut_eq l u e6).length
    have z := cutV_length vs l u
    rw [this, e6.length] at z
    omega
  | _ => exact h.elim
end
end G11

/-! Snd8: calls -/
namespace G11
open PySem PySem.Spec PyProof.Rows L2
variable [Fns]

theorem callI_len {T : Nat → Option Fn} {G : List D} {k f : Nat} {ds : List D} {S : Store} {fn : Fn} (hf : T f = some fn) (h : callI T G k f ds S ≠ .bad) : ds.length = fn.pars := by
  cases k with
  | zero => exact absurd rfl h
  | succ k =>
    rw [callI_succ _ _ _ _ _ _ hf] at h
    have key : ∀ S, runBody (callI T G k) G fn ds S ≠ .bad → ds.length = fn.pars := fun S h => by
      unfold runBody at h
      by_cases e : ds.length = fn.pars
      · exact e
      · rw [if_neg e] at h; exact absurd rfl h
    split at h
    · split at h
      · refine key [] fun z => ?_
        rw [z] at h; exact h rfl
      · exact absurd rfl h
    · exact key S h

section
variable {C : Ctx} {k : Nat} {X : Cx} {W : Nat → Hp → Prop} (g : Good C k X W)
include g
theorem passW : Passes (L2.CX X.prog X.w) X (wk C.cl W) := passes_call g.tk fun cls d σ H h => h
theorem fn_of_name {f : Nat} {x : Str} (hF : C.F[f]? = some x) (hn : nmOk x = true) : ∃ fn, C.T f = some fn := g.stat.has f x hF hn
omit g in
theorem r_call {f : Nat} {fn : Fn} {es : Es} (hT : C.T f = some fn) {σ : L2.St} {H : Hp} {Q : VK} (h : yI C k X W (.call f es) σ H Q) : tCall (spI X.K C k f fn.pars) [] (wk C.cl W) (yIs C k X W es) σ H Q := by
  obtain ⟨m, env, S, ok, re, h⟩ := h
  simp only [ev] at h
  refine tIs_bind ok re h fun ds S1 vs H1 m1 e1 o1 re1 r1 h => ?_
  rw [List.append_nil]
  refine ⟨?_, m1, S1, ds, o1, r1, h.impW fun c H' w a ha => ⟨c, a, ha, rfl, rfl, w⟩⟩
  rw [r1.length]
  exact callI_len hT fun z => by rw [z] at h; exact h
theorem x_call0 {f : Nat} {x : Str} {p p' : Pos} (hF : C.F[f]? = some x) (hg : Gl X x) (hn : nmOk x = true) : PE X (.Call (.Name x p) [] [] p') (yI C k X W (.call f .nil)) := by
  obtain ⟨fn, hT⟩ := fn_of_name g hF hn
  obtain ⟨fa, fd, ps, hps, hm, hk, ⟨hb, _⟩, F⟩ := g.tab k (Nat.le_refl k) f fn x hT hF hn
  refine (pe_call0 F g.room hg hm hk hb .nil (passW g) (nmOk_ok hn).1).imp fun σ H Q h => ?_
  obtain ⟨m, env, S, ok, re, q⟩ := r_call hT h
  simp only [evs] at q
  exact q H m (Ext.refl _ _) ok [] (by simp only [RDs])
theorem x_call {f : Nat} {es : Es} {x : Str} {y : Expr} {ys : List Expr} {p p' : Pos} (hF : C.F[f]? = some x) (hg : Gl X x) (hn : nmOk x = true) (ha : PA X (y :: ys) (yIs C k X W es)) (hp : (y :: ys).all plainX = true) : PE X (.Call (.Name x p) (y :: ys) [] p') (yI C k X W (.call f es)) := by
  obtain ⟨fn, hT⟩ := fn_of_name g hF hn
  obtain ⟨fa, fd, ps, hps, hm, hk, ⟨hb, _⟩, F⟩ := g.tab k (Nat.le_refl k) f fn x hT hF hn
  simp only [List.all_cons, Bool.and_eq_true] at hp
  exact (pe_call F g.room hg hm hk hb .nil (passW g) ha (nmOk_ok hn).1 (star_cons hp.1) (star_back hp.2)).imp fun σ H Q h => r_call hT h

/-! ### built-ins -/
theorem r_bi {b : Bi} {e : E} {σ : L2.St} {H : Hp} {Q : VK} (h : yI C k X W (.bi b e) σ H Q) : tCB (rS1 X.K (doBi b)) (yIs C k X W (.cons e .nil)) σ H Q := by
  obtain ⟨m, env, S, ok, re, h⟩ := h
  simp only [ev] at h
  refine ⟨m, env, S, ok, re, ?_⟩
  simp only [evs, M.bind] at h ⊢
  cases q : ev (callI C.T C.G k) C.G e env S with
  | bad => rw [q] at h; exact h.elim
  | exc c S' => rw [q] at h; exact h
  | ok d S' =>
    rw [q] at h
    intro H1 m1 e1 o1 vs r
    simp only [RDs] at r
    obtain ⟨v, vs', rfl, r, rfl⟩ := r
    exact ⟨m1, S', d, v, rfl, o1, r, (Af.shift e1 h).noexc (bi_noexc _ _ _)⟩
theorem x_bi {b : Bi} {e : E} {x : Str} {y : Expr} {p p' : Pos} (hb : ∀ t, b ≠ .isi t) (hx : x = biName b) (hg : Gl X x) (ha : PE X y (yI C k X W e)) (hp : plainX y = true)
    (hs : b = .sorted → CallR X (.builtin "sorted") (rS1 X.K (doBi .sorted))) : PE X (.Call (.Name x p) [y] [] p') (yI C k X W (.bi b e)) := by
  have hA : PA X [y] (yIs C k X W (.cons e .nil)) := xs_cons ha xs_nil hp
  have hst : starEach [y] X.env = (false, eval y X.env) :: starEach [] X.env := star_cons hp
  subst hx
  cases b with
  | len => exact (pe_callB cb_len hg (g.stat.blt "len" (by decide)) (by decide +kernel) hA (by decide) (by decide) hst rfl).imp fun σ H Q h => r_bi g h
  | all => exact (pe_callB (cb_all g.calm) hg (g.stat.blt "all" (by decide)) (by decide +kernel) hA (by decide) (by decide) hst rfl).imp fun σ H Q h => r_bi g h
  | any => exact (pe_callB (cb_any g.calm) hg (g.stat.blt "any" (by decide)) (by decide +kernel) hA (by decide) (by decide) hst rfl).imp fun σ H Q h => r_bi g h
  | sorted => exact (pe_callB (hs rfl) hg (g.stat.blt "sorted" (by decide)) (by decide +kernel) hA (by decide) (by decide) hst rfl).imp fun σ H Q h => r_bi g h
  | tuple => exact (pe_callTy cb_tuple hg (g.stat.blt "tuple" (by decide)) (by decide +kernel) hA (by decide) (by decide) hst rfl).imp fun σ H Q h => r_bi g h
  | list => exact (pe_callTy cb_list hg (g.stat.blt "list" (by decide)) (by decide +kernel) hA (by decide) (by decide) hst rfl).imp fun σ H Q h => r_bi g h
  | isi t => exact absurd rfl (hb t)
theorem x_isi {t : Ty} {e : E} {y : Expr} {p p' p2 : Pos} (hg : Gl X "isinstance") (hg2 : Gl X (tyName t)) (ha : PE X y (yI C k X W e)) (hp : plainX y = true) : PE X (.Call (.Name "isinstance" p) [y, .Name (tyName t) p2] [] p') (yI C k X W (.bi (.isi t) e)) := by
  have hT : PE X (.Name (tyName t) p2) (tC (.ty (tyS t))) := by
    cases t with
    | int => exact pe_bltn hg2 (g.stat.blt "int" (by decide)) (u := .type "int") (by decide +kernel) rfl (by decide) (by decide)
    | bool => exact pe_bltn hg2 (g.stat.blt "bool" (by decide)) (u := .type "bool") (by decide +kernel) rfl (by decide) (by decide)
    | tuple => exact pe_bltn hg2 (g.stat.blt "tuple" (by decide)) (u := .type "tuple") (by decide +kernel) rfl (by decide) (by decide)
    | str => exact pe_bltn hg2 (g.stat.blt "str" (by decide)) (u := .type "str") (by decide +kernel) rfl (by decide) (by decide)
  have hA := pa_cons ha (pa_cons hT pa_nil (star_cons rfl)) (star_cons hp)
  refine (pe_callB (pos := p') (p := p) (cb_isi t) hg (g.stat.blt "isinstance" (by decide)) (by decide +kernel) hA (by decide) (by decide) (star_cons hp) (star_back (by rfl))).imp fun σ H Q h => ?_
  obtain ⟨m, env, S, ok, re, h⟩ := h
  simp only [ev] at h
  refine tI_bind ok re h fun d S1 v H1 m1 e1 o1 re1 r1 h => ?_
  exact ⟨m1, S1, d, v, rfl, o1, r1, h.noexc (bi_noexc _ _ _)⟩
omit g in
theorem RDs.range {K : PySem.W.Frag} {H : Hp} {m : Ms} (lo : Int) : ∀ (n : Nat), RDs K H m (rangeD lo n) ((List.range n).map fun i => V.int (lo + (i : Nat)))
  | 0 => by simp [rangeD, RDs]
  | n + 1 => by
    rw [List.range_succ_eq_map]
    simp only [rangeD, List.map_cons, List.map_map, RDs]
    refine ⟨_, _, rfl, by simp only [RD]; congr 1; simp, ?_⟩
    have ih := RDs.range (K := K) (H := H) (m := m) (lo + 1) n
    have e : ((fun (i : Nat) => V.int (lo + (i : Int))) ∘ Nat.succ) = fun (i : Nat) => V.int (lo + 1 + (i : Int)) := by
      funext i
      simp only [Function.comp_apply]
      congr 1
      omega
    rw [e]
    exact ih
theorem x_lstR1 {e : E} {y : Expr} {p p' p2 p3 : Pos} (hg : Gl X "list") (hg2 : Gl X "range") (ha : PE X y (yI C k X W e)) (hp : plainX y = true) : PE X (.Call (.Name "list" p) [.Call (.Name "range" p2) [y] [] p3] [] p') (yI C k X W (.lstR (.rng e))) := by
  refine (pe_listRg g.calm hg (g.stat.blt "list" (by decide)) (prg_1 hg2 (g.stat.blt "range" (by decide)) ha (star_cons hp)) (star_cons rfl)).imp fun σ H Q h => ?_
  obtain ⟨m, env, S, ok, re, h⟩ := h
  refine ⟨m, env, S, ok, re, ?_⟩
  simp only [ev, evSr, M.bind] at h
  cases q : ev (callI C.T C.G k) C.G e env S with
  | bad => rw [q] at h; exact h.elim
  | exc c S' => rw [q] at h; exact h
  | ok d S' =>
    rw [q] at h
    cases d with
    | int n =>
      simp only at h
      intro H1 m1 e1 o1 v r
      simp only [RD] at r
      by_cases hn : (decide (-1000000 ≤ n) && decide (n ≤ 1000000)) = true
      · rw [if_pos hn] at h
        simp only [Bool.and_eq_true, decide_eq_true_eq] at hn
        refine ⟨n, r, ⟨by omega, by omega, by omega, by omega, by omega⟩, fun p hp => new_lst o1 (ds := rangeD 0 n.toNat) ?_ ?_ (fun v' H' e' o' r' => h H' m1 (e1.trans e') o' v' r') hp⟩
        · have z := RDs.range (K := X.K) (H := H1) (m := m1) 0 n.toNat
          unfold rgV
          rw [Int.sub_zero]
          exact z
        · rw [rangeD_length]; show n.toNat ≤ 1000000; omega
      · rw [if_neg hn] at h; exact h.elim
    | _ => exact h.elim
theorem x_tupR1 {e : E} {y : Expr} {p p' p2 p3 : Pos} (hg : Gl X "tuple") (hg2 : Gl X "range") (ha : PE X y (yI C k X W e)) (hp : plainX y = true) : PE X (.Call (.Name "tuple" p) [.Call (.Name "range" p2) [y] [] p3] [] p') (yI C k X W (.tupR (.rng e))) := by
  refine (pe_tupRg g.calm hg (g.stat.blt "tuple" (by decide)) (prg_1 hg2 (g.stat.blt "range" (by decide)) ha (star_cons hp)) (star_cons rfl)).imp fun σ H Q h => ?_
  obtain ⟨m, env, S, ok, re, h⟩ := h
  refine ⟨m, env, S, ok, re, ?_⟩
  simp only [ev, evSr, M.bind] at h
  cases q : ev (callI C.T C.G k) C.G e env S with
  | bad => rw [q] at h; exact h.elim
  | exc c S' => rw [q] at h; exact h
  | ok d S' =>
    rw [q] at h
    cases d with
    | int n =>
      simp only at h
      intro H1 m1 e1 o1 v r
      simp only [RD] at r
      by_cases hn : (decide (-1000000 ≤ n) && decide (n ≤ 1000000)) = true
      · rw [if_pos hn] at h
        simp only [Bool.and_eq_true, decide_eq_true_eq] at hn
        refine ⟨n, r, ⟨by omega, by omega, by omega, by omega, by omega⟩, fun p hp => new_tup o1 (ds := rangeD 0 n.toNat) ?_ ?_ (fun v' H' e' o' r' => h H' m1 (e1.trans e') o' v' r') hp⟩
        · have z := RDs.range (K := X.K) (H := H1) (m := m1) 0 n.toNat
          unfold rgV
          rw [Int.sub_zero]
          exact z
        · rw [rangeD_length]; show n.toNat ≤ 1000000; omega
      · rw [if_neg hn] at h; exact h.elim
    | _ => exact h.elim
theorem x_tupR2 {a b : E} {y z : Expr} {p p' p2 p3 : Pos} (hg : Gl X "tuple") (hg2 : Gl X "range") (ha : PE X y (yI C k X W a)) (hb : PE X z (yI C k X W b)) (hp : plainX y = true) (hp2 : plainX z = true) : PE X (.Call (.Name "tuple" p) [.Call (.Name "range" p2) [y, z] [] p3] [] p') (yI C k X W (.tupR (.rng2 a b))) := by
  refine (pe_tupRg g.calm hg (g.stat.blt "tuple" (by decide)) (prg_2 hg2 (g.stat.blt "range" (by decide)) ha hb (star_cons hp) (star_cons hp2) (star_back (by simp [hp2]))) (star_cons rfl)).imp fun σ H Q h => ?_
  obtain ⟨m, env, S, ok, re, h⟩ := h
  simp only [ev, evSr, M.bind] at h
  refine ⟨m, env, S, ok, re, ?_⟩
  cases q : ev (callI C.T C.G k) C.G a env S with
  | bad => rw [q] at h; exact h.elim
  | exc c S' => rw [q] at h; exact h
  | ok d S' =>
    rw [q] at h
    simp only at h
    intro H1 m1 e1 o1 v r
    refine ⟨m1, env, S', o1, re.mono e1, ?_⟩
    cases q2 : ev (callI C.T C.G k) C.G b env S' with
    | bad => rw [q2] at h; exact h.elim
    | exc c S2 => rw [q2] at h; exact Af.shift e1 h
    | ok d2 S2 =>
      rw [q2] at h
      simp only at h
      intro H2 m2 e2 o2 v2 r2
      cases d with
      | int lo =>
        cases d2 with
        | int hi =>
          simp only [RD] at r r2
          simp only at h
          by_cases hn : (decide (0 ≤ lo) && decide (lo ≤ 1000000) && decide (-1000000 ≤ hi) && decide (hi ≤ 1000000)) = true
          · rw [if_pos hn] at h
            simp only [Bool.and_eq_true, decide_eq_true_eq] at hn
            refine ⟨lo, hi, r, r2, ⟨by omega, by omega, by omega, by omega, by omega⟩, fun p hp => new_tup o2 (ds := rangeD lo (hi - lo).toNat) (RDs.range lo _) ?_ (fun v' H' e' o' r' => h H' m2 ((e1.trans e2).trans e') o' v' r') hp⟩
            rw [rangeD_length]; show (hi - lo).toNat ≤ 1000000; omega
          · rw [if_neg hn] at h; exact h.elim
        | _ => exact h.elim
      | _ => exact h.elim

/-! ### methods -/
theorem few_ok {e : Expr} {es : List Expr} {env : Env} {p : Pos} (hp : (e :: es).all plainX = true) (hl : (e :: es).length < 4) : ((backTo p (starEach (e :: es) env)).all (fun x => !x.1) && (backToKw p (keywordEach [] env)).all (fun x => x.1.isSome)
      && decide ((e :: es).length + ([] : List Keyword).length + (if ([] : List Keyword).isEmpty then 0 else 1) < 30)) = true := by
  have h1 : (backTo p (starEach (e :: es) env)).all (fun x => !x.1) = true := by
    have := star_back (p := p) (env := env) hp
    rw [List.all_eq_true]
    intro x hx
    cases q : x.1 with
    | false => rfl
    | true =>
      have z : (backTo p (starEach (e :: es) env)).any (·.1) = true := List.any_eq_true.mpr ⟨x, hx, q⟩
      rw [this] at z; cases z
  rw [h1]
  simp only [List.isEmpty_nil, if_true, Bool.true_and]
  have : decide ((e :: es).length + ([] : List Keyword).length + 0 < 30) = true := decide_eq_true (by simp only [List.length_nil]; omega)
  rw [this]; rfl
theorem r_meth {mt : Mt} {o : E} {es : Es} {T : String} (hT : ∀ (H : Hp) (m : Ms) (S : Store) (d : D) (v : V), OkS X.K H m S → RD X.K H m d v → mtOk mt d S = true → tyV X.K T v H)
    {σ : L2.St} {H : Hp} {Q : VK} (h : yI C k X W (.meth mt o es) σ H Q) :
    tBM X.K T (rM X.K (doMeth mt)) (yI C k X W o) (yIs C k X W es) σ H Q := by
  obtain ⟨m, env, S, ok, re, h⟩ := h
  simp only [ev] at h
  refine tI_bind ok re h fun d S1 v H1 m1 e1 o1 re1 r1 h => ?_
  by_cases hm : mtOk mt d S1 = true
  · rw [if_pos hm] at h
    refine ⟨hT H1 m1 S1 d v o1 r1 hm, ?_⟩
    refine tIs_bind o1 re1 h fun ds S2 vs H2 m2 e2 o2 re2 r2 h => ?_
    exact ⟨m2, S2, d, ds, o2, r1.mono e2, r2, h.noexc (meth_noexc _ _ _ _)⟩
  · rw [if_neg hm] at h; exact h.elim
omit g in
theorem ty_list {mt : Mt} (hm : mt ≠ .get) {H : Hp} {m : Ms} {S : Store} {d : D} {v : V} (ok : OkS X.K H m S) (r : RD X.K H m d v) (h : mtOk mt d S = true) : tyV X.K "list" v H := by
  unfold mtOk at h
  cases d with
  | lst xs =>
    simp only [RD] at r
    obtain ⟨a, vs, rfl, e, _⟩ := r
    exact .inl ⟨rfl, vs, SqL.of e⟩
  | ref i =>
    obtain ⟨a, ha, rfl⟩ := OkS.refD r
    obtain ⟨o, ho, hO⟩ := ok.free ha
    simp only [ho] at h
    cases o with
    | lst ys => obtain ⟨vs, e, _⟩ := hO; exact .inl ⟨rfl, vs, SqL.of e⟩
    | dk kvs => simp only [beq_iff_eq] at h; exact absurd h hm
    | dt kvs => simp only [beq_iff_eq] at h; exact absurd h hm
    | _ => cases h
  | _ => cases h
theorem x_append {o e : E} {x y : Expr} {ap cp : Pos} (hl : (ap.endLine == cp.line) = true) (ho : PE X x (yI C k X W o)) (ha : PE X y (yI C k X W e)) (hp : plainX y = true) (hb : attributeBase x "append" X.env (eval x X.env) = eval x X.env) :
    PE X (.Call (.Attribute x "append" ap) [y] [] cp) (yI C k X W (.meth .append o (.cons e .nil))) :=
  (pe_bm PySem.F.plainAttrs_list PySem.F.slot_list_append PySem.F.type_list_append ms_append ho (xs_cons ha xs_nil hp) hb (few_ok g (by simp [hp]) (by simp)) hl (star_cons hp) rfl).imp fun σ H Q h =>
    r_meth g (fun _ _ _ _ _ ok r h => ty_list (by decide) ok r h) h
theorem x_index {o e : E} {x y : Expr} {ap cp : Pos} (hl : (ap.endLine == cp.line) = true) (ho : PE X x (yI C k X W o)) (ha : PE X y (yI C k X W e)) (hp : plainX y = true) (hb : attributeBase x "index" X.env (eval x X.env) = eval x X.env) :
    PE X (.Call (.Attribute x "index" ap) [y] [] cp) (yI C k X W (.meth .index o (.cons e .nil))) :=
  (pe_bm PySem.F.plainAttrs_list PySem.F.slot_list_index PySem.F.type_list_index (ms_index g.units) ho (xs_cons ha xs_nil hp) hb (few_ok g (by simp [hp]) (by simp)) hl (star_cons hp) rfl).imp fun σ H Q h =>
    r_meth g (fun _ _ _ _ _ ok r h => ty_list (by decide) ok r h) h
theorem x_pop {o : E} {x : Expr} {ap cp : Pos} (hl : (ap.endLine == cp.line) = true) (ho : PE X x (yI C k X W o)) (hb : attributeBase x "pop" X.env (eval x X.env) = eval x X.env) :
    PE X (.Call (.Attribute x "pop" ap) [] [] cp) (yI C k X W (.meth .pop o .nil)) := by
  refine (pe_bm0 PySem.F.plainAttrs_list PySem.F.slot_list_pop PySem.F.type_list_pop ms_pop ho hb hl).imp fun σ H Q h => ?_
  have q := r_meth g (T := "list") (fun _ _ _ _ _ ok r h => ty_list (by decide) ok r h) h
  obtain ⟨m, env, S, ok, re, q⟩ := q
  refine ⟨m, env, S, ok, re, ?_⟩
  revert q
  cases ev (callI C.T C.G k) C.G o env S with
  | bad => exact id
  | exc c S' => exact id
  | ok d S' =>
    intro q H1 m1 e1 o1 v r
    obtain ⟨q1, m2, env2, S2, ok2, re2, q2⟩ := q H1 m1 e1 o1 v r
    simp only [evs] at q2
    exact ⟨q1, q2 H1 m2 (Ext.refl _ _) ok2 [] (by simp only [RDs])⟩

omit g in
theorem x_newK0 {p : Pos} : PE X (.Dict [] [] p) (yI C k X W (.newK .nil)) := by
  refine pe_dnewK.imp fun σ H Q h => ?_
  obtain ⟨m, env, S, ok, re, h⟩ := h
  simp only [ev, evs] at h
  intro q hq
  refine h _ (m.add q) (Ext.alloc hq) (ok.alloc hq ⟨[], upd_same, rfl, by decide⟩) _ ?_
  simp only [RD]
  exact ⟨q, by show (m.ix ++ [q])[_]? = _; rw [← ok.len, List.getElem?_append_right (Nat.le_refl _)]; simp, rfl⟩
omit g in
theorem mu_fill {K : PySem.W.Frag} {H H2 : Hp} {m m2 : Ms} {p : Addr} {u : HO} {u0 : HO} (hp : H p = none) (e : Ext (upd H p u0) m H2 m2) (h2 : H2 p = some u0) (ht : ∀ xs, u0 ≠ .tup xs) (hf : ∀ a b, u0 ≠ .frz a b) (hl : ∀ xs, u0 ≠ .lst xs) (hm : p ∉ m.ix) (nc : NoCode p u0) :
    p ∉ m2.ix ∧ Ext0 H2 m2 (upd H2 p u) (m2.add p) ∧ Ext H m (upd H2 p u) (m2.add p) := by
  have hm2 : p ∉ m2.ix := by
    obtain ⟨n, z1, z2⟩ := e.grow
    rw [z1]
    intro z
    rcases List.mem_append.mp z with z | z
    · exact hm z
    · have := z2 p z
      rw [upd_same] at this; cases this
  refine ⟨hm2, ⟨fun a xs h o => ?_, fun a xs h => ?_, fun a x y _ h => ?_, fun i a h => ?_⟩, ?_⟩
  · have ne : a ≠ p := ne_of h h2 fun z => hl xs z.symm
    refine ⟨by rw [upd_ne ne]; exact h, ?_, o.2⟩
    show a ∉ m2.ix ++ [p]
    simp only [List.mem_append, List.mem_singleton, not_or]
    exact ⟨o.1, ne⟩
  · rw [upd_ne (ne_of h h2 fun z => ht xs z.symm)]; exact h
  · rw [upd_ne (ne_of h h2 fun z => hf x y z.symm)]; exact h
  · show (m2.ix ++ [p])[i]? = some a
    rw [List.getElem?_append_left (List.getElem?_eq_some_iff.mp h).1]; exact h
  · have e0 : Ext H m H2 m2 := (Ext.new (m := m) (o := u0) hp).trans e
    have e1 := e0.writes (o := u) (fun x e => by rw [h2] at e; cases e; exact nc) hp
    refine ⟨e1.keepN, e1.tup, e1.frz, ?_, e1.hid, e1.hidN, e1.old, e1.tab⟩
    obtain ⟨n, z1, z2⟩ := e1.grow
    refine ⟨n ++ [p], by show m2.ix ++ [p] = _; rw [z1, List.append_assoc], fun a ha => ?_⟩
    rcases List.mem_append.mp ha with ha | ha
    · exact z2 a ha
    · simp at ha; rw [ha]; exact hp
theorem x_newK2 {a b c d : E} {x y z w : Expr} {p : Pos} (ha : PE X x (yI C k X W a)) (hb : PE X y (yI C k X W b)) (hc : PE X z (yI C k X W c)) (hd : PE X w (yI C k X W d)) :
    PE X (.Dict [some x, some z] [y, w] p) (yI C k X W (.newK (.cons a (.cons b (.cons c (.cons d .nil)))))) := by
  refine (pe_disp (pps_cons ha hb (pps_cons hc hd pps_nil)) rfl rfl (by simp) (by show 2 ≤ 15; decide)).imp fun σ H Q h => ?_
  obtain ⟨m, env, S, ok, re, h⟩ := h
  intro p hp
  have e0 : Ext H m (upd H p (.dK [])) m := Ext.new hp
  have ok0 : OkS X.K (upd H p (.dK [])) m S := ok.beside hp
  simp only [ev] at h
  -- the four values, one behind the other
  have key : ∀ (r : R (List D)), evs (callI C.T C.G k) C.G (.cons a (.cons b (.cons c (.cons d .nil)))) env S = r → Af X.K m H W (PV X.K Q) (match r with
      | .ok [] S' => .ok (.ref S'.length) (S' ++ [.dk []])
      | .ok [k, v] S' => match asKY k with
        | some k => .ok (.ref S'.length) (S' ++ [.dk [(k, v)]])
        | none => .bad
      | .ok [k, v, k2, v2] S' => match asKY k, asKY k2 with
        | some k, some k2 => if k = k2 then .bad else .ok (.ref S'.length) (S' ++ [.dk [(k, v), (k2, v2)]])
        | _, _ => .bad
      | .ok _ _ => .bad
      | .exc c S' => .exc c S'
      | .bad => .bad) := fun r q => by rw [← q]; exact h
  clear h
  simp only [evs, M.bind] at key
  refine ⟨m, env, S, ok0, re.mono e0, ?_⟩
  cases q1 : ev (callI C.T C.G k) C.G a env S with
  | bad => have z := key _ rfl; simp only [q1] at z; exact z.elim
  | exc cc S' => have z := key _ rfl; simp only [q1] at z; exact Af.shift e0 z
  | ok d1 S1 =>
    simp only [q1] at key
    intro H1 m1 e1 o1 v1 r1
    refine ⟨m1, env, S1, o1, (re.mono e0).mono e1, ?_⟩
    cases q2 : ev (callI C.T C.G k) C.G b env S1 with
    | bad => have z := key _ rfl; simp only [q2] at z; exact z.elim
    | exc cc S' => have z := key _ rfl; simp only [q2] at z; exact Af.shift (e0.trans e1) z
    | ok d2 S2 =>
      simp only [q2] at key
      intro H2 m2 e2 o2 v2 r2
      refine ⟨m2, env, S2, o2, ((re.mono e0).mono e1).mono e2, ?_⟩
      cases q3 : ev (callI C.T C.G k) C.G c env S2 with
      | bad => have z := key _ rfl; simp only [q3] at z; exact z.elim
      | exc cc S' => have z := key _ rfl; simp only [q3] at z; exact Af.shift ((e0.trans e1).trans e2) z
      | ok d3 S3 =>
        simp only [q3] at key
        intro H3 m3 e3 o3 v3 r3
        refine ⟨m3, env, S3, o3, (((re.mono e0).mono e1).mono e2).mono e3, ?_⟩
        cases q4 : ev (callI C.T C.G k) C.G d env S3 with
        | bad => have z := key _ rfl; simp only [q4] at z; exact z.elim
        | exc cc S' => have z := key _ rfl; simp only [q4] at z; exact Af.shift (((e0.trans e1).trans e2).trans e3) z
        | ok d4 S4 =>
          simp only [q4] at key
          intro H4 m4 e4 o4 v4 r4
          have z := key _ rfl
          simp only [M.pure] at z
          cases k1 : asKY d1 with
          | none => rw [k1] at z; exact z.elim
          | some ky1 =>
            cases k2 : asKY d3 with
            | none => rw [k1, k2] at z; exact z.elim
            | some ky2 =>
              rw [k1, k2] at z
              simp only at z
              by_cases hkk : ky1 = ky2
              · rw [if_pos hkk] at z; exact z.elim
              · rw [if_neg hkk] at z
                have eT : Ext (upd H p (.dK [])) m H4 m4 := ((e1.trans e2).trans e3).trans e4
                have hp0 : p ∉ m.ix := ok.fresh hp
                have hp4 : H4 p = some (.dK []) := eT.keepN p _ upd_same hp0 (fun _ z => by cases z)
                obtain ⟨f1, f2, f3⟩ := mu_fill (K := X.K) (u := .dK [(keyV ky1, v2), (keyV ky2, v4)]) hp eT hp4 (fun _ z => by cases z) (fun _ _ z => by cases z) (fun _ z => by cases z) hp0 .dK
                have hv1 := keyV_of k1 r1
                have hv3 := keyV_of k2 r3
                have hne : ¬ keyV ky1 = keyV ky2 := fun zz => by
                  cases ky1 <;> cases ky2 <;> simp [keyV] at zz
                  · exact hkk (by rw [zz])
                  · exact hkk (by rw [zz])
                refine ⟨hp4, [(keyV ky1, v2), (keyV ky2, v4)], by rw [hv1, hv3]; rfl, by show 2 ≤ 15; decide, ?_⟩
                have hmg : mergeK [] [(keyV ky1, v2), (keyV ky2, v4)] = [(keyV ky1, v2), (keyV ky2, v4)] := by
                  simp [mergeK, putK, hne]
                rw [hmg]
                refine z _ (m4.add p) f3 (o4.addAt f1 f2 (fun aa haa => upd_ne fun zz => f1 (zz ▸ haa)) (fun aa haa => ?_) (f3.tab ok.tabs) ⟨_, upd_same, ⟨v2, _, rfl, ((r2.mono e3).mono e4).mono0 f2, v4, [], rfl, r4.mono0 f2, rfl⟩, by show 2 ≤ lim; decide⟩) _ ?_
                · by_cases hap : aa = p
                  · rw [hap, upd_same]; rfl
                  · rw [upd_ne hap]; exact o4.hd aa haa
                · simp only [RD]
                  exact ⟨p, by show (m4.ix ++ [p])[_]? = _; rw [← o4.len, List.getElem?_append_right (Nat.le_refl _)]; simp, rfl⟩
theorem x_ifL {i : Nat} {a b : E} {x : Str} {y z : Expr} {p p' : Pos} (h1 : X.N[i]? = some x) (h2 : Vis X.env.scope x) (h3 : nmOk x = true) (ha : PE X y (yI C k X W a)) (hb : PE X z (yI C k X W b)) : PE X (.IfExp (.Name x p) y z p') (yI C k X W (.ifL i a b)) := by
  have hv : PE X (.Name x p) (tVar i) := pe_var h1 h2 (nmOk_ok h3).1 (nmOk_ok h3).2.1
  refine (pe_ifExp (pt_truth hv (true_plain rfl X.env)) ha hb).imp fun σ H Q h => ?_
  obtain ⟨m, env, S, ok, re, h⟩ := h
  simp only [ev] at h
  split at h
  · rename_i ns e
    obtain ⟨v, e1, r⟩ := re.2 i _ e
    simp only [RD] at r
    obtain ⟨q, rfl, hO1⟩ := r
    refine ⟨_, e1, !(ns.map V.int).isEmpty, .inl ⟨_, hO1.sql, rfl⟩, ?_⟩
    cases ns with
    | nil =>
      refine iteF ⟨m, env, S, ok, re, ?_⟩
      exact h
    | cons n ns =>
      refine iteT ⟨m, env, S, ok, re, ?_⟩
      exact h
  · exact h.elim
end
end G11

/-! DtX: displays, .get, comprehensions over dicts keyed by partitions; extend -/
namespace G11
open PySem PySem.Spec PyProof.Rows L2
variable [Fns]

theorem dt_empty0 {P : Program} {w : World} {H : Hp} (h : Heap) : ObjOk P w H (h.push { cls := .type "dict", data := .dict #[] }) h.objs.size (dtO h.objs.size []) :=
  dtO_ok ⟨_, #[], 0, Heap.get?_push_size _ rfl, ⟨rfl, rfl, rfl⟩, rfl, rfl⟩
def tNew0 : TE := fun _ H Q => ∀ p, H p = none → (p == sysModules) = false → Q (.ref p) (upd H p (dtO p []))
def tNew1 (K : PySem.W.Frag) (tk tv : TE) : TE := fun σ H Q => ∀ p, H p = none → (p == sysModules) = false → tk σ (upd H p (dtO p [])) fun x H1 => tv σ H1 fun y H2 => H2 p = some (dtO p []) ∧ ∃ l b m, x = .ref b ∧ RD K H2 m (tupT l) (.ref b) ∧ ∀ u, RelV y u → Q (.ref p) (upd H2 p (dtO p [(l, b, u)]))
section
variable {X : Cx} {pos : Pos}
theorem big_ne {pins : List (Addr × Obj)} {σ : L2.St} {H : Hp} {s : Shared} (I : Inv X pins σ H s) : (s.heap.objs.size == sysModules) = false := beq_eq_false_iff_ne.mpr (Ne.symm (Nat.ne_of_lt I.big))
theorem pe_newT0 : PE X (.Dict [] [] pos) tNew0 := ⟨fun pins s σ H Q I h =>
  wpAny_Dict_empty ⟨.ref s.heap.objs.size, _, I.laid (a := s.heap.objs.size) (o := dtO s.heap.objs.size []) (t' := s.toks) (fun _ _ q => Heap.get?_push_of_some _ q) (Nat.le_refl _) (dt_empty0 s.heap), rfl, h _ (I.hok.fresh (Nat.le_refl _)) (big_ne I)⟩⟩
theorem pe_newT1 {k v : Expr} {tk tv : TE} (hu : X.A.units + 65 < cLine) (hk : PE X k tk) (hv : PE X v tv) : PE X (.Dict [some k] [v] pos) (tNew1 X.K tk tv) := by
  refine ⟨fun pins s σ H Q I q => ?_⟩
  have hn := I.hok.fresh (Nat.le_refl s.heap.objs.size)
  have I1 := I.laid (a := s.heap.objs.size) (o := dtO s.heap.objs.size []) (h' := s.heap.push { cls := .type "dict", data := .dict #[] }) (t' := s.toks) (fun _ _ q => Heap.get?_push_of_some _ q) (Nat.le_refl _) (dt_empty0 s.heap)
  have P : PPs X pos [some k] [v] [(tk, tv)] := pps_cons hk hv pps_nil
  rw [arm_eval_Dict, zip_pairTrees [some k] [v] X.env pos rfl rfl, dictDisplay_pairs (pairTrees [some k] [v] X.env pos) (by simp [pairTrees]) (by simp [pairTrees])]
  refine wpAny_bind (wpAny_standAt (wpAny_bind (wpAny_subDictH (knd := nestedKind X.prog X.w) (by show X.A.units + 8 < cLine; omega) (by simp [pairTrees]) ?_)))
  refine thn (P.run pins _ σ _ (fun ps H2 => ∃ x y, ps = [(x, y)] ∧ H2 s.heap.objs.size = some (dtO s.heap.objs.size []) ∧ ∃ l b m, x = .ref b ∧ RD X.K H2 m (tupT l) (.ref b) ∧ ∀ u, RelV y u → Q (.ref s.heap.objs.size) (upd H2 s.heap.objs.size (dtO s.heap.objs.size [(l, b, u)]))) I1 ?_) fun ws s2 h2 => ?_
  · have z := q _ hn (big_ne I)
    show tk σ _ _
    refine cast ?_ z
    congr 1
    funext x H1
    congr 1
    funext y H2
    exact propext ⟨fun h => ⟨x, y, rfl, h⟩, fun ⟨_, _, e, h⟩ => by cases e; exact h⟩
  · obtain ⟨ps, H2, I2, rel, x, y, rfl, e, l, b, m, rfl, rb, q2⟩ := h2
    cases rel with
    | cons r1 r2 =>
      cases r2
      rename_i w
      obtain ⟨w1, w2⟩ := w
      obtain ⟨ra, rv⟩ := r1
      cases (show w1 = Value.ref b from ra)
      refine ⟨[(nkL l, b, w2)], ⟨rfl, rfl, nested_key I2 rb, trivial⟩, ?_, fun h' tk dd hs => wpAny_pure ?_⟩
      · have t0 : DTx X.K H2 m s.heap.objs.size [] [] := ⟨rfl, big_ne I, List.nodup_nil, Nat.zero_le _⟩
        exact dict_at I2 (.inl e) t0
      · have e1 : storedAllH [] [(nkL l, b, w2)] = [(l, b, w2)].map nk3 := rfl
        rw [e1] at dd
        have e2 := dtO_of dd
        exact ⟨.ref s.heap.objs.size, _, d_write I2 (by rw [e]; exact True.intro) hs (let ⟨o, _, _, e3, _⟩ := e2; ⟨o, e3⟩) (dtO_ok e2), rfl, q2 w2 rv⟩
/-- d.get(k, x) -/
def tDGetX (K : PySem.W.Frag) (td ty tx : TE) : TE := fun σ H Q => td σ H fun x H1 => ∃ a, x = .ref a ∧ (IsD H1 a ∨ ∃ xs, H1 a = some (dtO a xs)) ∧ ty σ H1 fun y H2 => tx σ H2 fun z H3 => (∃ o, DGet H3 a y o ∧ Q (o.getD z) H3) ∨
  ∃ m kvs xs l b, y = .ref b ∧ H3 a = some (dtO a xs) ∧ DTx K H3 m a kvs xs ∧ RD K H3 m (tupT l) (.ref b) ∧ (lkT kvs l = none → Q z H3) ∧ ∀ d, lkT kvs l = some d → ∀ v, RD K H3 m d v → Q v H3
theorem pe_dgetX {o e f : Expr} {apos cpos : Pos} {td ty tx : TE} (hu : X.A.units + 65 < cLine) (ho : PE X o td) (he : PE X e ty) (hf : PE X f tx) (m : M2 X o "get" apos e f cpos) : PE X (.Call (.Attribute o "get" apos) [e, f] [] cpos) (tDGetX X.K td ty tx) := by
  refine ⟨fun pins s σ H Q I h => ?_⟩
  refine wpAny_Call_method m.base m.few m.line PySem.F.plainAttrs_dict PySem.F.slot_dict_get PySem.F.type_dict_get (thn (ho.run pins s σ H _ I h) fun u s1 ⟨x, H1, I1, rx, a, ex, d, q1⟩ => ?_)
  subst ex
  obtain rfl : u = Value.ref a := rx
  have tt : s1.TypeIs (.ref a) "dict" ∧ ∀ b, Value.ref a = .ref b → ∃ ob, s1.heap.get? b = some ob ∧ ob.dict = none := by
    rcases d with d | ⟨xs, d⟩
    · obtain ⟨t1, t2, _⟩ := isD_at I1 d
      exact ⟨t1, t2⟩
    · obtain ⟨⟨ob, es, ep, e1, e2, e3, e4⟩, _⟩ := I1.hok a _ d
      exact ⟨⟨ob, e1, e2.1⟩, fun b z => by cases z; exact ⟨ob, e1, e2.2.1⟩⟩
  refine ⟨tt.1, tt.2, ?_⟩
  rw [m.trees]
  refine Calls.callWith_builtin rfl (Calls.evalArgs_plain (Calls.spliced_cons (thn (he.run pins s1 σ H1 _ I1 q1) fun iv s2 ⟨y, H2, I2, ry, q2⟩ =>
    Calls.spliced_cons (thn (hf.run pins s2 σ H2 _ I2 q2) fun fv s3 ⟨z, H3, I3, rz, q3⟩ => Calls.spliced_nil ?_))))
  rcases q3 with ⟨ov, g, q3⟩ | ⟨m', kvs, xs, l, b, ey, e1, t, rb, qa, qb⟩
  · exact d_get2 (by omega) I3 g ry rz fun w' s4 I4 rw' => ⟨_, H3, I4, rw', q3⟩
  · subst ey
    cases (show iv = Value.ref b from ry)
    exact dt_getOr hu I3 (.inl e1) t rb (fun ql s4 I4 => ⟨z, H3, I4, rz, qa ql⟩) fun d ql w' s4 v I4 rw' r4 => ⟨v, H3, I4, rw', qb d ql v r4⟩
end
section
variable {C : Ctx} {k : Nat} {X : Cx} {W : Nat → Hp → Prop} (g : Good C k X W)
include g
theorem x_get {o a b : E} {x y z : Expr} {ap cp : Pos} (hl : (ap.endLine == cp.line) = true) (ho : PE X x (yI C k X W o)) (ha : PE X y (yI C k X W a)) (hb : PE X z (yI C k X W b)) (hp : plainX y = true) (hp2 : plainX z = true) (hbase : attributeBase x "get" X.env (eval x X.env) = eval x X.env) :
    PE X (.Call (.Attribute x "get" ap) [y, z] [] cp) (yI C k X W (.meth .get o (.cons a (.cons b .nil)))) := by
  have hu := g.units
  refine (pe_dgetX (by omega) ho ha hb ⟨hbase, few_ok g (by simp [hp, hp2]) (by simp), hl, by rw [star_cons hp, star_cons hp2]; rfl⟩).imp fun σ H Q h => ?_
  obtain ⟨m, env, S, ok, re, h⟩ := h
  simp only [ev] at h
  refine tI_bind ok re h fun d S1 v H1 m1 e1 o1 re1 r1 h => ?_
  by_cases hm : mtOk .get d S1 = true
  · rw [if_pos hm] at h
    cases d with
    | ref i =>
      obtain ⟨p, hpi, rfl⟩ := OkS.refD r1
      obtain ⟨ob, hob, hO⟩ := o1.free hpi
      refine ⟨p, rfl, ?_, ?_⟩
      · simp only [mtOk, hob] at hm
        cases ob with
        | dk kvs => obtain ⟨kvs', e2, _⟩ := hO; exact .inl (.inl ⟨kvs', .inl e2⟩)
        | dt kvs => obtain ⟨xs, e2, _⟩ := hO; exact .inr ⟨xs, e2⟩
        | lst _ => simp at hm
        | _ => cases hm
      · simp only [evs] at h
        refine tI_bind (P := PV X.K Q) (f := fun x => M.bind (M.bind (ev (callI C.T C.G k) C.G b env) fun y => M.bind (fun S => .ok [] S) fun xs => M.pure (y :: xs)) fun xs => doMeth .get (.ref i) (x :: xs)) o1 re1 ?_ fun d2 S2 v2 H2 m2 e2 o2 re2 r2 h => ?_
        · revert h
          simp only [M.bind]
          cases ev (callI C.T C.G k) C.G a env S1 with
          | ok dd SS =>
            simp only
            cases ev (callI C.T C.G k) C.G b env SS <;> exact id
          | exc c SS => exact id
          | bad => exact id
        refine tI_bind (P := PV X.K Q) (f := fun y => doMeth .get (.ref i) [d2, y]) o2 re2 ?_ fun d3 S3 v3 H3 m3 e3 o3 re3 r3 h => ?_
        · revert h
          simp only [M.bind]
          cases ev (callI C.T C.G k) C.G b env S2 <;> exact id
        have hpi3 : m3.ix[i]? = some p := (e2.trans e3).mem hpi
        obtain ⟨ob3, hob3, hO3⟩ := o3.free hpi3
        simp only [doMeth, hob3] at h
        cases ob3 with
        | dk kvs =>
          simp only at h
          cases q : asKY d2 with
          | none => rw [q] at h; exact h.elim
          | some ky =>
            rw [q] at h
            obtain ⟨kvs', e5, e6, _⟩ := hO3
            refine .inl ⟨valV kvs' (keyV ky), by rw [keyV_of q (r2.mono e3)]; exact DGet.k e5, ?_⟩
            have z := e6.val ky
            cases ql : kvs.lookup ky with
            | none =>
              simp only [ql] at h
              rw [z.2 ql]
              exact h H3 m3 (Ext.refl _ _) o3 _ r3
            | some dv =>
              simp only [ql] at h
              obtain ⟨w, z1, z2⟩ := z.1 dv ql
              rw [z1]
              exact h H3 m3 (Ext.refl _ _) o3 _ z2
        | dt kvs =>
          simp only at h
          cases q : asTT d2 with
          | none => rw [q] at h; exact h.elim
          | some l =>
            rw [q] at h
            obtain ⟨xs, e5, t⟩ := hO3
            obtain ⟨rb, b', e6⟩ := asTT_RD q (r2.mono e3)
            subst e6
            refine .inr ⟨m3, kvs, xs, l, b', rfl, e5, t, rb, fun ql => ?_, fun dv ql w z2 => ?_⟩
            · simp only [ql] at h
              exact h H3 m3 (Ext.refl _ _) o3 _ r3
            · simp only [ql] at h
              exact h H3 m3 (Ext.refl _ _) o3 _ z2
        | _ => exact h.elim
    | lst _ => simp [mtOk] at hm
    | _ => cases hm
  · rw [if_neg hm] at h; exact h.elim


theorem x_extend {o e : E} {x y : Expr} {ap cp : Pos} (hl : (ap.endLine == cp.line) = true) (ho : PE X x (yI C k X W o)) (ha : PE X y (yI C k X W e)) (hp : plainX y = true) (hb : attributeBase x "extend" X.env (eval x X.env) = eval x X.env) :
    PE X (.Call (.Attribute x "extend" ap) [y] [] cp) (yI C k X W (.meth .extend o (.cons e .nil))) :=
  (pe_bm PySem.F.plainAttrs_list PySem.F.slot_list_extend PySem.F.type_list_extend ms_extend ho (xs_cons ha xs_nil hp) hb (few_ok g (by simp [hp]) (by simp)) hl (star_cons hp) rfl).imp fun σ H Q h =>
    r_meth g (fun _ _ _ _ _ ok r h => ty_list (by decide) ok r h) h
omit g in
theorem x_newT0 {p : Pos} : PE X (.Dict [] [] p) (yI C k X W (.newT .nil)) := by
  refine pe_newT0.imp fun σ H Q h => ?_
  obtain ⟨m, env, S, ok, re, h⟩ := h
  simp only [ev, evs] at h
  intro q hq hs
  refine h _ (m.add q) (Ext.alloc hq) (ok.alloc hq ⟨[], upd_same, rfl, hs, List.nodup_nil, Nat.zero_le _⟩) _ ?_
  simp only [RD]
  exact ⟨q, by show (m.ix ++ [q])[_]? = _; rw [← ok.len, List.getElem?_append_right (Nat.le_refl _)]; simp, rfl⟩
theorem x_newT1 {a b : E} {x y : Expr} {p : Pos} (ha : PE X x (yI C k X W a)) (hb : PE X y (yI C k X W b)) :
    PE X (.Dict [some x] [y] p) (yI C k X W (.newT (.cons a (.cons b .nil)))) := by
  refine (pe_newT1 g.units ha hb).imp fun σ H Q h => ?_
  obtain ⟨m, env, S, ok, re, h⟩ := h
  intro p hp hs
  have e0 : Ext H m (upd H p (dtO p [])) m := Ext.new hp
  have ok0 : OkS X.K (upd H p (dtO p [])) m S := ok.beside hp
  simp only [ev] at h
  have key : ∀ (r : R (List D)), evs (callI C.T C.G k) C.G (.cons a (.cons b .nil)) env S = r → Af X.K m H W (PV X.K Q) (match r with
      | .ok [] S' => .ok (.ref S'.length) (S' ++ [.dt []])
      | .ok [k, v] S' => match asTT k with
        | some k => .ok (.ref S'.length) (S' ++ [.dt [(k, v)]])
        | none => .bad
      | .ok _ _ => .bad
      | .exc c S' => .exc c S'
      | .bad => .bad) := fun r q => by rw [← q]; exact h
  clear h
  simp only [evs, M.bind] at key
  refine ⟨m, env, S, ok0, re.mono e0, ?_⟩
  cases q1 : ev (callI C.T C.G k) C.G a env S with
  | bad => have z := key _ rfl; simp only [q1] at z; exact z.elim
  | exc cc S' => have z := key _ rfl; simp only [q1] at z; exact Af.shift e0 z
  | ok d1 S1 =>
    simp only [q1] at key
    intro H1 m1 e1 o1 v1 r1
    refine ⟨m1, env, S1, o1, (re.mono e0).mono e1, ?_⟩
    cases q2 : ev (callI C.T C.G k) C.G b env S1 with
    | bad => have z := key _ rfl; simp only [q2] at z; exact z.elim
    | exc cc S' => have z := key _ rfl; simp only [q2] at z; exact Af.shift (e0.trans e1) z
    | ok d2 S2 =>
      simp only [q2] at key
      intro H2 m2 e2 o2 v2 r2
      have z := key _ rfl
      simp only [M.pure] at z
      cases k1 : asTT d1 with
      | none => rw [k1] at z; exact z.elim
      | some l =>
        rw [k1] at z
        simp only at z
        have eT : Ext (upd H p (dtO p [])) m H2 m2 := e1.trans e2
        have hp0 : p ∉ m.ix := ok.fresh hp
        have hp2 : H2 p = some (dtO p []) := eT.keepN p _ upd_same hp0 (fun _ z => by cases z)
        obtain ⟨rb, b', rfl⟩ := asTT_RD k1 (r1.mono e2)
        refine ⟨hp2, l, b', m2, rfl, rb, fun u ru => ?_⟩
        obtain ⟨f1, f2, f3⟩ := mu_fill (K := X.K) (u := dtO p [(l, b', u)]) hp eT hp2 (fun _ z => by cases z) (fun _ _ z => by cases z) (fun _ z => by cases z) hp0 .dt
        refine z _ (m2.add p) f3 (o2.addAt f1 f2 (fun aa haa => upd_ne fun zz => f1 (zz ▸ haa)) (fun aa haa => ?_) (f3.tab ok.tabs) ⟨[(l, b', u)], upd_same, ⟨b', u, v2, [], rfl, rb.mono0 f2, ru, r2.mono0 f2, rfl⟩, hs, by simp, by show 1 ≤ lim; decide⟩) _ ?_
        · by_cases hap : aa = p
          · rw [hap, upd_same]; rfl
          · rw [upd_ne hap]; exact o2.hd aa haa
        · simp only [RD]
          exact ⟨p, by show (m2.ix ++ [p])[_]? = _; rw [← o2.len, List.getElem?_append_right (Nat.le_refl _)]; simp, rfl⟩
end
end G11

/-! DtY: a comprehension over a dict keyed by partitions, which is locked meanwhile -/
namespace G11
open PySem PySem.Spec PyProof.Rows L2
variable [Fns]

def ItD (d : Addr) (o : Obj) (xs : List (LL × Addr × Value)) : It :=
  ⟨fun i H => H d = some (.frz o (dtO d xs)) ∧ i < xs.length, fun i H v H' => H' = H ∧ ∃ x, xs[i]? = some x ∧ v = .ref x.2.1, fun i H => H d = some (.frz o (dtO d xs)) ∧ xs.length ≤ i⟩
section
variable {X : Cx} {pins : List (Addr × Obj)} {σ : L2.St} {H : Hp} {s : Shared} {d : Addr} {o : Obj} {xs : List (LL × Addr × Value)}
theorem frzD (I : Inv X pins σ H s) (h : H d = some (.frz o (dtO d xs))) : s.heap.get? d = some o ∧ o.ExactDict ∧ ∃ es ep, o.data = .dict es ep ∧ es.size = xs.length ∧ ∀ (i : Nat) (x : LL × Addr × Value), xs[i]? = some x → es[i]? = some (entD x) := by
  obtain ⟨e1, ⟨o', es, ep, e2, e3, e4, e5⟩, _⟩ := I.hok d _ h
  rw [e1] at e2
  cases e2
  refine ⟨e1, e3, es, ep, e4, ?_, fun i x hx => ?_⟩
  · rw [← Array.length_toList, e5, List.length_map]
  · rw [← Array.getElem?_toList, e5, List.getElem?_map, hx]; rfl
end
section
variable {P : Program} {w : World} {K : PySem.W.Frag} {tg : Expr} {d : Addr} {o : Obj} {es : Array DictEntry} {ep : Nat} {xs : List (LL × Addr × Value)}
theorem turn_keysD (it : Addr) (hod : o.data = .dict es ep) : Turn P w K tg (ItD d o xs) [it] it (fun i h => h.IsKeyIter it d i xs.length ep) where
  mem := by simp
  obj := fun i h st b hb => by
    have e : b = it := by simpa using hb
    subst e
    obtain ⟨oi, e, c, dd⟩ := st
    exact ⟨oi, e, fun v z => by rw [dd] at z; cases z⟩
  keep := fun i h h' st k => st.at fun oi e => k it (by simp) oi e
  item := by
    intro X hP hw hK hc i pins s σ H E I hf st hg
    subst hP hw hK
    obtain ⟨hd, hi⟩ := hg
    obtain ⟨f0, f1, f2, f3, f4, f5⟩ := hf it (by simp)
    obtain ⟨hgd, hx, es', ep', hdt, hsz, ent⟩ := frzD I hd
    obtain ⟨rfl, rfl⟩ := dict_ep hod hdt
    have hkv : xs[i]? = some xs[i] := List.getElem?_eq_getElem hi
    have hen := ent i _ hkv
    refine next_key_item st hgd hdt hsz hen fun h' st' sb => ?_
    have I1 : Inv X pins σ H { s with heap := h' } := I.turned (t' := s.toks) (fun b ob hb e => (sb.2 b hb).trans e) f0 f1 f3 f4 f5
    obtain ⟨oi, e, c, dd⟩ := id st'
    exact ⟨_, rfl, go_of (s := { s with heap := h' }) e c dd (by decide) ⟨.ref (xs[i]).2.1, H, I1, rfl, ⟨rfl, _, hkv, rfl⟩, st', fun b hb => (hf b hb).1⟩⟩
  done := by
    intro X hP hw hK hc i pins s σ H E I hf st hg
    subst hP hw hK
    obtain ⟨hd, hi⟩ := hg
    obtain ⟨f0, f1, f2, f3, f4, f5⟩ := hf it (by simp)
    obtain ⟨hgd, hx, es', ep', hdt, hsz, ent⟩ := frzD I hd
    obtain ⟨rfl, rfl⟩ := dict_ep hod hdt
    exact next_key_end (I.ok.hd hc) st hgd hdt hsz hi fun h' eb => ⟨rfl, I.turned (t' := s.toks) (fun b ob hb e => eb b ob hb e) f0 f1 f3 f4 f5⟩
  self := fun A i s Q E st h => by
    refine wpAny_pyIter_slot st.typeIs F.slot_dict_keyiterator_iter (wpAny_call_entry F.slot_dict_keyiterator_iter st.typeIs F.entry_dict_keyiterator_iter ?_ (F.args_dict_keyiterator_iter_1 _))
    show wpAny _ _ (ret (.ref it)) _ _ s
    exact wpAny_pure ⟨_, rfl, "dict_keyiterator", _, st.typeIs, F.slot_dict_keyiterator_next.lookup, h⟩
end
/-- the dict is locked when it is walked -/
def iKeysD (X : Cx) (td : TE) : TI := fun σ H R => td σ H fun x H1 => ∃ d xs, x = .ref d ∧ H1 d = some (dtO d xs) ∧ (d == sysModules) = false ∧ ∀ o, (∀ o' u', X.H_0 d ≠ some (.frz o' u')) → R (ItD d o xs) (upd H1 d (.frz o (dtO d xs)))
theorem pi_keysD {X : Cx} {tg e : Expr} {td : TE} (he : PE X e td) : PI X tg e (iKeysD X td) := by
  refine ⟨fun pins s σ H R I h => ?_⟩
  refine thn (he.run pins s σ H _ I h) fun u s1 ⟨x, H1, I1, rx, d, xs, ex, hd, hs, q⟩ => ?_
  subst ex
  obtain rfl : u = Value.ref d := rx
  have nf := I1.nofrz hd (show Mut (some (dtO d xs)) from True.intro)
  obtain ⟨od, I2⟩ := I1.lock hd (show Mut (some (dtO d xs)) from True.intro)
  obtain ⟨hgd, hx, es, ep, hdt, hsz, ent⟩ := frzD I2 upd_same
  refine iter_keys hs hgd hx hdt (pi_one (tk := s1.toks) I2 _ (turn_keysD _ hdt) ⟨_, Heap.get?_push_size _ rfl, rfl, ?_⟩ (q od nf))
  rw [hsz] <;> rfl
/-- behind: unlocked -/
def qUn (X : Cx) (Q : VK) : VK := fun v H' => ∃ d od u, H' d = some (.frz od u) ∧ (∀ o' u', X.H_0 d ≠ some (.frz o' u')) ∧ Q v (upd H' d u)
theorem pe_un {X : Cx} {e : Expr} {t : TE} (h : PE X e t) : PE X e (fun σ H Q => t σ H (qUn X Q)) := by
  refine ⟨fun pins s σ H Q I hw => ?_⟩
  refine thn (h.run pins s σ _ _ I hw) fun v s1 ⟨x, H1, I2, r, d, od, u, e2, nf, q⟩ => ?_
  exact ⟨x, _, I2.unlock e2 nf, r, q⟩
theorem ps_un {X : Cx} {st : Stmt} {t : TS} (h : PS X st t) : PS X st (fun D σ H => t ⟨fun σ' H' => ∃ d od u, H' d = some (.frz od u) ∧ (∀ o' u', X.H_0 d ≠ some (.frz o' u')) ∧ D.nx σ' (upd H' d u), D.rt, D.bk, D.ct⟩ σ H) := by
  refine ⟨fun pins s σ H D I hw => ?_⟩
  refine thn (h.run pins s σ _ _ I hw) fun f s1 q => ?_
  cases f with
  | next => obtain ⟨σ', H', I2, d, od, u, e, nf, q⟩ := q; exact ⟨σ', _, I2.unlock e nf, q⟩
  | brk => exact q
  | cont => exact q
  | ret v => exact q
theorem ext_unlock {H H1 Hc : Hp} {m m1 mc : Ms} {a : Addr} {u w : HO} (e1 : Ext H m H1 m1) (ha : a ∈ m1.ix) (h1 : H1 a = some u) (ht : ∀ xs, u ≠ .tup xs) (hf : ∀ o v, u ≠ .frz o v) (nc : NoCode a u) (e2 : Ext (upd H1 a w) m1 Hc mc) (nc2 : ∀ x, Hc a = some x → NoCode a x) : Ext H m (upd Hc a u) mc := by
  have e3 : Ext H m Hc mc := (e1.trans (ext_mut ha h1 ht hf nc)).trans e2
  refine ⟨fun b o h hm ho => ?_, fun b xs h => ?_, fun b o v h => ?_, e3.grow, e3.hid, e3.hidN, fun b h => ?_, fun t p hp => tab_upd nc2 (e3.tab t p hp)⟩
  · have ne : b ≠ a := fun z => by
      subst z
      obtain ⟨n, z1, z2⟩ := e1.grow
      rw [z1] at ha
      rcases List.mem_append.mp ha with z | z
      · exact hm z
      · rw [z2 b z] at h; cases h
    rw [upd_ne ne]; exact e3.keepN b o h hm ho
  · have ne : b ≠ a := fun z => by
      subst z
      have := e1.tup b xs h
      rw [h1] at this; cases this
      exact ht xs rfl
    rw [upd_ne ne]; exact e3.tup b xs h
  · have ne : b ≠ a := fun z => by
      subst z
      have := e1.frz b o v h
      rw [h1] at this; cases this
      exact hf o v rfl
    rw [upd_ne ne]; exact e3.frz b o v h
  · by_cases hba : b = a
    · rw [hba, upd_same]; rfl
    · rw [upd_ne hba]; exact e3.old b h
theorem ext0_unlock {Hc : Hp} {mc : Ms} {a : Addr} {o : Obj} {xs : List (LL × Addr × Value)} {u : HO} (h : Hc a = some (.frz o (dtO a xs))) : Ext0 Hc mc (upd Hc a u) mc := by
  refine ⟨fun b ys e hm => ⟨?_, hm⟩, fun b ys e => ?_, fun b o' v hn e => ?_, fun _ _ z => z⟩
  · rw [upd_ne (ne_of e h (fun z => by cases z))]; exact e
  · rw [upd_ne (ne_of e h (fun z => by cases z))]; exact e
  · have ne : b ≠ a := fun z => by
      subst z
      rw [h] at e; cases e
      exact hn _ rfl
    rw [upd_ne ne]; exact e
section
variable {C : Ctx} {k : Nat} {X : Cx} {W : Nat → Hp → Prop}
theorem DTe.at {K : PySem.W.Frag} {H : Hp} {m : Ms} : ∀ {kvs : List (LL × D)} {xs : List (LL × Addr × Value)} {i : Nat} {x : LL × Addr × Value}, DTe K H m kvs xs → xs[i]? = some x → (kvs.map fun p => tupT p.1)[i]? = some (tupT x.1) ∧ RD K H m (tupT x.1) (.ref x.2.1)
  | [], _, i, x, h, e => by
    have h : _ = [] := h
    subst h; simp at e
  | (l, d) :: r, _, 0, x, h, e => by
    obtain ⟨b, u, v, xs', rfl, e2, _⟩ := h
    simp at e
    subst e
    exact ⟨rfl, e2⟩
  | (l, d) :: r, _, i + 1, x, h, e => by
    obtain ⟨b, u, v, xs', rfl, _, _, _, e5⟩ := h
    have := DTe.at e5 (by simpa using e)
    exact ⟨by simpa using this.1, this.2⟩
theorem r_lcD {own : List Nat} {tg : Tg} {e : E} {cs : Es} {elt : E} (hs : ∀ i ∈ tgIs tg, i ∈ own) {σ : L2.St} {H : Hp} {Q : VK} (h : yI C k X W (.lcD own tg e cs elt) σ H Q) :
    tLc (iKeysD X (yI C k X W e)) (gTg X.K tg) (tC2 X.K (callI C.T C.G k) C.G (fun _ _ => False) cs) (tI X.K (callI C.T C.G k) C.G (fun _ _ => False) elt) own σ H (qUn X Q) := by
  obtain ⟨m, env, S, ok, re, h⟩ := h
  simp only [ev] at h
  refine tI_bind ok re h fun d S1 v H1 m1 e1 o1 re1 r1 h2 => ?_
  have h0 := h
  clear h0
  cases d with
  | ref i =>
    simp only at h2
    obtain ⟨a, ha, rfl⟩ := OkS.refD r1
    obtain ⟨ob, hob, hO⟩ := o1.free ha
    simp only [hob] at h2
    cases ob with
    | dt kvs =>
      simp only at h2
      obtain ⟨xs, e2, t⟩ := hO
      refine ⟨a, xs, rfl, e2, t.sys, fun o nf Dl hD => ?_⟩
      have nt : ∀ ys, dtO a xs ≠ .tup ys := fun ys z => by cases z
      have nz : ∀ u v, dtO a xs ≠ .frz u v := fun _ _ z => by cases z
      have el : Ext H1 m1 (upd H1 a (.frz o (dtO a xs))) m1 := ext_mut (List.mem_of_getElem? ha) e2 nt nz .dt
      have ol : OkS X.K (upd H1 a (.frz o (dtO a xs))) m1 (S1.set i (.fz kvs)) := o1.mut ha e2 nt nz ⟨xs, o, upd_same, t.mono0 el.to0⟩
      have tl := t.mono0 el.to0
      generalize hf : (fun x => match bindTg (wipeD env own) tg x with
        | none => M.bad
        | some env' => M.bind (evC (callI C.T C.G k) C.G cs env') fun b => if b then M.bind (ev (callI C.T C.G k) C.G elt env') fun y => M.pure (some y) else M.pure none) = f at h2
      have src : SrcOk X.K (ItD a o xs) (kvs.map fun p => tupT p.1) m1 (upd H1 a (.frz o (dtO a xs))) := by
        refine ⟨fun j H' m' S' ee oo hj => ?_, fun H' m' ee => ?_⟩
        · rw [List.length_map, ← t.ent.length] at hj
          refine ⟨⟨ee.frz _ _ _ upd_same, hj⟩, fun x H'' y => ?_⟩
          obtain ⟨rfl, x', hx', rfl⟩ := y
          obtain ⟨z1, z2⟩ := tl.ent.at hx'
          exact ⟨_, z1, Ext.refl _ _, oo, z2.mono ee⟩
        · refine ⟨ee.frz _ _ _ upd_same, ?_⟩
          rw [List.length_map, t.ent.length]; exact Nat.le_refl _
      cases q2 : lcM f (kvs.map fun p => tupT p.1) (S1.set i (.fz kvs)) with
      | bad => rw [q2] at h2; exact h2.elim
      | exc c S' => rw [q2] at h2; exact h2.elim
      | ok ys Sf =>
        rw [q2] at h2
        simp only [noExc] at h2
        refine lc_run hs hf ol (re1.mono el) src (by rw [List.length_map]; exact t.len) q2 (fun H' m' e' o' v r => ?_) Dl hD
        have hfz : H' a = some (.frz o (dtO a xs)) := e'.frz _ _ _ upd_same
        refine ⟨a, o, dtO a xs, hfz, nf, ?_⟩
        have x0 := ext0_unlock (mc := m') (u := dtO a xs) hfz
        have ha' : m'.ix[i]? = some a := e'.mem ha
        have eu := ext_unlock (Ext.refl _ _) (List.mem_of_getElem? ha) e2 nt nz .dt e' (fun x e => by rw [hfz] at e; cases e; exact .frz)
        refine h2 _ m' eu ?_ v (r.mono0 x0)
        refine ⟨by rw [List.length_set]; exact o'.len, o'.nd, fun b hb => ?_, fun j b x q1 q3 => ?_, eu.tab o1.tabs⟩
        · by_cases hba : b = a
          · rw [hba, upd_same]; rfl
          · rw [upd_ne hba]; exact o'.hd b hb
        · by_cases hj : i = j
          · subst hj
            rw [ha'] at q1; cases q1
            have hl : i < Sf.length := by
              have := (List.getElem?_eq_some_iff.mp q3).1
              rw [List.length_set] at this; exact this
            rw [List.getElem?_set_self hl] at q3; cases q3
            exact ⟨xs, upd_same, (tl.mono0 e'.to0).mono0 x0⟩
          · rw [List.getElem?_set_ne hj] at q3
            have hb : b ≠ a := by
              intro z
              subst z
              have h1 := (List.getElem?_eq_some_iff.mp ha').1
              exact hj ((List.getElem?_inj h1 o'.nd).mp (ha'.trans q1.symm))
            exact (o'.obj j b x q1 q3).mono x0 (upd_ne hb)
    | _ => exact h2.elim
  | _ => exact h2.elim
theorem x_lcD (g : Good C k X W) {own : List Nat} {tg : Tg} {e : E} {cs : Es} {elt : E} {x t it : Expr} {ifs : List Expr} {scope : Scope} {p : Pos} (hb : blkC X.N X.env.scope scope (ownOf X.N own) = true) (hs : ∀ i ∈ tgIs tg, i ∈ own)
    (hi : PE X it (yI C k X W e)) (hx : ∀ x, foldedSetIterable it X.env x = pure x)
    (hg : ∀ (s : Shared) (H : Hp) (c : Addr) (cl : List (Str × Addr)) (fp : List Addr), PG (X.blk s H scope (compEnvC scope cl c X.env) fp) t (gTg X.K tg))
    (ht : ∀ (s : Shared) (H : Hp) (c : Addr) (cl : List (Str × Addr)) (fp : List Addr), PTs (X.blk s H scope (compEnvC scope cl c X.env) fp) ifs (tC2 X.K (callI C.T C.G k) C.G (fun _ _ => False) cs))
    (he : ∀ (s : Shared) (H : Hp) (c : Addr) (cl : List (Str × Addr)) (fp : List Addr), PE (X.blk s H scope (compEnvC scope cl c X.env) fp) x (tI X.K (callI C.T C.G k) C.G (fun _ _ => False) elt)) :
    PE X (.ListComp x [⟨t, it, ifs, 0⟩] scope p) (yI C k X W (.lcD own tg e cs elt)) := by
  have P := pe_lc (pos := p) g.calm g.nd (pi_keysD (tg := t) hi) (blkOk_by hb) hg ht he hx
  rw [ownOf_snd] at P
  exact (pe_un P).imp fun σ H Q h => r_lcD hs h
end
end G11

/-! DtZ: list(d.values()) -/
namespace G11
open PySem PySem.Spec PyProof.Rows L2
variable [Fns]

def valsO (p d : Addr) : HO := .ext fun h => h.IsValuesView p d
theorem valsO_ok {P : Program} {w : World} {H : Hp} {h : Heap} {p d : Addr} (e : h.get? p = some { cls := .type "dict_values", data := .fields #[.ref d] }) : ObjOk P w H h p (valsO p d) :=
  ⟨⟨_, e, rfl, rfl⟩, ⟨_, e⟩, fun h1 h2 ⟨o, e1, e2⟩ k => ⟨o, k o e1, e2⟩⟩
section
variable {X : Cx} {pins : List (Addr × Obj)} {σ : L2.St} {H : Hp} {s : Shared} {d : Addr} {xs : List (LL × Addr × Value)}
theorem rawD (I : Inv X pins σ H s) (h : H d = some (dtO d xs)) : ∃ es ep, s.heap.DictRaw d es ep ∧ es.toList = xs.map entD := by
  obtain ⟨⟨o', es, ep, e2, e3, e4, e5⟩, _⟩ := I.hok d _ h
  exact ⟨es, ep, ⟨o', e2, e3, e4⟩, e5⟩
end
def tVals (td : TE) : TE := fun σ H Q => td σ H fun x H1 => ∃ d xs, x = .ref d ∧ H1 d = some (dtO d xs) ∧ (d == sysModules) = false ∧ ∀ p, H1 p = none → Q (.ref p) (upd H1 p (valsO p d))
theorem pe_valuesD {X : Cx} {e : Expr} {td : TE} {apos cpos : Pos} (he : PE X e td) (hbase : attributeBase e "values" X.env (eval e X.env) = eval e X.env) (hline : (apos.endLine == cpos.line) = true) : PE X (.Call (.Attribute e "values" apos) [] [] cpos) (tVals td) := by
  refine ⟨fun pins s σ H Q I h => ?_⟩
  refine wpAny_Call_method (T := "dict") (id := "dict.values") hbase rfl hline F.plainAttrs_dict F.slot_dict_values F.type_dict_values (thn (he.run pins s σ H _ I h) fun u s1 ⟨x, H1, I1, rx, d, xs, ex, hd, hs, q⟩ => ?_)
  subst ex
  obtain rfl : u = Value.ref d := rx
  obtain ⟨es, ep, hm, _⟩ := rawD I1 hd
  refine ⟨hm.typeIs, fun b z => by cases z; obtain ⟨ob, e1, e2, _⟩ := hm; exact ⟨ob, e1, e2.2.1⟩, ?_⟩
  show wpAny _ _ (callWith cpos (.builtin "dict.values") [.ref d] [] []) _ X.xe s1
  refine method_meetsIn F.slot_dict_values F.entry_dict_values rfl (PySem.evalArgs_none ⟨rfl, hm.typeIs, F.args_dict_values_1 _, _, meets_dict_values_raw d hs, ⟨es, ep, hm⟩, ?_⟩)
  exact ⟨.ref s1.heap.objs.size, _, I1.laid (a := s1.heap.objs.size) (o := valsO s1.heap.objs.size d) (t' := s1.toks) (fun _ _ q => Heap.get?_push_of_some _ q) (Nat.le_refl _) (valsO_ok (Heap.get?_push_size _ rfl)), rfl, q _ (I1.hok.fresh (Nat.le_refl _))⟩
def rVals : List V → Hp → VK → Prop := fun vs H Q => ∃ p d xs ys, vs = [.ref p] ∧ H p = some (valsO p d) ∧ H d = some (dtO d xs) ∧ xs.length ≤ lim ∧ Vals ys (xs.map (·.2.2)) ∧ ∀ q, H q = none → Q (.ref q) (upd H q (.lst ys))
theorem items_eq {P : Nat → Value → Prop} {acc : Array Value} {n : Nat} {l : List Value} (h : ItemsOf P acc n) (hl : l.length = n) (hp : ∀ j v, P j v → l[j]? = some v) : acc.toList = l := by
  apply List.ext_getElem?
  intro j
  obtain ⟨h1, h2⟩ := h
  by_cases hj : j < acc.size
  · have e : acc[j]? = some acc[j] := Array.getElem?_eq_getElem hj
    rw [Array.getElem?_toList, e, hp j _ (h2 j _ e)]
  · rw [Array.getElem?_toList, Array.getElem?_eq_none (by omega), List.getElem?_eq_none (by omega)]
theorem cr_vals {X : Cx} (hc : X.calm = true) : CallR X (.type "list") rVals := by
  intro pins s σ H vs us Q I r h
  obtain ⟨p, d, xs, ys, rfl, hp, hd, hl, hv, q⟩ := h
  rw [Vals.ref1 r]
  obtain ⟨es, ep, hm, he⟩ := rawD I hd
  obtain ⟨hvw, _⟩ := I.hok p _ hp
  have hsz : es.size = xs.length := by rw [← Array.length_toList, he, List.length_map]
  refine PySem.W.kdl_call (KdlSrc.rawValues (r := p) (d := d) (es := es) (ep := ep)) (I.ok.hd hc) ⟨hvw, hm⟩ (by rw [hsz]; exact Nat.le_trans hl lim_le) fun h' tk acc' c' keep hq items => ?_
  have ea : acc'.toList = xs.map (·.2.2) := by
    refine items_eq items (by rw [List.length_map, hsz]) fun j v hv => ?_
    obtain ⟨hj, rfl⟩ := hv
    have e1 : es[j]? = some es[j] := Array.getElem?_eq_getElem hj
    rw [← Array.getElem?_toList, he, List.getElem?_map] at e1
    obtain ⟨x, hx, ex⟩ := Option.map_eq_some_iff.mp e1
    rw [List.getElem?_map, hx, ← ex]; rfl
  have hyl := hv.length
  rw [List.length_map] at hyl
  refine ⟨.ref s.heap.objs.size, _, I.laid (a := s.heap.objs.size) (o := .lst ys) (t' := tk) keep (Nat.le_refl _) ⟨by rw [hyl]; exact Nat.le_trans hl lim_le, acc'.toList, c', by rw [ea]; exact hv, by simpa using hq⟩, rfl, q _ (I.hok.fresh (Nat.le_refl _))⟩
section
variable {C : Ctx} {k : Nat} {X : Cx} {W : Nat → Hp → Prop} (g : Good C k X W)
omit g in
theorem DTe.vals {K : PySem.W.Frag} {H : Hp} {m : Ms} : ∀ {kvs : List (LL × D)} {xs : List (LL × Addr × Value)}, DTe K H m kvs xs → ∃ ys, Vals ys (xs.map (·.2.2)) ∧ RDs K H m (kvs.map (·.2)) ys
  | [], _, h => by
    have h : _ = [] := h
    subst h
    exact ⟨[], .nil, by simp [RDs]⟩
  | (l, d) :: r, _, h => by
    obtain ⟨b, u, v, xs', rfl, _, e3, e4, e5⟩ := h
    obtain ⟨ys, y1, y2⟩ := DTe.vals e5
    refine ⟨v :: ys, .cons e3 y1, ?_⟩
    simp only [List.map_cons, RDs]
    exact ⟨v, ys, rfl, e4, y2⟩
include g in
theorem x_vals {e : E} {x : Expr} {ap cp p p' : Pos} (hg : Gl X "list") (hl : (ap.endLine == cp.line) = true) (hx : PE X x (yI C k X W e)) (hb : attributeBase x "values" X.env (eval x X.env) = eval x X.env) :
    PE X (.Call (.Name "list" p) [.Call (.Attribute x "values" ap) [] [] cp] [] p') (yI C k X W (.vals e)) := by
  have hv := pe_valuesD (X := X) hx hb hl
  have hA : PA X [.Call (.Attribute x "values" ap) [] [] cp] _ := pa_cons hv pa_nil (star_cons rfl)
  refine (pe_callTy (p := p) (pos := p') (cr_vals g.calm) hg (g.stat.blt "list" (by decide)) (by decide +kernel) hA (by decide) (by decide) (star_cons rfl) rfl).imp fun σ H Q h => ?_
  obtain ⟨m, env, S, ok, re, h⟩ := h
  simp only [ev] at h
  refine tI_bind ok re h fun d S1 v H1 m1 e1 o1 re1 r1 h => ?_
  simp only [doVals] at h
  cases d with
  | ref i =>
    obtain ⟨a, ha, rfl⟩ := OkS.refD r1
    obtain ⟨ob, hob, hO⟩ := o1.free ha
    simp only [hob] at h
    cases ob with
    | dt kvs =>
      simp only at h
      obtain ⟨xs, e2, t⟩ := hO
      refine ⟨a, xs, rfl, e2, t.sys, fun q hq => ?_⟩
      have e3 : Ext H1 m1 (upd H1 q (valsO q a)) m1 := Ext.new hq
      have o3 : OkS X.K (upd H1 q (valsO q a)) m1 S1 := o1.beside hq
      obtain ⟨ys, y1, y2⟩ := (t.ent.mono0 e3.to0).vals
      have ne : a ≠ q := ne_of_none e2 hq
      refine ⟨q, a, xs, ys, rfl, upd_same, by rw [upd_ne ne]; exact e2, by rw [t.ent.length]; exact t.len, y1, fun q2 hq2 => ?_⟩
      exact new_lst o3 y2 (by rw [List.length_map]; exact t.len) (fun v' H' e' o' r' => h H' m1 (e3.trans e') o' v' r') hq2
    | _ => exact h.elim
  | _ => exact h.elim
end
end G11

/-! Ord: the order of keys, sorting by insertion -/
namespace G11
/-! ### insertion is the sort -/
theorem lexL_irr : ∀ l, lexL l l = false
  | [] => rfl
  | x :: l => by simp [lexL, lexL_irr l]
theorem lexL_asym : ∀ a b, lexL a b = true → lexL b a = false
  | [], [], h => by cases h
  | [], _ :: _, _ => rfl
  | _ :: _, [], h => by cases h
  | x :: xs, y :: ys, h => by
    simp only [lexL] at h ⊢
    by_cases e : x = y
    · subst e; simp only [if_true] at h ⊢; exact lexL_asym _ _ h
    · rw [if_neg e] at h; rw [if_neg (Ne.symm e)]
      simp only [decide_eq_true_eq, decide_eq_false_iff_not] at h ⊢; omega
theorem lexL_tot : ∀ a b, lexL a b = false → lexL b a = false → a = b
  | [], [], _, _ => rfl
  | [], _ :: _, h, _ => by cases h
  | _ :: _, [], _, h => by cases h
  | x :: xs, y :: ys, h, h' => by
    simp only [lexL] at h h'
    by_cases e : x = y
    · subst e; simp only [if_true] at h h'; rw [lexL_tot _ _ h h']
    · rw [if_neg e] at h; rw [if_neg (Ne.symm e)] at h'
      simp only [decide_eq_false_iff_not] at h h'; omega
theorem lexL_tr : ∀ a b c, lexL a b = true → lexL b c = true → lexL a c = true
  | [], [], _, h, _ => by cases h
  | [], _ :: _, [], _, h => by cases h
  | [], _ :: _, _ :: _, _, _ => rfl
  | _ :: _, [], _, h, _ => by cases h
  | _ :: _, _ :: _, [], _, h => by cases h
  | x :: xs, y :: ys, z :: zs, h, h' => by
    simp only [lexL] at h h' ⊢
    by_cases e : x = y
    · subst e
      simp only [if_true] at h
      by_cases e2 : x = z
      · subst e2; simp only [if_true] at h' ⊢; exact lexL_tr _ _ _ h h'
      · rw [if_neg e2] at h' ⊢; exact h'
    · rw [if_neg e] at h
      by_cases e2 : y = z
      · subst e2; rw [if_neg e]; exact h
      · rw [if_neg e2] at h'
        simp only [decide_eq_true_eq] at h h'
        rw [if_neg (by omega)]; simp only [decide_eq_true_eq]; omega
theorem lexLL_asym : ∀ a b, lexLL a b = true → lexLL b a = false
  | [], [], h => by cases h
  | [], _ :: _, _ => rfl
  | _ :: _, [], h => by cases h
  | x :: xs, y :: ys, h => by
    simp only [lexLL] at h ⊢
    by_cases e : x = y
    · subst e; simp only [if_true] at h ⊢; exact lexLL_asym _ _ h
    · rw [if_neg e] at h; rw [if_neg (Ne.symm e)]; exact lexL_asym _ _ h
theorem lexLL_tot : ∀ a b, lexLL a b = false → lexLL b a = false → a = b
  | [], [], _, _ => rfl
  | [], _ :: _, h, _ => by cases h
  | _ :: _, [], _, h => by cases h
  | x :: xs, y :: ys, h, h' => by
    simp only [lexLL] at h h'
    by_cases e : x = y
    · subst e; simp only [if_true] at h h'; rw [lexLL_tot _ _ h h']
    · rw [if_neg e] at h; rw [if_neg (Ne.symm e)] at h'
      exact absurd (lexL_tot _ _ h h') e
theorem lexLL_tr : ∀ a b c, lexLL a b = true → lexLL b c = true → lexLL a c = true
  | [], [], _, h, _ => by cases h
  | [], _ :: _, [], _, h => by cases h
  | [], _ :: _, _ :: _, _, _ => rfl
  | _ :: _, [], _, h, _ => by cases h
  | _ :: _, _ :: _, [], _, h => by cases h
  | x :: xs, y :: ys, z :: zs, h, h' => by
    simp only [lexLL] at h h' ⊢
    by_cases e : x = y
    · subst e
      simp only [if_true] at h
      by_cases e2 : x = z
      · subst e2; simp only [if_true] at h' ⊢; exact lexLL_tr _ _ _ h h'
      · rw [if_neg e2] at h' ⊢; exact h'
    · rw [if_neg e] at h
      by_cases e2 : y = z
      · subst e2; rw [if_neg e]; exact h
      · rw [if_neg e2] at h'
        have q := lexL_tr _ _ _ h h'
        rw [if_neg (fun z => by subst z; rw [lexL_irr] at q; cases q)]; exact q
/-- not above -/
abbrev LeL (a b : LL) : Prop := lexLL b a = false
theorem leL_tr {a b c : LL} (h : LeL a b) (h' : LeL b c) : LeL a c := by
  cases q : lexLL c a with
  | false => exact q
  | true =>
    exfalso
    cases q2 : lexLL a b with
    | true => have z := lexLL_tr _ _ _ q q2; have : lexLL c b = false := h'; rw [z] at this; cases this
    | false => have e := lexLL_tot _ _ q2 h; subst e; have : lexLL c a = false := h'; rw [q] at this; cases this
theorem ins_perm (x : LL) : ∀ l, (insLL x l).Perm (x :: l)
  | [] => List.Perm.refl _
  | y :: ys => by
    unfold insLL
    split
    · exact List.Perm.refl _
    · exact ((ins_perm x ys).cons y).trans (List.Perm.swap x y ys)
theorem sortLL_perm : ∀ l, (sortLL l).Perm l
  | [] => List.Perm.refl _
  | x :: l => (ins_perm x _).trans ((sortLL_perm l).cons x)
theorem ins_srt (x : LL) : ∀ l, l.Pairwise LeL → (insLL x l).Pairwise LeL
  | [], _ => List.pairwise_singleton _ _
  | y :: ys, h => by
    obtain ⟨h1, h2⟩ := List.pairwise_cons.mp h
    unfold insLL
    split
    · rename_i q
      have hxy : LeL x y := lexLL_asym _ _ q
      exact List.pairwise_cons.mpr ⟨fun z hz => (List.mem_cons.mp hz).elim (fun e => e ▸ hxy) fun hz => leL_tr hxy (h1 z hz), h⟩
    · rename_i q
      have hyx : LeL y x := by simpa using q
      exact List.pairwise_cons.mpr ⟨fun z hz => (List.mem_cons.mp ((ins_perm x ys).mem_iff.mp hz)).elim (fun e => e ▸ hyx) (h1 z), ins_srt x ys h2⟩
theorem sortLL_srt : ∀ l, (sortLL l).Pairwise LeL
  | [] => List.Pairwise.nil
  | x :: l => ins_srt x _ (sortLL_srt l)
theorem srt_uniq : ∀ (l m : List LL), l.Perm m → l.Pairwise LeL → m.Pairwise LeL → l = m
  | [], m, h, _, _ => (List.Perm.eq_nil h.symm).symm
  | x :: l, [], h, _, _ => absurd h.length_eq (by simp)
  | x :: l, y :: m, h, h1, h2 => by
    obtain ⟨a1, a2⟩ := List.pairwise_cons.mp h1
    obtain ⟨b1, b2⟩ := List.pairwise_cons.mp h2
    have hxy : x = y := by
      have m1 : x ∈ y :: m := h.mem_iff.mp List.mem_cons_self
      have m2 : y ∈ x :: l := h.mem_iff.mpr List.mem_cons_self
      rcases List.mem_cons.mp m1 with e | e
      · exact e
      · rcases List.mem_cons.mp m2 with e2 | e2
        · exact e2.symm
        · exact lexLL_tot _ _ (b1 x e) (a1 y e2)
    subst hxy
    rw [srt_uniq l m (List.Perm.cons_inv h) a2 b2]
end G11

/-! Srt: sorted(xs), sorted(set(xs)) -/
namespace G11
open PySem PySem.Spec PyProof.Rows L2
open PySem.W (EachIs dataKind AllAlike Sortable sortVals keyToks keyToksAll dataLt alike alikeAll SortsAt sortLe)
variable [Fns]

/-! ### the order of keys -/
theorem toPys_map (ds : List D) : toPys ds = ds.map toPy := by
  induction ds with
  | nil => simp [toPys]
  | cons d ds ih => simp only [toPys, List.map_cons, ih]
theorem lt_ints : ∀ a b : List Int, PyProof.Rows.lexLt itemOrd (keyToksAll ((a.map D.int).map toPy)) (keyToksAll ((b.map D.int).map toPy)) = lexL a b
  | [], [] => by simp [keyToksAll, lexL, lex_irrefl]
  | [], y :: ys => by
    simp only [List.map_cons, List.map_nil, PySem.W.toks_all_cons, keyToksAll, lexL]
    rw [lex_diff (O := itemOrd) (by simp)]
    simp [itemLt]
  | x :: xs, [] => by
    simp only [List.map_cons, List.map_nil, PySem.W.toks_all_cons, keyToksAll, lexL]
    rw [lex_diff (O := itemOrd) (by simp)]
    simp [itemLt]
  | x :: xs, y :: ys => by
    simp only [List.map_cons]
    by_cases e : x = y
    · subst e
      rw [PySem.W.dataLt_all_yes (by simp [toPy, alike]) (by simp [toPy, PyData.eqv]), lt_ints xs ys]
      simp [lexL]
    · rw [PySem.W.dataLt_all_no (by simp [toPy, alike]) (by simp [toPy, PyData.eqv, e])]
      simp only [lexL, if_neg e, dataLt, toPy, keyToks]
      rw [lex_diff (O := itemOrd) (by simpa using e)]
      simp [itemLt]
theorem alike_ints : ∀ a b : List Int, alikeAll ((a.map D.int).map toPy) ((b.map D.int).map toPy) = true
  | [], _ => by simp [alikeAll]
  | _ :: _, [] => by simp [alikeAll]
  | x :: xs, y :: ys => by simp only [List.map_cons, toPy, alikeAll, alike, Bool.true_and]; exact alike_ints xs ys
theorem eqv_ints : ∀ a b : List Int, PyData.eqvAll ((a.map D.int).map toPy) ((b.map D.int).map toPy) = decide (a = b)
  | [], [] => by simp [PyData.eqvAll]
  | [], _ :: _ => by simp [PyData.eqvAll]
  | _ :: _, [] => by simp [PyData.eqvAll]
  | x :: xs, y :: ys => by
    simp only [List.map_cons, toPy, PyData.eqvAll, PyData.eqv, eqv_ints xs ys, List.cons.injEq, Bool.decide_and]
    rfl
theorem toPy_tupI (a : List Int) : toPy (tupI a) = .tuple ((a.map D.int).map toPy) := by simp only [tupI, toPy, toPys_map]
theorem alike_tupI (a b : List Int) : alike (toPy (tupI a)) (toPy (tupI b)) = true := by rw [toPy_tupI, toPy_tupI, alike]; exact alike_ints a b
theorem eqv_tupI (a b : List Int) : PyData.eqv (toPy (tupI a)) (toPy (tupI b)) = decide (a = b) := by rw [toPy_tupI, toPy_tupI, PyData.eqv]; exact eqv_ints a b
theorem lt_tupI (a b : List Int) : dataLt (toPy (tupI a)) (toPy (tupI b)) = lexL a b := by rw [toPy_tupI, toPy_tupI, dataLt, keyToks, keyToks]; exact lt_ints a b
theorem lt_tups : ∀ a b : LL, PyProof.Rows.lexLt itemOrd (keyToksAll ((a.map tupI).map toPy)) (keyToksAll ((b.map tupI).map toPy)) = lexLL a b
  | [], [] => by simp [keyToksAll, lexLL, lex_irrefl]
  | [], y :: ys => by
    simp only [List.map_cons, List.map_nil, PySem.W.toks_all_cons, keyToksAll, lexLL]
    rw [lex_diff (O := itemOrd) (by simp)]
    simp [itemLt]
  | x :: xs, [] => by
    simp only [List.map_cons, List.map_nil, PySem.W.toks_all_cons, keyToksAll, lexLL]
    rw [lex_diff (O := itemOrd) (by simp)]
    simp [itemLt]
  | x :: xs, y :: ys => by
    simp only [List.map_cons]
    by_cases e : x = y
    · subst e
      rw [PySem.W.dataLt_all_yes (alike_tupI _ _) (by rw [eqv_tupI]; simp), lt_tups xs ys]
      simp [lexLL]
    · rw [PySem.W.dataLt_all_no (alike_tupI _ _) (by rw [eqv_tupI]; simp [e]), lt_tupI]
      simp [lexLL, e]
theorem alike_tups : ∀ a b : LL, alikeAll ((a.map tupI).map toPy) ((b.map tupI).map toPy) = true
  | [], _ => by simp [alikeAll]
  | _ :: _, [] => by simp [alikeAll]
  | x :: xs, y :: ys => by simp only [List.map_cons, alikeAll, alike_tupI, Bool.true_and]; exact alike_tups xs ys

/-- a key of the kind -/
def kdOk : Kd → LL → Bool
  | .i, [[_]] => true
  | .t, [_ :: _] => true
  | .tt, _ :: _ => true
  | .p, [[_], _] => true
  | _, _ => false
theorem lt_keys {k : Kd} {a b : LL} (ha : kdOk k a = true) (hb : kdOk k b = true) : alike (toPy (ofKey k a)) (toPy (ofKey k b)) = true ∧ dataLt (toPy (ofKey k a)) (toPy (ofKey k b)) = lexLL a b := by
  cases k with
  | i =>
    unfold kdOk at ha hb
    split at ha <;> first | cases ha | skip
    all_goals try contradiction
    split at hb <;> first | cases hb | skip
    all_goals try contradiction
    rename_i n e1 _ _ m e2
    simp only [ofKey, toPy, alike, dataLt, keyToks, true_and]
    by_cases e : n = m
    · subst e; simp [lexLL, lexL, lex_irrefl]
    · rw [lex_diff (O := itemOrd) (by simpa using e)]
      simp [itemLt, lexLL, lexL, e]
  | t =>
    unfold kdOk at ha hb
    split at ha <;> first | cases ha | skip
    all_goals try contradiction
    split at hb <;> first | cases hb | skip
    all_goals try contradiction
    simp only [ofKey]
    refine ⟨alike_tupI _ _, ?_⟩
    rw [lt_tupI]
    simp only [lexLL]
    split
    · rename_i e; rw [e]
      have : ∀ l, lexL l l = false := fun l => by induction l with
        | nil => rfl
        | cons x l ih => simp [lexL, ih]
      exact this _
    · rfl
  | tt =>
    have e : ∀ ls : LL, toPy (tupT ls) = .tuple ((ls.map tupI).map toPy) := fun ls => by simp only [tupT, toPy, toPys_map]
    simp only [ofKey, e, alike, dataLt, keyToks]
    exact ⟨alike_tups a b, lt_tups a b⟩
  | p =>
    unfold kdOk at ha hb
    split at ha <;> first | cases ha | skip
    all_goals try contradiction
    split at hb <;> first | cases hb | skip
    all_goals try contradiction
    rename_i n l e1 _ _ m l' e2
    simp only [ofKey, toPy, toPys_map, List.map_cons, List.map_nil]
    refine ⟨by simp only [alike, alikeAll, Bool.true_and, Bool.and_true]; exact alike_tupI _ _, ?_⟩
    simp only [dataLt, keyToks]
    by_cases e : n = m
    · subst e
      rw [PySem.W.dataLt_all_yes (by simp [alike]) (by simp [PyData.eqv])]
      by_cases e2 : l = l'
      · subst e2
        simp [lexLL, lex_irrefl]
      · rw [PySem.W.dataLt_all_no (alike_tupI _ _) (by rw [eqv_tupI]; simp [e2]), lt_tupI]
        simp [lexLL, e2]
    · rw [PySem.W.dataLt_all_no (by simp [alike]) (by simp [PyData.eqv, e])]
      simp only [dataLt, keyToks]
      rw [lex_diff (O := itemOrd) (by simpa using e)]
      simp [itemLt, lexLL, lexL, e]

/-! ### keys and data -/
theorem asInts_back : ∀ {ds : List D} {ns : List Int}, asInts ds = some ns → ds = ns.map .int
  | [], _, h => by simp [asInts] at h; subst h; rfl
  | d :: ds, ns, h => by
    unfold asInts at h
    cases d with
    | int i =>
      simp only [asInt] at h
      cases q : asInts ds with
      | none => rw [q] at h; cases h
      | some is => rw [q] at h; cases h; rw [asInts_back q]; rfl
    | _ => simp [asInt] at h
theorem asTups_back : ∀ {ds : List D} {ns : LL}, asTups ds = some ns → ds = ns.map tupI
  | [], _, h => by simp [asTups] at h; subst h; rfl
  | d :: ds, ns, h => by
    unfold asTups at h
    cases d with
    | tup xs =>
      simp only [asTup] at h
      cases q1 : asInts xs with
      | none => rw [q1] at h; cases h
      | some l =>
        rw [q1] at h
        cases q : asTups ds with
        | none => rw [q] at h; cases h
        | some is => rw [q] at h; cases h; rw [asTups_back q, asInts_back q1]; rfl
    | _ => simp [asTup] at h
theorem keyOf_back {k : Kd} {d : D} {a : LL} (h : keyOf k d = some a) : d = ofKey k a ∧ kdOk k a = true := by
  unfold keyOf at h
  split at h
  · cases h; exact ⟨rfl, rfl⟩
  · obtain ⟨l, e, rfl⟩ := Option.map_eq_some_iff.mp h
    have z := asInts_back e
    cases l with
    | nil => cases z
    | cons y ys => exact ⟨by rw [z]; rfl, rfl⟩
  · have z := asTups_back h
    cases a with
    | nil => cases z
    | cons y ys => exact ⟨by rw [z]; rfl, rfl⟩
  · rename_i n y
    obtain ⟨l, e, rfl⟩ := Option.map_eq_some_iff.mp h
    cases y with
    | tup xs => simp only [asTup] at e; exact ⟨by rw [asInts_back e]; rfl, rfl⟩
    | _ => simp [asTup] at e
  · cases h
theorem keysOf_back {k : Kd} : ∀ {ds : List D} {as : List LL}, keysOf k ds = some as → ds = as.map (ofKey k) ∧ ∀ a ∈ as, kdOk k a = true
  | [], _, h => by simp [keysOf] at h; subst h; exact ⟨rfl, fun _ z => by cases z⟩
  | d :: ds, as, h => by
    unfold keysOf at h
    cases q1 : keyOf k d with
    | none => rw [q1] at h; cases h
    | some a =>
      rw [q1] at h
      cases q : keysOf k ds with
      | none => rw [q] at h; cases h
      | some is =>
        rw [q] at h; cases h
        obtain ⟨e1, e2⟩ := keyOf_back q1
        obtain ⟨e3, e4⟩ := keysOf_back q
        exact ⟨by rw [e1, e3]; rfl, fun b hb => (List.mem_cons.mp hb).elim (fun z => z ▸ e2) (e4 b)⟩
theorem kindOf_back {ds : List D} {k : Kd} {as : List LL} (h : kindOf ds = some (k, as)) : ds = as.map (ofKey k) ∧ ∀ a ∈ as, kdOk k a = true := by
  unfold kindOf at h; dsimp only at h
  split at h
  · rename_i q; cases h; exact keysOf_back q
  · split at h
    · rename_i q; cases h; exact keysOf_back q
    · split at h
      · rename_i q; cases h; exact keysOf_back q
      · obtain ⟨ks, q, e⟩ := Option.map_eq_some_iff.mp h
        cases e; exact keysOf_back q

theorem merge_ins (ks : List LL) : ks.mergeSort (fun a b => !lexLL b a) = sortLL ks := by
  refine srt_uniq _ _ ((List.mergeSort_perm _ _).trans (sortLL_perm ks).symm) ?_ (sortLL_srt ks)
  refine (List.pairwise_mergeSort (le := fun a b => !lexLL b a) (fun a b c h1 h2 => ?_) (fun a b => ?_) ks).imp fun h => by simpa using h
  · simp only [Bool.not_eq_true'] at h1 h2 ⊢; exact leL_tr h1 h2
  · cases q : lexLL b a with
    | false => rfl
    | true => rw [lexLL_asym _ _ q]; rfl
/-- the data, sorted -/
theorem merge_data {ds : List D} {k : Kd} {as : List LL} (h : kindOf ds = some (k, as)) : ds.mergeSort (sortLe (listOrd itemOrd) false fun d => keyToks (toPy d)) = (sortLL as).map (ofKey k) := by
  obtain ⟨e, ok⟩ := kindOf_back h
  rw [← merge_ins, PySem.W.sort_maps (s := sortLe (listOrd itemOrd) false fun d => keyToks (toPy d)) (ofKey k), e]
  intro a ha b hb
  show (!lexLL b a) = !(PyProof.Rows.lexLt itemOrd (keyToks (toPy (ofKey k b))) (keyToks (toPy (ofKey k a))))
  rw [show PyProof.Rows.lexLt itemOrd (keyToks (toPy (ofKey k b))) (keyToks (toPy (ofKey k a))) = lexLL b a from (lt_keys (ok b hb) (ok a ha)).2]
end G11

/-! Srt2: set(xs) of a list of ints, with what its order leans on; the calls of sorted -/
namespace G11
open PySem PySem.Spec PyProof.Rows L2
open PySem.W (EachIs dataKind AllAlike Sortable sortVals keyToks keyToksAll dataLt alike alikeAll SortsAt sortLe)

/-- an empty set -/
abbrev nset (w : World) : Obj := { cls := .type "set", dict := none, data := .set #[] 0 (.fresh 0 0 (!w.params.followText "set-order")) }
section
variable {P : Program} {w : World} {A : Around} {E : Value → Shared → Prop} {s : Shared}
/-- what set.__init__ leaves -/
def SetGot (P : Program) (w : World) (s : Shared) (ns : List Int) (r : Value) (t : Shared) : Prop := r = .none ∧ ∃ h' tk n, t = { s with heap := h', toks := tk } ∧ SetR w h' s.heap.objs.size (fun j => decide (j ∈ ns)) n ∧ n ≤ ns.length ∧ ∀ b o, s.heap.get? b = some o → h'.get? b = some o
theorem set_init_l {l : Addr} {items : Array Value} (ns : List Int) (hh : A.handled = none) (hl : s.heap.IsList l items) (hit : IntsAre items.toList ns) (hb : ns.length + 1 < scanBound) {R : Value → Shared → Prop} (hR : ∀ r t, SetGot P w s ns r t → R r t) :
    wpAny (model P w) A.in1.in1 (Builtin.«set.__init__» ⟨[.ref s.heap.objs.size, .ref l], []⟩) (fun f t => ∃ r, f = .done (.ret r) ∧ R r t) E { s with heap := s.heap.push (nset w) } := by
  have hn : items.size = ns.length := by
    have z := IntsAre.length hit
    rwa [Array.length_toList] at z
  obtain ⟨o, ho, hc, k, hd⟩ := hl
  obtain ⟨c1, c2, c3, c4⟩ := o
  simp only at hc hd
  subst hc hd
  have h0 : (s.heap.push (nset w)).get? s.heap.objs.size = some (nset w) := Heap.get?_push_size _ rfl
  have hl1 : (s.heap.push (nset w)).IsList l items := ⟨_, Heap.get?_push_of_some _ ho, rfl, k, rfl⟩
  have lt : l < s.heap.objs.size := Heap.lt_size ho
  have ho' := Heap.get?_push_of_some (nset w) ho
  have s1 := F.sub_list_set
  have s2 := F.sub_list_frozenset
  have s3 : (Value.type "list" == Value.type "dict") = false := by decide
  unfold Builtin.«set.__init__» noKeywords Builtin.Frozenset.updateFrom
  generalize hI : pyIter = I0
  wp_walk
  subst hI
  refine wpAny_pyIter_list hl1 (wpAny_bind (wpAny_runValue ?_))
  have z1 : (s.heap.push (nset w)).objs.size = s.heap.objs.size + 1 := Heap.size_push ..
  have val : ∀ (i : Nat) (v : Value), items[i]? = some v → ∃ z t, ns[i]? = some z ∧ v = .int z t := fun i v hv => by
    have hi : i < ns.length := hn ▸ (Array.getElem?_eq_some_iff.mp hv).1
    obtain ⟨t, e⟩ := IntsAre.int_at hit i v (by rw [Array.getElem?_toList]; exact hv)
    exact ⟨ns[i], t, List.getElem?_eq_getElem hi, by rw [e, List.getD_eq_getElem?_getD, List.getElem?_eq_getElem hi]; rfl⟩
  refine set_update_ints ((Walks.list (by simp [hh]) _ l (by rw [z1]; exact Nat.ne_of_lt (Nat.lt_succ_of_lt lt)) items).toS) s.heap.objs.size (by rw [z1]; exact fun z => (List.mem_cons.mp z).elim (fun z => absurd z (Nat.ne_of_lt (Nat.lt_succ_self _))) fun z => absurd (List.mem_singleton.mp z) (Nat.ne_of_gt lt)) ns hn hb val (items.size - 0) 0 _ rfl (Nat.zero_le _)
    ⟨⟨_, Heap.get?_push_size _ rfl, rfl, rfl⟩, hl1.push _⟩ ⟨0, Nat.le_refl 0, setR_new_at (Heap.get?_push_of_some _ h0)⟩ fun t n hm hc hS => ?_
  obtain ⟨h', g2, d2, tk, os2⟩ := t
  obtain rfl : g2 = s.gens := hm.gens
  obtain rfl : d2 = s.drawn := hm.drawn
  obtain rfl : os2 = s.os := hm.os
  refine wpAny_pure ?_
  show wpAny _ _ (ret Value.none) _ _ _
  refine wpAny_pure ⟨_, rfl, hR _ _ ⟨rfl, h', tk, n, rfl, hS, hn ▸ hc, fun b o e => ?_⟩⟩
  have lb := Heap.lt_size e
  exact hm.heap b o (by rw [z1]; exact fun z => (List.mem_cons.mp z).elim (fun z => absurd z (Nat.ne_of_lt lb)) fun z => absurd (List.mem_singleton.mp z) (Nat.ne_of_lt (Nat.lt_succ_of_lt lb))) (Heap.get?_push_of_some _ (Heap.get?_push_of_some _ e))
/-- set(xs) -/
theorem set_call_l {l : Addr} {items : Array Value} (ns : List Int) {Q : Value → Shared → Prop} (hh : A.handled = none) (hl : s.heap.IsList l items) (hit : IntsAre items.toList ns) (hb : ns.length + 1 < scanBound)
    (h : ∀ (h' : Heap) (tk n : Nat), SetR w h' s.heap.objs.size (fun j => decide (j ∈ ns)) n → n ≤ ns.length → (∀ b o, s.heap.get? b = some o → h'.get? b = some o) → Q (.ref s.heap.objs.size) { s with heap := h', toks := tk }) :
    wpAny (model P w) A (call (.type "set") [.ref l]) Q E s := by
  have q1 := F.called_set.mro
  have q2 := F.called_set.made
  have q3 := F.called_set.sub
  have q4 := F.called_set.notType
  have q5 := F.called_set.canCreate
  have q6 := F.typeCall_set_1 (.ref l)
  obtain ⟨c, tl, q1⟩ := q1
  refine wpAny_call (codeAny_of_tree ?_)
  show wpAny _ _ (callAny (.type "set") _) _ _ _
  refine wpAny_pure ⟨Code.quiet_builtin _ (by decide +kernel), codeAny_builtin F.entry_type_call ?_⟩
  rw [Around.under_plain (weight_type_call_type "set" [.ref l] []) rfl]
  repeat (any_goals (first | assumption | wp_step))
  have new := code_set_led1 (P := P) (w := w) (A := A.in1) (s := s) (.ref l) (E := E) (Q₁ := fun v t => v = .ref s.heap.objs.size ∧ t = { s with heap := s.heap.push (nset w) }) ⟨rfl, rfl⟩
  refine codeAny_mono new fun r t hr => ?_
  rcases r with e | f
  · exact hr
  · cases f with
    | ret v =>
      obtain ⟨rfl, rfl⟩ := hr
      have ty : Shared.TypeIs { s with heap := s.heap.push (nset w) } (.ref s.heap.objs.size) "set" := ⟨_, Heap.get?_push_size _ rfl, rfl⟩
      have i1 := F.called_set.init.lookup
      have i2 := F.called_set.init.bind (.ref s.heap.objs.size)
      repeat (any_goals (first | assumption | wp_step))
      refine codeAny_mono (codeAny_call_builtin (R := wants (SetGot P w s ns) E) F.called_set.init.plain F.entry_set_init (check_set_init_1 ty ?_)) fun r2 t2 h2 => ?_
      · refine wpAny_mono (set_init_l (P := P) (A := A) (E := fun e t => wants (SetGot P w s ns) E (Except.error e) t) ns hh hl hit hb (R := SetGot P w s ns) fun r t z => z) (fun f t hf => ?_) fun _ _ z => z
        obtain ⟨r, rfl, hf⟩ := hf
        exact hf
      · rcases r2 with e2 | f2
        · exact h2
        · cases f2 with
          | ret v2 =>
            obtain ⟨rfl, h', tk, n, rfl, a1, a2, a3⟩ := h2
            repeat (any_goals (first | assumption | wp_step))
            exact h _ _ _ a1 a2 a3
          | _ => exact h2.elim
    | _ => exact hr.elim
end
end G11

/-! Srt3: the calls of sorted -/
namespace G11
open PySem PySem.Spec PyProof.Rows L2
open PySem.W (EachIs dataKind AllAlike Sortable sortVals keyToks keyToksAll dataLt alike alikeAll SortsAt sortLe)
variable [Fns]
section
variable {P : Program} {w : World} {A : Around} {E : Value → Shared → Prop} {s : Shared}
/-- what collecting leaves behind -/
def grown (h : Heap) (items : Array Value) : Heap := (h.push (seqObj "list" #[] 0)).update h.objs.size (Obj.mapSeq (· ++ items))
theorem grown_old {h : Heap} {items : Array Value} {b : Addr} {o : Obj} (e : h.get? b = some o) : (grown h items).get? b = some o :=
  (Heap.get?_update_other _ _ (Nat.ne_of_gt (Heap.lt_size e))).trans (Heap.get?_push_of_some _ e)
theorem grown_size (h : Heap) (items : Array Value) : h.objs.size ≤ (grown h items).objs.size := by
  unfold grown
  rw [Heap.size_update, size_push']
  exact Nat.le_succ _
theorem collect_z {l : Addr} {T : String} {o : Obj} {items : Array Value} {n : Nat} {Q : List Value → Shared → Prop} (hT : T = "list" ∨ T = "tuple") (ho : s.heap.get? l = some o) (hc : o.cls = .type T) (hd : o.data = .seq items n) (hz : items.size ≤ sizeLine)
    (hQ : Q items.toList { s with heap := grown s.heap items }) : wpAny (model P w) A (collect (.ref l)) Q E s := by
  have h0 : (s.heap.push (seqObj "list" #[] 0)).get? s.heap.objs.size = some (seqObj "list" #[] 0) := Heap.get?_push_size _ rfl
  have h1 : (grown s.heap items).get? s.heap.objs.size = _ := Heap.get?_update_self (Obj.mapSeq (· ++ items)) h0 rfl
  unfold collect
  refine wpAny_bind (wpAny_runValue (codeAny_builtin F.entry_proto_collect ?_))
  rw [Around.under_plainId F.plain_proto_collect _]
  show wpAny _ A.in1 (newList [] >>= fun v => again (.builtin "list.__iadd__" ⟨[v, .ref l], []⟩)) _ _ s
  refine wpAny_bind (wpAny_newObj_type (wpAny_pure ⟨plainId_quiet F.plain_list_iadd _, codeAny_builtin F.entry_list_iadd ?_⟩))
  rw [Around.under_plainId F.plain_list_iadd _]
  have last : ∀ t, t = { s with heap := grown s.heap items } → wpAny (model P w) A (load s.heap.objs.size >>= fun o => match o.data with
      | Data.seq xs _ => pure xs.toList
      | _ => unsupported "internal:collect") Q E t := by
    rintro t rfl
    refine wpAny_bind (wpAny_load h1 (wpAny_pure ?_))
    show Q ((#[] : Array Value) ++ items).toList _
    rw [Array.empty_append]
    exact hQ
  refine wpAny_mono (wpAny_extend_seq (prog := P) (w := w) (A := A) (s := { s with heap := s.heap.push (seqObj "list" #[] 0) }) s.heap.objs.size l (.ref s.heap.objs.size) 0
    (R := fun r t => r = .ok (.ret (.ref s.heap.objs.size)) ∧ t = { s with heap := grown s.heap items }) hT h0 (Heap.get?_push_of_some _ ho) hc hd ⟨rfl, rfl⟩ hz) (fun f t h => ?_) fun e t h => absurd h.1 (by simp)
  cases f with
  | done f =>
    obtain ⟨e, h⟩ := h
    cases e
    exact last t h
  | again c =>
    exact ⟨h.1, codeAny_mono h.2 fun r t2 hr => by
      obtain ⟨rfl, h⟩ := hr
      exact last t2 h⟩
/-- sorted(..), by what its collecting gives -/
theorem sorted_by {arg : Value} {Pv : List Value → Prop} {Q : Value → Shared → Prop}
    (hcol : ∀ (R : List Value → Shared → Prop) (E' : Value → Shared → Prop), (∀ t vs, (∀ b o, s.heap.get? b = some o → t.heap.get? b = some o) → s.heap.objs.size ≤ t.heap.objs.size → t.gens = s.gens → t.os = s.os → Pv vs → R vs t) → wpAny (model P w) A.in1 (collect arg) R E' s)
    (dsOf : List Value → List PyData) (hP : ∀ vs, Pv vs → vs.length ≤ sizeLine ∧ EachIs (fun v d => ∃ as, Reads s.heap v d as) vs (dsOf vs) ∧ AllAlike (dsOf vs) ∧ Sortable (dsOf vs) ∧ ∀ d ∈ dsOf vs, A.in1.in1.units + d.depth < cLine)
    (hQ : ∀ t p vs (c : Nat) (h0 : Heap), Pv vs → (∀ b o, s.heap.get? b = some o → t.heap.get? b = some o) → (∀ b o, s.heap.get? b = some o → h0.get? b = some o) → t.gens = s.gens → t.os = s.os → s.heap.objs.size ≤ p →
      (∀ v d, (∃ as, Reads s.heap v d as) → ∃ as, Reads h0 v d as) → t.heap.get? p = some (seqObj "list" (sortVals (dataKind h0 (dsOf vs)) false vs vs).toArray c) → Q (.ref p) t) :
    wpAny (model P w) A (call (.builtin "sorted") [arg]) Q E s := by
  refine Calls.call_function_entry kind_sorted plain_sorted entry_sorted (args_sorted1 _) ?_
  unfold Builtin.«sorted»
  refine wpAny_bind (m := checkCount "sorted" 1 1 _) (wpAny_pure (wpAny_bind (hcol _ _ fun t vs k1 k2 k3 k4 hv => ?_)))
  obtain ⟨hz, e, al, so, hu⟩ := hP vs hv
  generalize hds : dsOf vs = ds at *
  refine wpAny_bind (wpAny_newList ?_ hz)
  have h1 : (t.heap.push (seqObj "list" vs.toArray 0)).get? t.heap.objs.size = some (seqObj "list" vs.toArray 0) := Heap.get?_push_size _ rfl
  have keep : ∀ b o, s.heap.get? b = some o → (PySem.W.sortingHeap (t.heap.push (seqObj "list" vs.toArray 0)) t.heap.objs.size vs).get? b = some o := fun b o z => by
    have z1 := k1 b o z
    exact PySem.W.sortingHeap_old (Nat.ne_of_lt (Heap.lt_size z1)) (Heap.get?_push_of_some _ z1)
  have rk : ∀ v d, (∃ as, Reads s.heap v d as) → ∃ as, Reads (PySem.W.sortingHeap (t.heap.push (seqObj "list" vs.toArray 0)) t.heap.objs.size vs) v d as := fun v d ⟨as, r⟩ => ⟨as, Reads.keeps keep r⟩
  have S := SortsAt.data (prog := P) (w := w) (A := A.in1.in1) (s := { t with heap := PySem.W.sortingHeap (t.heap.push (seqObj "list" vs.toArray 0)) t.heap.objs.size vs }) (vs := vs) (ds := ds) (e.mono fun v d z => rk v d z) al so hu
  refine wpAny_bind (wpAny_holding (wpAny_call_entry slot_list_sort ⟨_, h1, rfl⟩ entry_list_sort (PySem.W.list_sort_vals (s := { t with heap := t.heap.push (seqObj "list" vs.toArray 0) }) h1 S hz ⟨_, rfl, ?_⟩) (args_list_sort _)))
  obtain ⟨c, hc⟩ := sortedHeap_at (vs := vs) (out := (sortVals (dataKind (PySem.W.sortingHeap (t.heap.push (seqObj "list" vs.toArray 0)) t.heap.objs.size vs) ds) false vs vs).toArray) h1
  refine wpAny_pure ⟨_, rfl, hQ _ t.heap.objs.size vs c _ hv (fun b o z => ?_) keep k3 k4 k2 rk (by rw [hds]; exact hc)⟩
  have z1 := k1 b o z
  have lb := Heap.lt_size z1
  show (sortedHeap (t.heap.push (seqObj "list" vs.toArray 0)) t.heap.objs.size vs _).get? b = some o
  rw [sortedHeap_old (Nat.ne_of_lt lb) (by rw [size_push']; exact Nat.lt_succ_of_lt lb)]
  exact Heap.get?_push_of_some _ z1
end
/-! ### values beside data -/
section
variable {K : PySem.W.Frag} {H : Hp} {m : Ms}
abbrev Bes (K : PySem.W.Frag) (H : Hp) (m : Ms) (u : Value) (b : D × V) : Prop := RelV b.2 u ∧ RD K H m b.1 b.2
theorem each_of : ∀ {ds : List D} {xs : List V} {us : List Value}, RDs K H m ds xs → Vals xs us → ∃ bs : List (D × V), bs.map (·.1) = ds ∧ EachIs (Bes K H m) us bs
  | [], _, _, h, r => by
    simp only [RDs] at h; subst h; cases r
    exact ⟨[], rfl, .nil⟩
  | d :: ds, _, _, h, r => by
    simp only [RDs] at h
    obtain ⟨v, vs', rfl, h1, h2⟩ := h
    cases r with
    | cons r t =>
      obtain ⟨bs, e, q⟩ := each_of h2 t
      exact ⟨(d, v) :: bs, by rw [List.map_cons, e], .cons ⟨r, h1⟩ q⟩
theorem each_back : ∀ {us : List Value} {bs : List (D × V)}, EachIs (Bes K H m) us bs → Vals (bs.map (·.2)) us ∧ RDs K H m (bs.map (·.1)) (bs.map (·.2))
  | _, _, .nil => ⟨.nil, by simp [RDs]⟩
  | _, _, .cons h t => by
    obtain ⟨a, b⟩ := each_back t
    refine ⟨.cons h.1 a, ?_⟩
    simp only [List.map_cons, RDs]
    exact ⟨_, _, rfl, h.2, b⟩
theorem okDs_ints : ∀ l : List Int, okDs 1 (l.map .int) = true
  | [] => rfl
  | x :: l => by simp only [List.map_cons, okDs, okD, Bool.true_and]; exact okDs_ints l
theorem okDs_tups : ∀ l : LL, okDs 2 (l.map tupI) = true
  | [] => rfl
  | x :: l => by simp only [List.map_cons, okDs, tupI, okD, okDs_ints, Bool.true_and]; exact okDs_tups l
theorem okD_key {k : Kd} {a : LL} (h : kdOk k a = true) : okD 3 (ofKey k a) = true := by
  unfold kdOk at h
  split at h
  · rfl
  · simp only [ofKey, tupI]
    show okDs 2 _ = true
    rename_i x xs
    have : ∀ l : List Int, okDs 2 (l.map .int) = true := fun l => by
      induction l with
      | nil => rfl
      | cons y l ih => simp only [List.map_cons, okDs, okD, Bool.true_and]; exact ih
    exact this _
  · simp only [ofKey, tupT]
    show okDs 2 _ = true
    exact okDs_tups _
  · simp only [ofKey]
    show okDs 2 _ = true
    simp only [okDs, okD, tupI, okDs_ints, Bool.and_self]
  · cases h
theorem depth_key {k : Kd} {a : LL} (h : kdOk k a = true) : (toPy (ofKey k a)).depth ≤ 3 := (okD_lay (okD_key h)).2
end
section
variable {X : Cx} {pins : List (Addr × Obj)} {σ : L2.St} {H : Hp} {s : Shared} {m : Ms}
theorem key_shape {k : Kd} {a : LL} (h : kdOk k a = true) : (k = .i ∧ toPy (ofKey k a) ≠ .none ∧ ∀ xs, toPy (ofKey k a) ≠ .tuple xs) ∨ (k ≠ .i ∧ ∃ x r, toPy (ofKey k a) = .tuple (x :: r)) := by
  unfold kdOk at h
  split at h
  · left; refine ⟨rfl, ?_, ?_⟩ <;> simp [ofKey, toPy]
  · right; refine ⟨by simp, ?_⟩; simp [ofKey, tupI, toPy, toPys]
  · right; refine ⟨by simp, ?_⟩; simp [ofKey, tupT, toPy, toPys]
  · right; refine ⟨by simp, ?_⟩; simp [ofKey, toPy, toPys]
  · cases h
theorem sort_ok (I : Inv X pins σ H s) {vs : List Value} {bs : List (D × V)} {k : Kd} {as : List LL} (e : EachIs (Bes X.K H m) vs bs) (hk : kindOf (bs.map (·.1)) = some (k, as)) (hu : X.A.units + 65 < cLine) :
    EachIs (fun v d => ∃ as, Reads s.heap v d as) vs (bs.map fun b => toPy b.1) ∧ AllAlike (bs.map fun b => toPy b.1) ∧ Sortable (bs.map fun b => toPy b.1) ∧ ∀ d ∈ bs.map fun b => toPy b.1, X.A.in1.in1.units + d.depth < cLine := by
  obtain ⟨e1, ok⟩ := kindOf_back hk
  have at' : ∀ b ∈ bs, ∃ a, b.1 = ofKey k a ∧ kdOk k a = true := fun b hb => by
    have : b.1 ∈ as.map (ofKey k) := by rw [← e1]; exact List.mem_map.mpr ⟨b, hb, rfl⟩
    obtain ⟨a, ha, q⟩ := List.mem_map.mp this
    exact ⟨a, q.symm, ok a ha⟩
  refine ⟨?_, ?_, ?_, ?_⟩
  · have go : ∀ {vs : List Value} {cs : List (D × V)}, EachIs (Bes X.K H m) vs cs → (∀ b ∈ cs, ∃ a, b.1 = ofKey k a ∧ kdOk k a = true) → EachIs (fun v d => ∃ as, Reads s.heap v d as) vs (cs.map fun b => toPy b.1) := by
      intro vs cs h
      induction h with
      | nil => intro _; exact .nil
      | cons h t ih =>
        intro hc
        obtain ⟨a, q, oa⟩ := hc _ List.mem_cons_self
        exact .cons (Dp.reads I _ _ _ (RD.dp h.2 (by rw [q]; exact okD_key oa)) h.1) (ih fun b hb => hc b (List.mem_cons_of_mem _ hb))
    exact go e at'
  · intro d hd d' hd'
    obtain ⟨b, hb, rfl⟩ := List.mem_map.mp hd
    obtain ⟨b', hb', rfl⟩ := List.mem_map.mp hd'
    obtain ⟨a, q, oa⟩ := at' b hb
    obtain ⟨a', q', oa'⟩ := at' b' hb'
    rw [q, q']; exact (lt_keys oa oa').1
  · by_cases hi : k = .i
    · right
      intro d hd
      obtain ⟨b, hb, rfl⟩ := List.mem_map.mp hd
      obtain ⟨a, q, oa⟩ := at' b hb
      rw [q]
      rcases key_shape oa with ⟨_, z⟩ | ⟨z, _⟩
      · exact z
      · exact absurd hi z
    · left
      intro d hd
      obtain ⟨b, hb, rfl⟩ := List.mem_map.mp hd
      obtain ⟨a, q, oa⟩ := at' b hb
      rw [q]
      rcases key_shape oa with ⟨z, _⟩ | ⟨_, z⟩
      · exact absurd z hi
      · exact z
  · intro d hd
    obtain ⟨b, hb, rfl⟩ := List.mem_map.mp hd
    obtain ⟨a, q, oa⟩ := at' b hb
    have z : X.A.in1.in1.units ≤ X.A.units + 2 := by simp
    have z2 := depth_key oa
    rw [q]; omega
theorem sort_out {vs : List Value} {bs : List (D × V)} {k : Kd} {as : List LL} {h0 : Heap} (e : EachIs (Bes X.K H m) vs bs) (hk : kindOf (bs.map (·.1)) = some (k, as)) (al : AllAlike (bs.map fun b => toPy b.1))
    (er : EachIs (fun v d => ∃ as, Reads h0 v d as) vs (bs.map fun b => toPy b.1)) :
    ∃ ys, Vals ys (sortVals (dataKind h0 (bs.map fun b => toPy b.1)) false vs vs) ∧ RDs X.K H m ((sortLL as).map (ofKey k)) ys := by
  have ek : EachIs (fun v (b : D × V) => (dataKind h0 (bs.map fun b => toPy b.1)).keyOf v = some (keyToks (toPy b.1))) vs bs := by
    have go : ∀ {vs : List Value} {cs : List (D × V)}, EachIs (fun v d => ∃ as, Reads h0 v d as) vs (cs.map fun b => toPy b.1) → (∀ b ∈ cs, b ∈ bs) → EachIs (fun v (b : D × V) => (dataKind h0 (bs.map fun b => toPy b.1)).keyOf v = some (keyToks (toPy b.1))) vs cs := by
      intro vs cs
      induction cs generalizing vs with
      | nil => intro h _; cases h; exact .nil
      | cons c cs ih =>
        intro h hc
        cases h with
        | cons h t =>
          obtain ⟨as', r⟩ := h
          exact .cons (PySem.W.dataKind_some al (List.mem_map.mpr ⟨c, hc c List.mem_cons_self, rfl⟩) r) (ih t fun b hb => hc b (List.mem_cons_of_mem _ hb))
    exact go er fun _ z => z
  have q := PySem.W.sortVals_each (κ := dataKind h0 (bs.map fun b => toPy b.1)) (rev := false) (fun b : D × V => keyToks (toPy b.1)) e ek
  obtain ⟨q1, q2⟩ := each_back q
  refine ⟨_, q1, ?_⟩
  have z : (bs.mergeSort (sortLe (listOrd itemOrd) false fun b : D × V => keyToks (toPy b.1))).map (·.1) = (sortLL as).map (ofKey k) := by
    rw [← merge_data hk]
    exact PySem.W.sort_maps (fun b : D × V => b.1) fun _ _ _ _ => rfl
  rw [← z]
  exact q2
end
end G11

/-! Srt4: sorted(xs), sorted(set(xs)) as constructs -/
namespace G11
open PySem PySem.Spec PyProof.Rows L2
open PySem.W (EachIs dataKind AllAlike Sortable sortVals keyToks keyToksAll dataLt alike alikeAll SortsAt sortLe)
variable [Fns]
section
variable {X : Cx} {pins : List (Addr × Obj)} {σ : L2.St} {H : Hp} {s : Shared} {m : Ms} {S : Store}
/-- a list that a call leaves -/
theorem list_left (I : Inv X pins σ H s) (ok : OkS X.K H m S) {t : Shared} {p : Addr} {out : List Value} {c : Nat} {ys : List V} {es : List D} {Q : VK} (k : ∀ b o, s.heap.get? b = some o → t.heap.get? b = some o) (g : t.gens = s.gens) (o : t.os = s.os) (hp : s.heap.objs.size ≤ p)
    (hg : t.heap.get? p = some (seqObj "list" out.toArray c)) (hv : Vals ys out) (r : RDs X.K H m es ys) (hl : es.length ≤ lim) (q : ∀ v H', Ext H m H' m → OkS X.K H' m S → RD X.K H' m (.lst es) v → Q v H') : EP X pins σ Q (.ref p) t := by
  have hn : H p = none := I.hok.fresh hp
  have hlen : ys.length ≤ sizeLine := by have := r.length; have := lim_le; omega
  have J : Inv X pins σ (upd H p (.lst ys)) { s with heap := t.heap, gens := t.gens, drawn := t.drawn, toks := t.toks } :=
    I.call (ch := []) (Un.laid k hp hn) (I.hok.laid k hp ⟨hlen, out, c, hv, hg⟩) (g ▸ I.bare) fun _ z => nomatch z
  have e : t = { s with heap := t.heap, gens := t.gens, drawn := t.drawn, toks := t.toks } := by
    cases t; cases s; cases o; rfl
  rw [e]
  exact ⟨.ref p, _, J, rfl, new_lst ok r hl q hn⟩
theorem sorted_C (I : Inv X pins σ H s) (ok : OkS X.K H m S) (hu : X.A.units + 65 < cLine) {arg : Value} {vs : List V} {its : List Value} {ds es : List D} (rv : Vals vs its) (r : RDs X.K H m ds vs) (hs : sortD ds = some es) (hl : ds.length ≤ lim)
    (hcol : ∀ (R : List Value → Shared → Prop) (E' : Value → Shared → Prop), (∀ t us, (∀ b o, s.heap.get? b = some o → t.heap.get? b = some o) → s.heap.objs.size ≤ t.heap.objs.size → t.gens = s.gens → t.os = s.os → us = its → R us t) → wpAny (model X.prog X.w) X.A.in1 (collect arg) R E' s)
    {Q : VK} (q : ∀ v H', Ext H m H' m → OkS X.K H' m S → RD X.K H' m (.lst es) v → Q v H') :
    wpAny (model X.prog X.w) X.A (call (.builtin "sorted") [arg]) (EP X pins σ Q) X.xe s := by
  obtain ⟨⟨k, as⟩, hk, e⟩ := Option.map_eq_some_iff.mp hs
  simp only at e
  subst e
  have hz : its.length ≤ sizeLine := by
    have z1 := r.length; have z2 := rv.length; have := lim_le; omega
  obtain ⟨bs, eb, each⟩ := each_of r rv
  rw [← eb] at hk
  obtain ⟨p1, p2, p3, p4⟩ := sort_ok I each hk hu
  refine sorted_by (Pv := fun us => us = its) (fun R E' h => hcol R E' h) (fun _ => bs.map fun b => toPy b.1) (fun us e => ?_) fun t p us c h0 e k1 k0 g1 o1 hp rk hg => ?_
  · subst e; exact ⟨hz, p1, p2, p3, p4⟩
  · subst e
    obtain ⟨ys, v1, v2⟩ := sort_out (X := X) each hk p2 (p1.mono fun v d z => rk v d z)
    exact list_left I ok k1 g1 o1 hp hg v1 v2 (by
      rw [List.length_map, (sortLL_perm as).length_eq]
      have := (kindOf_back hk).1
      have z := congrArg List.length this
      rw [List.length_map, List.length_map] at z
      have z2 := congrArg List.length eb
      rw [List.length_map] at z2
      omega) q
theorem sorted_D (I : Inv X pins σ H s) (ok : OkS X.K H m S) (hu : X.A.units + 65 < cLine) {a : Addr} {vs : List V} {its : List Value} {ds es : List D} (rv : Vals vs its) (r : RDs X.K H m ds vs) (hs : sortD ds = some es) (hl : ds.length ≤ lim)
    (hq : ∃ T o n, (T = "list" ∨ T = "tuple") ∧ s.heap.get? a = some o ∧ o.cls = .type T ∧ o.data = .seq its.toArray n) {Q : VK} (q : ∀ v H', Ext H m H' m → OkS X.K H' m S → RD X.K H' m (.lst es) v → Q v H') :
    wpAny (model X.prog X.w) X.A (call (.builtin "sorted") [.ref a]) (EP X pins σ Q) X.xe s := by
  obtain ⟨T, o, n, hT, ho, hc, hd⟩ := hq
  have hz : its.length ≤ sizeLine := by
    have z1 := r.length; have z2 := rv.length; have := lim_le; omega
  exact sorted_C I ok hu rv r hs hl (fun R E' h => collect_z hT ho hc hd (by simpa using hz) (h _ _ (fun b o z => grown_old z) (grown_size _ _) rfl rfl (by simp))) q
/-- what a dict's walk collects -/
theorem collect_kdl {prog : Program} {w : World} {A : Around} {E : Value → Shared → Prop} {s : Shared} {T : String} {r d : Addr} {n : Nat} {P : Nat → Value → Prop} {OK : Heap → Prop} {Q : List Value → Shared → Prop} (K : PySem.W.KdlSrc prog w T r d n P OK) (hh : A.handled = none) (hok : OK s.heap) (hn : n ≤ sizeLine)
    (hQ : ∀ t acc, (∀ b o, s.heap.get? b = some o → t.heap.get? b = some o) → s.heap.objs.size ≤ t.heap.objs.size → t.gens = s.gens → t.os = s.os → ItemsOf P acc n → Q acc.toList t) : wpAny (model prog w) A (collect (.ref r)) Q E s := by
  have h0 : (s.heap.push (seqObj "list" #[] 0)).get? s.heap.objs.size = some (seqObj "list" #[] 0) := Heap.get?_push_size _ rfl
  have hlt := K.there _ hok
  unfold collect
  refine wpAny_bind (wpAny_runValue (codeAny_builtin F.entry_proto_collect ?_))
  rw [Around.under_plainId F.plain_proto_collect _]
  show wpAny _ A.in1 (newList [] >>= fun v => again (.builtin "list.__iadd__" ⟨[v, .ref r], []⟩)) _ _ s
  refine wpAny_bind (wpAny_newObj_type (wpAny_pure ⟨plainId_quiet F.plain_list_iadd _, codeAny_builtin F.entry_list_iadd ?_⟩))
  rw [Around.under_plainId F.plain_list_iadd _]
  let Good : Shared → Prop := fun t => ∃ h' tk acc c, (∀ b o, b ≠ s.heap.objs.size → (s.heap.push (seqObj "list" #[] 0)).get? b = some o → h'.get? b = some o) ∧ h'.get? s.heap.objs.size = some { cls := .type "list", dict := none, data := .seq acc c, slots := #[] } ∧ ItemsOf P acc n ∧ t = { s with heap := h', toks := tk }
  have last : ∀ t, Good t → wpAny (model prog w) A (load s.heap.objs.size >>= fun o => match o.data with
      | Data.seq xs _ => pure xs.toList
      | _ => unsupported "internal:collect") Q E t := by
    rintro t ⟨h', tk, acc, c, k1, k2, k3, rfl⟩
    refine wpAny_bind (wpAny_load k2 (wpAny_pure ?_))
    refine hQ _ acc (fun b o e => k1 b o (Nat.ne_of_lt (Heap.lt_size e)) (Heap.get?_push_of_some _ e)) ?_ rfl rfl k3
    exact Nat.le_of_lt (Heap.lt_size k2)
  refine wpAny_mono (PySem.W.kdl_extend (prog := prog) (w := w) (A := A) (s := { s with heap := s.heap.push (seqObj "list" #[] 0) }) (R := fun rr t => rr = .ok (.ret (.ref s.heap.objs.size)) ∧ Good t) K hh (K.keep _ _ hok fun b _ o e => Heap.get?_push_of_some _ e) s.heap.objs.size (Nat.ne_of_gt hlt.1) (Nat.ne_of_gt hlt.2) (.ref s.heap.objs.size) 0 h0 (fun h' tk acc' c' hk hS' hacc => ⟨rfl, h', tk, acc', c', hk, hS', hacc, rfl⟩) hn) (fun f t h => ?_) fun e t h => absurd h.1 (by simp)
  cases f with
  | done f =>
    obtain ⟨e, h⟩ := h
    cases e
    exact last t h
  | again c =>
    exact ⟨h.1, codeAny_mono h.2 fun r t2 hr => by
      obtain ⟨rfl, h⟩ := hr
      exact last t2 h⟩
/-- where a sequence stands -/
theorem seq_tup (I : Inv X pins σ H s) {a : Addr} {vs : List V} (h : SqT X.K H a vs) : ∃ its, Vals vs its ∧ ∃ T o n, (T = "list" ∨ T = "tuple") ∧ s.heap.get? a = some o ∧ o.cls = .type T ∧ o.data = .seq its.toArray n := by
  obtain ⟨its, rv, ⟨o, ho, hc, n, hd⟩, _⟩ := I.tuple h
  exact ⟨its, rv, "tuple", o, n, .inr rfl, ho, hc, hd⟩
theorem seq_lst (I : Inv X pins σ H s) {a : Addr} {vs : List V} (h : SqL X.K H a vs) : ∃ its, Vals vs its ∧ ∃ T o n, (T = "list" ∨ T = "tuple") ∧ s.heap.get? a = some o ∧ o.cls = .type T ∧ o.data = .seq its.toArray n := by
  obtain ⟨its, rv, pl, _⟩ := I.list h
  obtain ⟨o, ho, hc, n, hd⟩ := pl.isList
  exact ⟨its, rv, "list", o, n, .inl rfl, ho, hc, hd⟩
end
theorem cb_sorted {X : Cx} (hc : X.calm = true) (hu : X.A.units + 65 < cLine) : CallR X (.builtin "sorted") (rS1 X.K (doBi .sorted)) := by
  intro pins s σ H xs us Q I r h
  obtain ⟨m, S, dx, x, rfl, ok, r1, h⟩ := h
  simp only [doBi] at h
  have q : ∀ {ds : List D}, Af X.K m H (fun _ _ => False) (PV X.K Q) (.ok (.lst ds) S) → ∀ v H', Ext H m H' m → OkS X.K H' m S → RD X.K H' m (.lst ds) v → Q v H' := fun h v H' e' o' r' => h H' m e' o' v r'
  cases dx with
  | tup ds =>
    simp only at h
    cases z : sortD ds with
    | none => rw [z] at h; exact h.elim
    | some es =>
      rw [z] at h
      simp only [RD] at r1
      obtain ⟨a, vs, rfl, e2, e3, hl⟩ := r1
      rw [Vals.ref1 r]
      obtain ⟨its, rv, hq⟩ := seq_tup I e2
      exact sorted_D I ok hu rv e3 z hl hq (q h)
  | lst ds =>
    simp only at h
    cases z : sortD ds with
    | none => rw [z] at h; exact h.elim
    | some es =>
      rw [z] at h
      simp only [RD] at r1
      obtain ⟨a, vs, rfl, e2, _, e3, hl⟩ := r1
      rw [Vals.ref1 r]
      obtain ⟨its, rv, hq⟩ := seq_lst I (SqL.of e2)
      exact sorted_D I ok hu rv e3 z hl hq (q h)
  | ref i =>
    obtain ⟨a, ha, e1⟩ := OkS.refD r1
    subst e1
    obtain ⟨o, ho, hO⟩ := ok.free ha
    simp only [ho] at h
    cases o with
    | lst ds =>
      simp only at h
      cases z : sortD ds with
      | none => rw [z] at h; exact h.elim
      | some es =>
        rw [z] at h
        obtain ⟨vs, e2, e3, hl⟩ := hO
        rw [Vals.ref1 r]
        obtain ⟨its, rv, hq⟩ := seq_lst I (SqL.of e2)
        exact sorted_D I ok hu rv e3 z hl hq (q h)
    | dt kvs =>
      simp only at h
      cases z : sortD (kvs.map fun p => tupT p.1) with
      | none => rw [z] at h; exact h.elim
      | some es =>
        rw [z] at h
        obtain ⟨xs, e2, t⟩ := hO
        rw [Vals.ref1 r]
        obtain ⟨des, ep, hm, he⟩ := rawD I e2
        have hsz : des.size = xs.length := by rw [← Array.length_toList, he, List.length_map]
        have hlen := t.ent.length
        have vk : ∀ {kvs : List (LL × D)} {xs : List (LL × Addr × Value)}, DTe X.K H m kvs xs → Vals (xs.map fun x => V.ref x.2.1) (xs.map fun x => Value.ref x.2.1) ∧ RDs X.K H m (kvs.map fun p => tupT p.1) (xs.map fun x => V.ref x.2.1) := by
          intro kvs
          induction kvs with
          | nil => intro xs h; have h : _ = [] := h; subst h; exact ⟨.nil, by simp [RDs]⟩
          | cons p kvs ih =>
            intro xs h
            obtain ⟨l, d⟩ := p
            obtain ⟨b, u, v, xs', rfl, f2, _, _, f5⟩ := h
            obtain ⟨g1, g2⟩ := ih f5
            refine ⟨.cons rfl g1, ?_⟩
            simp only [List.map_cons, RDs]
            exact ⟨_, _, rfl, f2, g2⟩
        obtain ⟨v1, v2⟩ := vk t.ent
        refine sorted_C I ok hu v1 v2 z (by rw [List.length_map]; exact t.len) (fun R E' hR => ?_) (q h)
        refine collect_kdl (KdlSrc.rawDict (d := a) (es := des) (ep := ep) t.sys) (by show X.A.in1.handled = none; simp [I.ok.hd hc]) hm (by rw [hsz, hlen]; exact Nat.le_trans t.len lim_le) fun t' acc k1 k2 k3 k4 items => hR t' acc.toList k1 k2 k3 k4 ?_
        refine items_eq items (by rw [List.length_map, hsz]) fun j v hv => ?_
        obtain ⟨hj, rfl⟩ := hv
        have e1 : des[j]? = some des[j] := Array.getElem?_eq_getElem hj
        rw [← Array.getElem?_toList, he, List.getElem?_map] at e1
        obtain ⟨x, hx, ex⟩ := Option.map_eq_some_iff.mp e1
        rw [List.getElem?_map, hx, ← ex]; rfl
    | _ => exact h.elim
  | _ => exact h.elim

/-! ### sorted(set(xs)) -/
theorem perm_pull {α β : Type} {f : α → β} {as : List β} {bs : List β} (h : as.Perm bs) : ∀ L : List α, L.map f = as → ∃ L1 : List α, L1.Perm L ∧ L1.map f = bs := by
  induction h with
  | nil => intro L e; exact ⟨L, List.Perm.refl _, e⟩
  | cons x h ih =>
    intro L e
    cases L with
    | nil => cases e
    | cons a L =>
      simp only [List.map_cons, List.cons.injEq] at e
      obtain ⟨L1, p, q⟩ := ih L e.2
      exact ⟨a :: L1, p.cons a, by rw [List.map_cons, e.1, q]⟩
  | swap x y l =>
    intro L e
    match L, e with
    | a :: b :: L, e =>
      simp only [List.map_cons, List.cons.injEq] at e
      exact ⟨b :: a :: L, List.Perm.swap a b L, by rw [List.map_cons, List.map_cons, e.1, e.2.1, e.2.2]⟩
  | trans h1 h2 ih1 ih2 =>
    intro L e
    obtain ⟨L1, p1, q1⟩ := ih1 L e
    obtain ⟨L2, p2, q2⟩ := ih2 L1 q1
    exact ⟨L2, p2.trans p1, q2⟩
section
variable {X : Cx} {pins : List (Addr × Obj)} {σ : L2.St} {H : Hp} {s : Shared} {m : Ms} {S : Store}
theorem each_cs {K : PySem.W.Frag} {H : Hp} {m : Ms} : ∀ (cs : List (Value × D × V)), (∀ c ∈ cs, Bes K H m c.1 c.2) → EachIs (Bes K H m) (cs.map (·.1)) (cs.map (·.2))
  | [], _ => .nil
  | c :: cs, h => .cons (h c List.mem_cons_self) (each_cs cs fun b hb => h b (List.mem_cons_of_mem _ hb))
open Classical in
theorem sorted_P (I : Inv X pins σ H s) (ok : OkS X.K H m S) (hu : X.A.units + 65 < cLine) {arg : Value} {cs : List (Value × D × V)} {k : Kd} {κ : (Value × D × V) → LL}
    (hcol : ∀ (R : List Value → Shared → Prop) (E' : Value → Shared → Prop), (∀ t vs, (∀ b o, s.heap.get? b = some o → t.heap.get? b = some o) → s.heap.objs.size ≤ t.heap.objs.size → t.gens = s.gens → t.os = s.os → vs.Perm (cs.map (·.1)) → R vs t) → wpAny (model X.prog X.w) X.A.in1 (collect arg) R E' s)
    (hb : ∀ c ∈ cs, Bes X.K H m c.1 c.2) (hk : ∀ cs1 : List (Value × D × V), cs1.Perm cs → kindOf (cs1.map (·.2.1)) = some (k, cs1.map κ)) (hl : cs.length ≤ lim)
    {Q : VK} (q : ∀ v H', Ext H m H' m → OkS X.K H' m S → RD X.K H' m (.lst ((sortLL (cs.map κ)).map (ofKey k))) v → Q v H') :
    wpAny (model X.prog X.w) X.A (call (.builtin "sorted") [arg]) (EP X pins σ Q) X.xe s := by
  have fact : ∀ cs1 : List (Value × D × V), cs1.Perm cs → EachIs (Bes X.K H m) (cs1.map (·.1)) (cs1.map (·.2)) ∧ kindOf ((cs1.map (·.2)).map (·.1)) = some (k, cs1.map κ) := fun cs1 p => by
    refine ⟨each_cs cs1 fun c hc => hb c (p.mem_iff.mp hc), ?_⟩
    rw [List.map_map]; exact hk cs1 p
  refine sorted_by (Pv := fun us => us.Perm (cs.map (·.1))) (fun R E' h => hcol R E' h) (fun us => if h : ∃ cs1 : List (Value × D × V), cs1.Perm cs ∧ cs1.map (·.1) = us then (h.choose.map (·.2)).map fun b => toPy b.1 else []) (fun us e => ?_) fun t p us c h0 e k1 k0 g1 o1 hp rk hg => ?_
  · have h : ∃ cs1 : List (Value × D × V), cs1.Perm cs ∧ cs1.map (·.1) = us := perm_pull e.symm cs rfl
    rw [dif_pos h]
    obtain ⟨f1, f2⟩ := fact _ h.choose_spec.1
    rw [h.choose_spec.2] at f1
    obtain ⟨p1, p2, p3, p4⟩ := sort_ok I f1 f2 hu
    refine ⟨?_, p1, p2, p3, p4⟩
    rw [e.length_eq, List.length_map]; have := lim_le; omega
  · have h : ∃ cs1 : List (Value × D × V), cs1.Perm cs ∧ cs1.map (·.1) = us := perm_pull e.symm cs rfl
    rw [dif_pos h] at hg
    obtain ⟨f1, f2⟩ := fact _ h.choose_spec.1
    rw [h.choose_spec.2] at f1
    obtain ⟨p1, p2, p3, p4⟩ := sort_ok I f1 f2 hu
    obtain ⟨ys, v1, v2⟩ := sort_out (X := X) f1 f2 p2 (p1.mono fun v d z => rk v d z)
    have es : sortLL (h.choose.map κ) = sortLL (cs.map κ) := srt_uniq _ _ ((sortLL_perm _).trans ((h.choose_spec.1.map κ).trans (sortLL_perm _).symm)) (sortLL_srt _) (sortLL_srt _)
    rw [es] at v2
    exact list_left I ok k1 g1 o1 hp hg v1 v2 (by rw [List.length_map, (sortLL_perm _).length_eq, List.length_map]; exact hl) q
end
theorem dedup_mem : ∀ (l : List LL) (x : LL), x ∈ dedup l ↔ x ∈ l
  | [], x => by simp [dedup]
  | y :: l, x => by
    unfold dedup
    split
    · rename_i h
      rw [dedup_mem l x]
      refine ⟨fun z => List.mem_cons_of_mem _ z, fun z => (List.mem_cons.mp z).elim (fun e => ?_) id⟩
      rw [e]; simpa using h
    · rw [List.mem_cons, List.mem_cons, dedup_mem l x]
theorem dedup_nodup : ∀ l : List LL, (dedup l).Nodup
  | [] => by simp [dedup]
  | y :: l => by
    unfold dedup
    split
    · exact dedup_nodup l
    · rename_i h
      exact List.nodup_cons.mpr ⟨fun z => h (by simpa using (dedup_mem l y).mp z), dedup_nodup l⟩
theorem sort_same {as bs : List LL} (ha : as.Nodup) (hb : bs.Nodup) (h : ∀ x, x ∈ as ↔ x ∈ bs) : sortLL as = sortLL bs :=
  srt_uniq _ _ ((sortLL_perm _).trans (((List.perm_ext_iff_of_nodup ha hb).mpr h).trans (sortLL_perm _).symm)) (sortLL_srt _) (sortLL_srt _)
theorem kind_ints : ∀ ns : List Int, kindOf (ns.map D.int) = some (.i, ns.map fun n => [[n]]) := fun ns => by
  have h : keysOf .i (ns.map D.int) = some (ns.map fun n => [[n]]) := by
    induction ns with
    | nil => rfl
    | cons n ns ih => simp only [List.map_cons, keysOf, keyOf, ih]
  unfold kindOf; simp only [h]
theorem asInts_of : ∀ l : List Int, asInts (l.map .int) = some l
  | [] => rfl
  | x :: l => by simp only [List.map_cons, asInts, asInt, asInts_of l]
theorem kind_tups {ls : LL} (h0 : ls ≠ []) (h : ∀ l ∈ ls, l ≠ []) : kindOf (ls.map tupI) = some (.t, ls.map fun l => [l]) := by
  have h1 : keysOf .i (ls.map tupI) = none := by
    cases ls with
    | nil => exact absurd rfl h0
    | cons l ls => simp [keysOf, keyOf, tupI]
  have h2 : ∀ ls : LL, (∀ l ∈ ls, l ≠ []) → keysOf .t (ls.map tupI) = some (ls.map fun l => [l]) := fun ls => by
    induction ls with
    | nil => intro _; rfl
    | cons l ls ih =>
      intro h
      have e : keyOf .t (tupI l) = some [l] := by
        cases l with
        | nil => exact absurd rfl (h [] List.mem_cons_self)
        | cons x l =>
          show (asInts ((x :: l).map .int)).map _ = _
          rw [asInts_of]; rfl
      simp only [List.map_cons, keysOf, e, ih fun l hl => h l (List.mem_cons_of_mem _ hl)]
  unfold kindOf; simp only [h1, h2 ls h]
end G11

/-! SrtT: set(xs) of a tuple of tuples of ints -/
namespace G11
open PySem PySem.Spec PyProof.Rows L2
open PySem.W (EachIs dataKind AllAlike Sortable sortVals keyToks keyToksAll dataLt alike alikeAll SortsAt sortLe)
section
variable {P : Program} {w : World} {A : Around} {E : Value → Shared → Prop} {s : Shared}
/-- what set.__init__ leaves, of tuples -/
def SetGotT (P : Program) (w : World) (s : Shared) (ks : List (Addr × List Int)) (r : Value) (t : Shared) : Prop := r = .none ∧ ∃ h' tk L es ep tb, t = { s with heap := h', toks := tk } ∧ SetTR P w h' s.heap.objs.size L es ep tb ∧ Got ks ks.length L ∧ ∀ b o, s.heap.get? b = some o → h'.get? b = some o
theorem set_init_tt {l : Addr} {items : Array Value} (ks : List (Addr × List Int)) (hh : A.handled = none) (hl : s.heap.IsTuple l items) (hit : items.toList = ks.map fun p => Value.ref p.1) (hk : ∀ p ∈ ks, IsT P w s.heap p.2 p.1) (hf : ks.length < 64) (hu : A.units + 3 < cLine) {R : Value → Shared → Prop} (hR : ∀ r t, SetGotT P w s ks r t → R r t) :
    wpAny (model P w) A.in1.in1 (Builtin.«set.__init__» ⟨[.ref s.heap.objs.size, .ref l], []⟩) (fun f t => ∃ r, f = .done (.ret r) ∧ R r t) E { s with heap := s.heap.push (nset w) } := by
  have hn : items.size = ks.length := by
    have z := congrArg List.length hit
    rwa [Array.length_toList, List.length_map] at z
  obtain ⟨o, ho, hc, k, hd⟩ := hl
  obtain ⟨c1, c2, c3, c4⟩ := o
  simp only at hc hd
  subst hc hd
  have h0 : (s.heap.push (nset w)).get? s.heap.objs.size = some (nset w) := Heap.get?_push_size _ rfl
  have hl1 : (s.heap.push (nset w)).IsTuple l items := ⟨_, Heap.get?_push_of_some _ ho, rfl, k, rfl⟩
  have lt : l < s.heap.objs.size := Heap.lt_size ho
  have ho' := Heap.get?_push_of_some (nset w) ho
  have s1 := F.sub_tuple_set
  have s2 := F.sub_tuple_frozenset
  have s3 : (Value.type "tuple" == Value.type "dict") = false := by decide
  unfold Builtin.«set.__init__» noKeywords Builtin.Frozenset.updateFrom
  generalize hI : pyIter = I0
  wp_walk
  subst hI
  refine wpAny_pyIter_tuple hl1 (wpAny_bind (wpAny_runValue ?_))
  have z1 : (s.heap.push (nset w)).objs.size = s.heap.objs.size + 1 := Heap.size_push ..
  have val : ∀ (i : Nat) (v : Value), items[i]? = some v → ∃ p, ks[i]? = some p ∧ v = .ref p.1 := fun i v hv => by
    have z : items.toList[i]? = some v := by rw [Array.getElem?_toList]; exact hv
    rw [hit, List.getElem?_map] at z
    obtain ⟨p, e1, e2⟩ := Option.map_eq_some_iff.mp z
    exact ⟨p, e1, e2.symm⟩
  have nn : ∀ b, s.heap.objs.size ≤ b → s.heap.get? b = none := fun b hb => by
    rcases z : s.heap.get? b with _ | o
    · rfl
    · exact absurd (Heap.lt_size z) (Nat.not_lt.mpr hb)
  refine set_update_tups ((Walks.tuple (by simp [hh]) _ l (by rw [z1]; exact Nat.ne_of_lt (Nat.lt_succ_of_lt lt)) items).toS) s.heap.objs.size (by rw [z1]; exact fun z => (List.mem_cons.mp z).elim (fun z => absurd z (Nat.ne_of_lt (Nat.lt_succ_self _))) fun z => absurd (List.mem_singleton.mp z) (Nat.ne_of_gt lt)) ks hn hf val s.heap hk (nn _ (Nat.le_refl _))
    (fun b hb => nn b (by rw [List.mem_singleton.mp hb, z1]; exact Nat.le_succ _)) hu (items.size - 0) 0 _ rfl (Nat.zero_le _)
    ⟨⟨_, Heap.get?_push_size _ rfl, rfl, rfl⟩, hl1.push _⟩ (fun b o e => Heap.get?_push_of_some _ (Heap.get?_push_of_some _ e)) ⟨[], #[], 0, _, setTR_fresh (Heap.get?_push_of_some _ h0), Got.zero ks⟩ fun t L es ep tb hm hS g2 kp => ?_
  obtain ⟨h', gg, d2, tk, os2⟩ := t
  obtain rfl : gg = s.gens := hm.gens
  obtain rfl : d2 = s.drawn := hm.drawn
  obtain rfl : os2 = s.os := hm.os
  refine wpAny_pure ?_
  show wpAny _ _ (ret Value.none) _ _ _
  rw [hn] at g2
  exact wpAny_pure ⟨_, rfl, hR _ _ ⟨rfl, h', tk, L, es, ep, tb, rfl, hS, g2, kp⟩⟩
/-- set(xs) -/
theorem set_call_tt {l : Addr} {items : Array Value} (ks : List (Addr × List Int)) {Q : Value → Shared → Prop} (hh : A.handled = none) (hl : s.heap.IsTuple l items) (hit : items.toList = ks.map fun p => Value.ref p.1) (hk : ∀ p ∈ ks, IsT P w s.heap p.2 p.1) (hf : ks.length < 64) (hu : A.units + 3 < cLine)
    (h : ∀ (h' : Heap) (tk : Nat) L es ep tb, SetTR P w h' s.heap.objs.size L es ep tb → Got ks ks.length L → (∀ b o, s.heap.get? b = some o → h'.get? b = some o) → Q (.ref s.heap.objs.size) { s with heap := h', toks := tk }) :
    wpAny (model P w) A (call (.type "set") [.ref l]) Q E s := by
  have q1 := F.called_set.mro
  have q2 := F.called_set.made
  have q3 := F.called_set.sub
  have q4 := F.called_set.notType
  have q5 := F.called_set.canCreate
  have q6 := F.typeCall_set_1 (.ref l)
  obtain ⟨c, tl, q1⟩ := q1
  refine wpAny_call (codeAny_of_tree ?_)
  show wpAny _ _ (callAny (.type "set") _) _ _ _
  refine wpAny_pure ⟨Code.quiet_builtin _ (by decide +kernel), codeAny_builtin F.entry_type_call ?_⟩
  rw [Around.under_plain (weight_type_call_type "set" [.ref l] []) rfl]
  repeat (any_goals (first | assumption | wp_step))
  have new := code_set_led1 (P := P) (w := w) (A := A.in1) (s := s) (.ref l) (E := E) (Q₁ := fun v t => v = .ref s.heap.objs.size ∧ t = { s with heap := s.heap.push (nset w) }) ⟨rfl, rfl⟩
  refine codeAny_mono new fun r t hr => ?_
  rcases r with e | f
  · exact hr
  · cases f with
    | ret v =>
      obtain ⟨rfl, rfl⟩ := hr
      have ty : Shared.TypeIs { s with heap := s.heap.push (nset w) } (.ref s.heap.objs.size) "set" := ⟨_, Heap.get?_push_size _ rfl, rfl⟩
      have i1 := F.called_set.init.lookup
      have i2 := F.called_set.init.bind (.ref s.heap.objs.size)
      repeat (any_goals (first | assumption | wp_step))
      refine codeAny_mono (codeAny_call_builtin (R := wants (SetGotT P w s ks) E) F.called_set.init.plain F.entry_set_init (check_set_init_1 ty ?_)) fun r2 t2 h2 => ?_
      · refine wpAny_mono (set_init_tt (P := P) (A := A) (E := fun e t => wants (SetGotT P w s ks) E (Except.error e) t) ks hh hl hit hk hf hu (R := SetGotT P w s ks) fun r t z => z) (fun f t hf => ?_) fun _ _ z => z
        obtain ⟨r, rfl, hf⟩ := hf
        exact hf
      · rcases r2 with e2 | f2
        · exact h2
        · cases f2 with
          | ret v2 =>
            obtain ⟨rfl, h', tk, L, es, ep, tb, rfl, a1, a2, a3⟩ := h2
            repeat (any_goals (first | assumption | wp_step))
            exact h _ _ _ _ _ _ a1 a2 a3
          | _ => exact h2.elim
    | _ => exact hr.elim
end
end G11

/-! Srt5: sorted(set(xs)) -/
namespace G11
open PySem PySem.Spec PyProof.Rows L2
variable [Fns]
section
variable {X : Cx} {pins : List (Addr × Obj)} {σ : L2.St} {H : Hp} {s : Shared} {m : Ms} {S : Store}
/-- sorted(a set of ints) -/
theorem sorted_setI (I : Inv X pins σ H s) (ok : OkS X.K H m S) (hc : X.calm = true) (hu : X.A.units + 65 < cLine) {a : Addr} {ns : List Int} {n : Nat} (R : SetR X.w s.heap a (fun j => decide (j ∈ ns)) n) (hn : n ≤ lim)
    {Q : VK} (q : ∀ v H', Ext H m H' m → OkS X.K H' m S → RD X.K H' m (.lst ((sortLL (dedup (ns.map fun n => [[n]]))).map (ofKey .i))) v → Q v H') :
    wpAny (model X.prog X.w) X.A (call (.builtin "sorted") [.ref a]) (EP X pins σ Q) X.xe s := by
  obtain ⟨o, es, ep, t, ho, hex, hd, g, nd, hm, hb, hf, hsz, hr, hl⟩ := R
  have ev : ∀ e ∈ es.toList, ∃ tk, e.2 = Value.int (L2.keyOf e) tk := fun e he => by
    obtain ⟨k, tk, h1, _⟩ := g e he
    exact ⟨tk, by rw [h1]; unfold L2.keyOf; rw [h1]⟩
  let f : Int × Value → Value × D × V := fun e => (e.2, .int (L2.keyOf e), .int (L2.keyOf e))
  have em : (es.toList.map f).map (·.1) = es.toList.map (·.2) := by rw [List.map_map]; rfl
  refine sorted_P I ok hu (cs := es.toList.map f) (k := .i) (κ := fun c => match c.2.1 with
    | .int n => [[n]]
    | _ => []) (fun R E' h => ?_) (fun c hc => ?_) (fun cs1 p => ?_) (by rw [List.length_map, Array.length_toList, hsz]; exact hn) ?_
  · refine collect_set (A := X.A.in1) (by simp [I.ok.hd hc]) ⟨o, ho, hex.1, hd⟩ hf hb hr hl fun t vs k1 k2 k3 k4 pm => h t vs k1 k2 k3 k4 (by rw [em]; exact pm)
  · obtain ⟨e, he, rfl⟩ := List.mem_map.mp hc
    obtain ⟨tk, q⟩ := ev e he
    exact ⟨⟨tk, q⟩, by show RD X.K H m (.int _) (.int _); simp only [RD]⟩
  · have isI : ∀ c ∈ cs1, ∃ k, c.2.1 = D.int k := fun c hc => by
      obtain ⟨e, _, rfl⟩ := List.mem_map.mp (p.mem_iff.mp hc)
      exact ⟨_, rfl⟩
    clear p
    have key : ∀ cs1 : List (Value × D × V), (∀ c ∈ cs1, ∃ k, c.2.1 = D.int k) → ∃ ns : List Int, cs1.map (·.2.1) = ns.map D.int ∧ cs1.map (fun c => match c.2.1 with
        | .int n => ([[n]] : LL)
        | _ => []) = ns.map fun n => [[n]] := by
      intro cs1
      induction cs1 with
      | nil => intro _; exact ⟨[], rfl, rfl⟩
      | cons c cs ih =>
        intro h
        obtain ⟨k, e⟩ := h c List.mem_cons_self
        obtain ⟨ns, e1, e2⟩ := ih fun c hc => h c (List.mem_cons_of_mem _ hc)
        exact ⟨k :: ns, by rw [List.map_cons, e, e1]; rfl, by rw [List.map_cons, List.map_cons, e2, e]⟩
    obtain ⟨ns', e1, e2⟩ := key cs1 isI
    rw [e1, e2]
    exact kind_ints ns'
  · have ek : (es.toList.map f).map (fun c => match c.2.1 with
        | .int n => ([[n]] : LL)
        | _ => []) = (es.toList.map L2.keyOf).map fun n => [[n]] := by rw [List.map_map, List.map_map]; rfl
    rw [ek]
    have inj : Function.Injective (fun n : Int => ([[n]] : LL)) := fun a b e => by simpa using e
    rw [sort_same (as := (es.toList.map L2.keyOf).map fun n => [[n]]) (bs := dedup (ns.map fun n => [[n]])) (List.Pairwise.map _ (fun a b hne e => hne (inj e)) nd) (dedup_nodup _) fun x => ?_]
    · exact q
    · rw [dedup_mem, List.mem_map, List.mem_map]
      constructor
      · rintro ⟨k, hk, rfl⟩
        exact ⟨k, by simpa using (hm k).mpr hk, rfl⟩
      · rintro ⟨k, hk, rfl⟩
        exact ⟨k, (hm k).mp (by simpa using hk), rfl⟩
/-- sorted(a set of tuples of ints) -/
theorem sorted_setTD (I : Inv X pins σ H s) (ok : OkS X.K H m S) (hc : X.calm = true) (hu : X.A.units + 65 < cLine) {a : Addr} {L : List (Addr × List Int)} {es : Array (Int × Value)} {ep : Nat} {t : SetTable} {ls : LL} (R : SetTR X.prog X.w s.heap a L es ep t)
    (hL : ∀ p ∈ L, SqT X.K H p.1 (p.2.map V.int) ∧ p.2 ≠ [] ∧ p.2.length ≤ lim) (hs : ∀ l, l ∈ L.map (·.2) ↔ l ∈ ls) (hne : ls ≠ [])
    {Q : VK} (q : ∀ v H', Ext H m H' m → OkS X.K H' m S → RD X.K H' m (.lst ((sortLL (dedup (ls.map fun l => [l]))).map (ofKey .t))) v → Q v H') :
    wpAny (model X.prog X.w) X.A (call (.builtin "sorted") [.ref a]) (EP X pins σ Q) X.xe s := by
  obtain ⟨o, ho, hex, hd⟩ := R.ob
  have hes : es.toList.map (·.2) = L.map fun q => Value.ref q.1 := by
    rw [R.rows]; unfold rowsOf; rw [List.map_map]; rfl
  let f : Addr × List Int → Value × D × V := fun p => (.ref p.1, tupI p.2, .ref p.1)
  have em : (L.map f).map (·.1) = L.map fun q => Value.ref q.1 := by rw [List.map_map]; rfl
  refine sorted_P I ok hu (cs := L.map f) (k := .t) (κ := fun c => match asTup c.2.1 with
    | some l => [l]
    | none => []) (fun R' E' h => ?_) (fun c hc => ?_) (fun cs1 p => ?_) (by rw [List.length_map]; have := R.few; show _ ≤ 1000000; omega) ?_
  · refine collect_set (A := X.A.in1) (by simp [I.ok.hd hc]) ⟨o, ho, hex.1, hd⟩ R.fits (by rw [R.size]; have := R.few; unfold scanBound; omega) R.tab.ris R.led fun t vs k1 k2 k3 k4 pm => h t vs k1 k2 k3 k4 (by rw [em, ← hes]; exact pm)
  · obtain ⟨e, he, rfl⟩ := List.mem_map.mp hc
    refine ⟨rfl, ?_⟩
    show RD X.K H m (tupI e.2) (.ref e.1)
    simp only [tupI, RD]
    have z := (hL e he).1
    exact ⟨_, _, rfl, z, RDs.ofInts _, by rw [List.length_map]; exact (hL e he).2.2⟩
  · have isT : ∀ c ∈ cs1, ∃ l : List Int, l ≠ [] ∧ c.2.1 = tupI l := fun c hc => by
      obtain ⟨e, he, rfl⟩ := List.mem_map.mp (p.mem_iff.mp hc)
      exact ⟨_, (hL e he).2.1, rfl⟩
    have key : ∀ cs1 : List (Value × D × V), (∀ c ∈ cs1, ∃ l : List Int, l ≠ [] ∧ c.2.1 = tupI l) → ∃ ls : LL, cs1.map (·.2.1) = ls.map tupI ∧ (∀ l ∈ ls, l ≠ []) ∧ cs1.map (fun c => match asTup c.2.1 with
        | some l => ([l] : LL)
        | none => []) = ls.map fun l => [l] := by
      intro cs1
      induction cs1 with
      | nil => intro _; exact ⟨[], rfl, (fun _ z => by cases z), rfl⟩
      | cons c cs ih =>
        intro h
        obtain ⟨k, e0, e⟩ := h c List.mem_cons_self
        obtain ⟨ns, e1, e3, e2⟩ := ih fun c hc => h c (List.mem_cons_of_mem _ hc)
        refine ⟨k :: ns, by rw [List.map_cons, e, e1]; rfl, fun l hl => (List.mem_cons.mp hl).elim (fun z => z ▸ e0) (e3 l), ?_⟩
        rw [List.map_cons, List.map_cons, e2, e]
        show (match asInts (k.map .int) with
        | some l => ([l] : LL)
        | none => []) :: _ = _
        rw [asInts_of]
    obtain ⟨ls', e1, e3, e2⟩ := key cs1 isT
    rw [e1, e2]
    refine kind_tups ?_ e3
    rintro rfl
    have : cs1 = [] := by simpa using e1
    subst this
    have : L = [] := by simpa using p.symm.eq_nil
    subst this
    cases ls with
    | nil => exact hne rfl
    | cons l ls => simpa using (hs l).mpr List.mem_cons_self
  · have ek : (L.map f).map (fun c => match asTup c.2.1 with
        | some l => ([l] : LL)
        | none => []) = (L.map (·.2)).map fun l => [l] := by
      rw [List.map_map, List.map_map]
      refine List.map_congr_left fun p _ => ?_
      show (match asInts (p.2.map .int) with
        | some l => ([l] : LL)
        | none => []) = _
      rw [asInts_of]; rfl
    rw [ek]
    rw [sort_same (as := (L.map (fun p : Addr × List Int => p.2)).map fun l => [l]) (bs := dedup (ls.map fun l => [l])) (List.Pairwise.map (fun l : List Int => ([l] : LL)) (fun a b (hne : a ≠ b) e => hne (by simpa using e)) R.nd) (dedup_nodup _) fun x => ?_]
    · exact q
    · rw [dedup_mem, List.mem_map, List.mem_map]
      constructor
      · rintro ⟨k, hk, rfl⟩
        exact ⟨k, (hs k).mp hk, rfl⟩
      · rintro ⟨k, hk, rfl⟩
        exact ⟨k, (hs k).mpr hk, rfl⟩
/-- tuples of ints: where they stand -/
theorem tups_at {K : PySem.W.Frag} {H : Hp} {m : Ms} : ∀ {ds : List D} {vs : List V} {as : List LL}, RDs K H m ds vs → keysOf .t ds = some as → ∃ ks : List (Addr × List Int), vs = ks.map (fun p => V.ref p.1) ∧ (∀ p ∈ ks, SqT K H p.1 (p.2.map V.int) ∧ p.2 ≠ [] ∧ p.2.length ≤ lim) ∧ as = (ks.map (·.2)).map fun l => [l]
  | [], _, _, h, e => by
    simp only [RDs] at h; simp [keysOf] at e; subst h e
    exact ⟨[], rfl, (fun _ z => by cases z), rfl⟩
  | d :: ds, _, as, h, e => by
    simp only [RDs] at h
    obtain ⟨v, vs', rfl, h1, h2⟩ := h
    unfold keysOf at e
    cases q1 : keyOf .t d with
    | none => rw [q1] at e; cases e
    | some a =>
      rw [q1] at e
      cases q2 : keysOf .t ds with
      | none => rw [q2] at e; cases e
      | some as' =>
        rw [q2] at e; cases e
        obtain ⟨ks, e1, e2, e3⟩ := tups_at h2 q2
        obtain ⟨f1, f2⟩ := keyOf_back q1
        unfold kdOk at f2
        split at f2 <;> first | contradiction | skip
        rename_i x l _
        subst f1
        simp only [ofKey, tupI, RD] at h1
        obtain ⟨ad, xs, rfl, g1, g2, g3⟩ := h1
        have g4 := g2.ints (asInts_of _)
        subst g4
        refine ⟨(ad, x :: l) :: ks, by rw [e1]; rfl, fun p hp => ?_, by rw [e3]; rfl⟩
        rcases List.mem_cons.mp hp with z | z
        · subst z; exact ⟨g1, by simp, by rw [List.length_map] at g3; exact g3⟩
        · exact e2 p z
end
/-- what sortSet asks -/
theorem sortSet_back {xs ys : List D} (h : sortSet xs = some ys) : xs.length < 64 ∧ ((∃ ns, asInts xs = some ns ∧ ys = (sortLL (dedup (ns.map fun n => [[n]]))).map (ofKey .i)) ∨
    (xs ≠ [] ∧ ∃ as, keysOf .t xs = some as ∧ ys = (sortLL (dedup as)).map (ofKey .t))) := by
  obtain ⟨⟨k, as⟩, hk, h⟩ := Option.bind_eq_some_iff.mp h
  simp only at h
  split at h
  · rename_i hc
    cases h
    simp only [Bool.and_eq_true, decide_eq_true_eq, Bool.or_eq_true, beq_iff_eq] at hc
    refine ⟨hc.1, ?_⟩
    rcases hc.2 with z | z
    · subst z
      left
      obtain ⟨e1, e2⟩ := kindOf_back hk
      have key : ∀ as : List LL, (∀ a ∈ as, kdOk .i a = true) → ∃ ns : List Int, as = ns.map fun n => [[n]] := fun as => by
        induction as with
        | nil => intro _; exact ⟨[], rfl⟩
        | cons a as ih =>
          intro h
          obtain ⟨ns, e⟩ := ih fun b hb => h b (List.mem_cons_of_mem _ hb)
          have q := h a List.mem_cons_self
          unfold kdOk at q
          split at q <;> first | contradiction | skip
          rename_i n _
          exact ⟨n :: ns, by rw [e]; rfl⟩
      obtain ⟨ns, e⟩ := key as e2
      subst e
      refine ⟨ns, ?_, rfl⟩
      rw [e1, List.map_map]
      exact asInts_of ns
    · subst z
      right
      refine ⟨?_, as, ?_, rfl⟩
      · rintro rfl
        simp [kindOf, keysOf] at hk
      · unfold kindOf at hk; dsimp only at hk
        split at hk
        · cases hk
        · split at hk
          · rename_i q; cases hk; exact q
          · split at hk
            · cases hk
            · obtain ⟨_, _, z⟩ := Option.map_eq_some_iff.mp hk; cases z
  · cases h
theorem sset_noexc (x : D) (S : Store) : ∀ c S', doSset x S ≠ .exc c S' := by
  intro c S' h
  unfold doSset at h
  repeat' split at h
  all_goals cases h
section
variable {C : Ctx} {k : Nat} {X : Cx} {W : Nat → Hp → Prop} (g : Good C k X W)
include g
theorem x_sset {e : E} {y : Expr} {p p2 q pos : Pos} (hg : Gl X "sorted") (hg2 : Gl X "set") (ha : PE X y (yI C k X W e)) (hp : plainX y = true) : PE X (.Call (.Name "sorted" p) [.Call (.Name "set" p2) [y] [] q] [] pos) (yI C k X W (.sset e)) := by
  have hm := g.stat.blt "sorted" (by decide)
  have hm2 := g.stat.blt "set" (by decide)
  have na : starEach [y] X.env = (false, eval y X.env) :: starEach [] X.env := star_cons hp
  refine ⟨fun pins s σ H Q I h => ?_⟩
  refine Call_ (ld_blt I hg hm (u := .builtin "sorted") (by decide +kernel) ?_)
  refine callWith_builtin1 (args_cons ?_ rfl) rfl rfl
  refine Call_ (ld_blt I hg2 hm2 (u := .type "set") (by decide +kernel) ?_)
  obtain ⟨m0, env, S0, ok0, re, h⟩ := h
  simp only [ev] at h
  have hy : yI C k X W e σ H (fun x H1 => ∃ m S d, OkS X.K H1 m S ∧ RD X.K H1 m d x ∧ Af X.K m H1 (fun _ _ => False) (PV X.K Q) (doSset d S)) := by
    refine tI_bind ok0 re h fun d S1 v H1 m1 e1 o1 re1 r1 h => ?_
    exact ⟨m1, S1, d, o1, r1, h.noexc (sset_noexc _ _)⟩
  refine callWith_type1 (args_cons (thn (ha.run pins s σ H _ I hy) fun v s1 ⟨x, H1, I1, r1, q1⟩ => args_nil ?_) na) na rfl
  obtain ⟨m, S, d, ok, rd, h⟩ := q1
  have hc := g.calm
  have hu := g.units
  have hh := I1.ok.hd hc
  have q : ∀ {ds : List D}, Af X.K m H1 (fun _ _ => False) (PV X.K Q) (.ok (.lst ds) S) → ∀ v H', Ext H1 m H' m → OkS X.K H' m S → RD X.K H' m (.lst ds) v → Q v H' := fun h v H' e' o' r' => h H' m e' o' v r'
  -- a list
  have lst : ∀ {a : Addr} {vs : List V} {ds es : List D}, SqL X.K H1 a vs → RDs X.K H1 m ds vs → sortSet ds = some es → Af X.K m H1 (fun _ _ => False) (PV X.K Q) (.ok (.lst es) S) →
      wpAny (model X.prog X.w) X.A (call (.type "set") [.ref a]) (fun v s2 => wpAny (model X.prog X.w) X.A (call (.builtin "sorted") [v]) (EP X pins σ Q) X.xe s2) X.xe s1 := by
    intro a vs ds es hs rs z h
    obtain ⟨hl, hk⟩ := sortSet_back z
    obtain ⟨its, rv, pl, _⟩ := I1.list hs
    rcases hk with ⟨ns, e1, rfl⟩ | ⟨hne, as, e1, rfl⟩
    · have z1 := rs.ints e1
      subst z1
      have hn : ns.length < 64 := by have := rs.length; rw [List.length_map] at this; omega
      refine set_call_l ns hh pl.isList (by simpa using RZ.intsAre_vals rv) (by unfold scanBound; omega) fun h' tk n R hn' kk => ?_
      have I2 : Inv X pins σ H1 { s1 with heap := h', toks := tk } := I1.kept kk
      exact sorted_setI I2 ok hc hu R (by show n ≤ 1000000; omega) (q h)
    · obtain ⟨ks, z1, z2, z3⟩ := tups_at rs e1
      subst z1 z3
      have hn : ks.length < 64 := by have := rs.length; rw [List.length_map] at this; omega
      refine call_set_tups (P := X.prog) (w := X.w) ks hh pl.isList (by simpa using refs_of_vals rv) (fun p hp => I1.isT (z2 p hp).1) hn (by omega) fun h' tk L es ep t R gg kk => ?_
      have I2 : Inv X pins σ H1 { s1 with heap := h', toks := tk } := I1.kept kk
      have sub : ∀ p ∈ L, p ∈ ks := fun p hp => List.mem_of_mem_take (gg.sub p hp)
      refine sorted_setTD I2 ok hc hu (ls := ks.map (·.2)) R (fun p hp => z2 p (sub p hp)) (fun l => ⟨fun hl => ?_, fun hl => ?_⟩) ?_ (q h)
      · obtain ⟨p, hp, e⟩ := List.mem_map.mp hl
        exact List.mem_map.mpr ⟨p, sub p hp, e⟩
      · obtain ⟨p, hp, e⟩ := List.mem_map.mp hl
        subst e
        exact gg.all p (by rw [List.take_length]; exact hp)
      · intro e
        apply hne
        have : ks = [] := by simpa using e
        subst this
        have := rs.length
        exact List.eq_nil_of_length_eq_zero (by simpa using this.symm)
  cases d with
  | lst ds =>
    simp only [doSset] at h
    cases z : sortSet ds with
    | none => rw [z] at h; exact h.elim
    | some es =>
      rw [z] at h
      simp only [RD] at rd
      obtain ⟨a, vs, rfl, e2, _, e3, _⟩ := rd
      cases r1
      exact thn (lst (SqL.of e2) e3 z h) fun v s2 hv => args_nil hv
  | tup ds =>
    simp only [doSset] at h
    cases z : sortSet ds with
    | none => rw [z] at h; exact h.elim
    | some es =>
      rw [z] at h
      simp only [RD] at rd
      obtain ⟨a, vs, rfl, e2, e3, _⟩ := rd
      cases r1
      obtain ⟨hl, hk⟩ := sortSet_back z
      obtain ⟨its, rv, hT, _⟩ := I1.tuple e2
      rcases hk with ⟨ns, e1, rfl⟩ | ⟨hne, as, e1, rfl⟩
      · have z1 := e3.ints e1
        subst z1
        have hn : ns.length < 64 := by have := e3.length; rw [List.length_map] at this; omega
        refine call_set_tupI ns hh hT (by simpa using RZ.intsAre_vals rv) (by unfold scanBound; omega) fun h' tk n R hn' kk => ?_
        have I2 : Inv X pins σ H1 { s1 with heap := h', toks := tk } := I1.kept kk
        exact args_nil (sorted_setI I2 ok hc hu R (by show n ≤ 1000000; omega) (q h))
      · obtain ⟨ks, z1, z2, z3⟩ := tups_at e3 e1
        subst z1 z3
        have hn : ks.length < 64 := by have := e3.length; rw [List.length_map] at this; omega
        refine set_call_tt (P := X.prog) (w := X.w) ks hh hT (by simpa using refs_of_vals rv) (fun p hp => I1.isT (z2 p hp).1) hn (by omega) fun h' tk L es ep t R gg kk => ?_
        have I2 : Inv X pins σ H1 { s1 with heap := h', toks := tk } := I1.kept kk
        have sub : ∀ p ∈ L, p ∈ ks := fun p hp => List.mem_of_mem_take (gg.sub p hp)
        refine args_nil (sorted_setTD I2 ok hc hu (ls := ks.map (·.2)) R (fun p hp => z2 p (sub p hp)) (fun l => ⟨fun hl => ?_, fun hl => ?_⟩) ?_ (q h))
        · obtain ⟨p, hp, e⟩ := List.mem_map.mp hl
          exact List.mem_map.mpr ⟨p, sub p hp, e⟩
        · obtain ⟨p, hp, e⟩ := List.mem_map.mp hl
          subst e
          exact gg.all p (by rw [List.take_length]; exact hp)
        · intro e
          apply hne
          have : ks = [] := by simpa using e
          subst this
          have := e3.length
          exact List.eq_nil_of_length_eq_zero (by simpa using this.symm)
  | ref i =>
    obtain ⟨a, ha', e1⟩ := OkS.refD rd
    subst e1
    cases r1
    obtain ⟨o, ho, hO⟩ := ok.free ha'
    simp only [doSset, ho] at h
    cases o with
    | lst ds =>
      simp only at h
      cases z : sortSet ds with
      | none => rw [z] at h; exact h.elim
      | some es =>
        rw [z] at h
        obtain ⟨vs, e2, e3, _⟩ := hO
        exact thn (lst (SqL.of e2) e3 z h) fun v s2 hv => args_nil hv
    | _ => exact h.elim
  | _ => exact h.elim
end
end G11

/-! Rev: t[::-1] of a tuple; a dict of three texts -/
namespace G11
open PySem PySem.Spec PyProof.Rows L2
variable [Fns]
section
variable {prog : Program} {w : World} {A : Around} {E : Value → Shared → Prop} {s : Shared}
theorem back_pick (xs : Array Value) : ((List.range xs.size).filterMap fun (k : Nat) => xs[((xs.size : Int) - 1 + (k : Int) * (-1)).toNat]?).toArray = xs.toList.reverse.toArray := by
  have e : (List.range xs.size).filterMap (fun (k : Nat) => xs[((xs.size : Int) - 1 + (k : Int) * (-1)).toNat]?) = ((List.range xs.size).map fun k => xs.size - 1 - k).filterMap (xs[·]?) := by
    rw [List.filterMap_map]
    congr 1
    funext k
    show xs[((xs.size : Int) - 1 + (k : Int) * (-1)).toNat]? = xs[xs.size - 1 - k]?
    rw [show ((xs.size : Int) - 1 + (k : Int) * (-1)).toNat = xs.size - 1 - k by omega]
  rw [e, PySem.W.krv_range, List.filterMap_reverse, PySem.W.krv_all]
theorem back_applied {sl : Addr} {u : Tok} {n : Nat} {Q : Int × Int × Nat → Shared → Prop} (hs : s.heap.IsSliceOf sl .none .none (.int (-1) u)) (h : Q ((n : Int) - 1, -1, n) s) : wpAny (model prog w) A (Builtin.Slice.sliceApplied (.ref sl) (pure (n : Int))) Q E s := by
  obtain ⟨o, ho, _, hd⟩ := id hs
  unfold Builtin.Slice.sliceApplied Builtin.Slice.sliceFields
  refine wpAny_bind (wpAny_bind (wpAny_field ho hd (x := .none) rfl (wpAny_bind (wpAny_field ho hd (x := .none) rfl (wpAny_bind (wpAny_field ho hd (x := .int (-1) u) rfl (wpAny_pure ?_)))))))
  refine wpAny_bind (slicePart_int ?_)
  show wpAny _ _ (if ((-1 : Int) == 0) = true then _ else _) _ _ s
  rw [if_neg (by decide)]
  refine wpAny_bind (slicePart_none (wpAny_bind (slicePart_none (wpAny_bind (wpAny_pure ?_)))))
  have e1 : Builtin.Slice.sliceAdjust none none (-1) (n : Int) = ((n : Int) - 1, -1) := rfl
  have e2 : Builtin.Slice.slicePlaces ((n : Int) - 1) (-1) (-1) = n := by
    unfold Builtin.Slice.slicePlaces
    rw [if_neg (by decide), show (-(-1) : Int) = 1 by decide, Int.ediv_one]
    split <;> omega
  show wpAny _ _ (match Builtin.Slice.sliceAdjust none none (-1) (n : Int) with | (lo, hi) => pure (lo, (-1 : Int), Builtin.Slice.slicePlaces lo hi (-1))) _ _ s
  rw [e1]
  show wpAny _ _ (pure ((n : Int) - 1, (-1 : Int), Builtin.Slice.slicePlaces ((n : Int) - 1) (-1) (-1))) _ _ s
  rw [e2]
  exact wpAny_pure h
theorem back_getItem {t sl : Addr} {items : Array Value} {u : Tok} {Q : Value → Shared → Prop} (ht : IsTup s.heap t items) (hs : s.heap.IsSliceOf sl .none .none (.int (-1) u)) (hz : items.size ≤ sizeLine)
    (h : Q (.ref s.heap.objs.size) { s with heap := s.heap.push { cls := .type "tuple", data := .seq items.toList.reverse.toArray } }) : wpAny (model prog w) A (getItem (.ref t) (.ref sl)) Q E s := by
  have ok : sizeOk (.seq items.toList.reverse.toArray) := by
    show items.toList.reverse.toArray.size ≤ sizeLine
    rw [List.size_toArray, List.length_reverse, Array.length_toList]
    exact hz
  obtain ⟨o, ho, hc, _⟩ := id hs
  have ty : s.TypeIs (.ref sl) "slice" := ⟨o, ho, hc⟩
  unfold getItem
  try with_reducible refine wpAny_holding ?_
  first | refine wpAny_bind (wpAny_pure ?_) | skip
  refine wpAny_bind (wpAny_sequenceKey ht.typeIs (by decide) ?_)
  have sl0 := PyProof.Rows.slot_tuple_getitem
  refine wpAny_bind (wpAny_callSpecial?_slot (name := Str.ofString "__getitem__") ht.typeIs sl0 (wpAny_call_entry sl0 ht.typeIs entry_tuple_getitem ?_ (args_tuple_getitem _ _)))
  show wpAny _ _ (Builtin.Tuple.tupleItemsOf (.ref t) >>= _) _ _ s
  refine wpAny_bind (tupleItemsOf_ ht (wpAny_bind (wpAny_typeOf ty ?_)))
  rw [if_pos (by decide)]
  refine wpAny_bind (back_applied hs ?_)
  have no : ¬ (((items.size : Int) - 1 == 0 && (-1 : Int) == 1 && items.size == items.size) = true) := by simp
  show wpAny _ _ (if ((items.size : Int) - 1 == 0 && (-1 : Int) == 1 && items.size == items.size) = true then _ else _) _ _ s
  rw [if_neg no, back_pick]
  first
    | exact wpAny_bind (m := Builtin.Tuple.tupleExact _) (wpAny_newObj_type (wpAny_pure ⟨_, rfl, wpAny_pure h⟩) ok)
    | exact wpAny_bind (m := Builtin.Tuple.tupleExact _) (wpAny_newObj_type (wpAny_bind (wpAny_pure (wpAny_pure ⟨_, rfl, wpAny_pure h⟩))) ok)
    | exact wpAny_bind (wpAny_bind (m := Builtin.Tuple.tupleExact _) (wpAny_newObj_type (wpAny_pure (wpAny_pure ⟨_, rfl, wpAny_pure h⟩)) ok))
    | exact wpAny_bind (wpAny_bind (m := Builtin.Tuple.tupleExact _) (wpAny_newObj_type (wpAny_pure ⟨_, rfl, wpAny_pure h⟩) ok))
end
/-- t[::-1] -/
theorem pe_back {X : Cx} {x : Expr} {te : TE} {j : Nat} {p p1 p2 p3 : Pos} (he : PE X x te) :
    PE X (.Subscript x (.Slice none none (some (.UnaryOp .USub (.Constant (.int 1) j p1) p2)) p3) p) (fun σ H Q => te σ H fun v H1 => ∃ a xs, v = .ref a ∧ SqT X.K H1 a xs ∧ ∀ q, H1 q = none → Q (.ref q) (upd H1 q (.tup xs.reverse))) := by
  refine ⟨fun pins s σ H Q I h => ?_⟩
  refine Subscript_ (thn (he.run pins s σ H _ I h) fun v s1 ⟨y, H1, I1, r1, q1⟩ => ?_)
  obtain ⟨a, xs, rfl, hT, q⟩ := q1
  cases r1
  refine wpAny_Slice ?_
  rw [evalPart_none]
  refine wpAny_pure (wpAny_pure ?_)
  have P := po_some (X := X) (L2.pe_un (X := X) (pos := p2) un_neg (pe_int (X := X) (i := 1) (j := j) (pos := p1)))
  refine thn (P.run pins s1 σ H1 (fun o H2 => o = some (-1) ∧ H2 = H1) I1 ?_) fun vk s2 ⟨o, H2, I2, pk, q2, q3⟩ => ?_
  · exact ⟨1, rfl, -1, rfl, rfl, rfl⟩
  subst q2 q3
  cases pk with
  | int i tk =>
    have I4 : Inv X pins σ H2 { s2 with heap := s2.heap.push { cls := .type "slice", data := .fields #[.none, .none, .int (-1) tk] } } := I2.kept (t' := s2.toks) fun b ob q => Heap.get?_push_of_some _ q
    obtain ⟨its, r, ht, hz⟩ := I4.tuple hT
    have hl : its.toArray.size = xs.length := by rw [List.size_toArray]; exact r.length.symm
    refine tail_any (ops := [.ref a, .ref s2.heap.objs.size]) ht.typeIs PyProof.Rows.slot_tuple_getitem.lookup ?_ (by with_unfolding_all rfl)
    refine back_getItem ht (Heap.IsSliceOf.new ..) (by rw [hl]; exact hz) ?_
    refine ⟨.ref _, _, I4.laid (t' := s2.toks) (o := .tup xs.reverse) (fun b ob q => Heap.get?_push_of_some _ q) (Nat.le_refl _) ?_, rfl, q _ (I4.hok.fresh (Nat.le_refl _))⟩
    exact ⟨by rw [List.length_reverse]; exact hz, _, r.reverse, IsTup.new _ _⟩
section
variable {C : Ctx} {k : Nat} {X : Cx} {W : Nat → Hp → Prop} (g : Good C k X W)
include g
theorem x_rev {a : E} {x y : Expr} {p : Pos} (hy : isBack y = true) (ha : PE X x (yI C k X W a)) : PE X (.Subscript x y p) (yI C k X W (.rev a)) := by
  unfold isBack at hy
  split at hy
  case h_2 => cases hy
  obtain rfl := of_decide_eq_true hy
  refine (pe_back ha).imp fun σ H Q h => ?_
  obtain ⟨m, env, S, ok, re, h⟩ := h
  simp only [ev] at h
  refine tI_bind ok re h fun d S1 v H1 m1 e1 o1 re1 r1 h => ?_
  cases d with
  | tup ds =>
    simp only [RD] at r1
    obtain ⟨b, vs, rfl, e5, e6, hlen⟩ := r1
    refine ⟨b, vs, rfl, e5, fun q hq => ?_⟩
    exact new_tup o1 e6.reverse (by rw [List.length_reverse]; exact hlen) (fun v H' e' o' r' => h H' m1 e' o' v r') hq
  | _ => exact h.elim
omit g in
/-- three texts under three texts -/
theorem x_newS {a b c d e f : List Nat} {ks : List (Option Expr)} {vs : List Expr} {p : Pos} (h : trS a b c d e f ks vs = true) : PE X (.Dict ks vs p) (yI C k X W (.newS a b c d e f)) := by
  unfold trS at h
  split at h
  case h_2 => cases h
  simp only [Bool.and_eq_true] at h
  obtain ⟨⟨⟨⟨⟨hx, hu⟩, hy⟩, hv⟩, hz⟩, hw⟩ := h
  obtain rfl := strB_ok hx
  obtain rfl := strB_ok hu
  obtain rfl := strB_ok hy
  obtain rfl := strB_ok hv
  obtain rfl := strB_ok hz
  obtain rfl := strB_ok hw
  refine (pe_disp (pps_cons pe_str pe_str (pps_cons pe_str pe_str (pps_cons pe_str pe_str pps_nil))) rfl rfl (by simp) (by show 3 ≤ 15; decide)).imp fun σ H Q h => ?_
  obtain ⟨m, env, S, ok, re, h⟩ := h
  simp only [ev] at h
  intro q hq
  by_cases hne : a = c ∨ a = e ∨ c = e
  · rw [if_pos hne] at h; exact h.elim
  rw [if_neg hne] at h
  simp only [not_or] at hne
  have hq0 : q ∉ m.ix := ok.fresh hq
  obtain ⟨f1, f2, f3⟩ := mu_fill (K := X.K) (u := .dK [(keyV (.s a), .str ⟨b.toArray⟩), (keyV (.s c), .str ⟨d.toArray⟩), (keyV (.s e), .str ⟨f.toArray⟩)]) hq (Ext.refl (upd H q (.dK [])) m) upd_same (fun _ z => by cases z) (fun _ _ z => by cases z) (fun _ z => by cases z) hq0 .dK
  have ok0 : OkS X.K (upd H q (.dK [])) m S := ok.beside hq
  have kne : ∀ {l l' : List Nat}, ¬ l = l' → ¬ keyV (.s l) = keyV (.s l') := fun {l l'} hn z => by
    simp only [keyV, Sum.inr.injEq, Str.mk.injEq] at z
    exact hn (by simpa using z)
  refine ⟨upd_same, [(keyV (.s a), .str ⟨b.toArray⟩), (keyV (.s c), .str ⟨d.toArray⟩), (keyV (.s e), .str ⟨f.toArray⟩)], rfl, by show 3 ≤ 15; decide, ?_⟩
  have hmg : mergeK [] [(keyV (.s a), V.str ⟨b.toArray⟩), (keyV (.s c), V.str ⟨d.toArray⟩), (keyV (.s e), V.str ⟨f.toArray⟩)] = [(keyV (.s a), V.str ⟨b.toArray⟩), (keyV (.s c), V.str ⟨d.toArray⟩), (keyV (.s e), V.str ⟨f.toArray⟩)] := by
    simp [mergeK, putK, kne hne.1, kne hne.2.1, kne hne.2.2]
  rw [hmg]
  refine h _ (m.add q) f3 (ok0.addAt f1 f2 (fun aa haa => upd_ne fun zz => f1 (zz ▸ haa)) (fun aa haa => ?_) (f3.tab ok.tabs) ⟨_, upd_same, ⟨.str ⟨b.toArray⟩, _, rfl, by simp only [RD], .str ⟨d.toArray⟩, _, rfl, by simp only [RD], .str ⟨f.toArray⟩, [], rfl, by simp only [RD], rfl⟩, by show 3 ≤ lim; decide⟩) _ ?_
  · by_cases hap : aa = q
    · rw [hap, upd_same]; rfl
    · rw [upd_ne hap]; exact ok0.hd aa haa
  · simp only [RD]
    exact ⟨q, by show (m.ix ++ [q])[_]? = _; rw [← ok.len, List.getElem?_append_right (Nat.le_refl _)]; simp, rfl⟩
end
end G11

/-! Rs: calls by keywords, defs as values, _law_result(lambda: ..), a list of the store and a list -/
namespace G11
open PySem PySem.Spec PyProof.Rows L2
variable [Fns]

theorem evs_len {Γ : Nat → List D → M D} {G : List D} {env : EnvD} : ∀ {es : Es} {S S' : Store} {ds : List D}, evs Γ G es env S = .ok ds S' → ds.length = esN es
  | .nil, S, S', ds, h => by
    simp only [evs, R.ok.injEq] at h
    rw [← h.1]; rfl
  | .cons e es, S, S', ds, h => by
    simp only [evs, M.bind] at h
    split at h
    · rename_i d S1 _
      split at h
      · rename_i ds2 S2 q
        simp only [M.pure, R.ok.injEq] at h
        rw [← h.1, List.length_cons, evs_len q]; rfl
      · cases h
      · cases h
    · cases h
    · cases h
/-! ### keywords -/
def AllE (C : Ctx) (k : Nat) (X : Cx) (W : Nat → Hp → Prop) : Es → List Expr → Prop
  | .nil, [] => True
  | .cons e es, x :: xs => PE X x (yI C k X W e) ∧ AllE C k X W es xs
  | _, _ => False
section
variable {C : Ctx} {k : Nat} {X : Cx} {W : Nat → Hp → Prop}
theorem pk_all : ∀ {es : Es} {kws : List Keyword}, AllE C k X W es (kwVs kws) → PK X kws (yIs C k X W es)
  | .nil, [], _ => by
    refine ⟨fun pos pins s σ H Q I h => (pk_nil (X := X)).run pos pins s σ H Q I ?_⟩
    obtain ⟨m, env, S, ok, re, h⟩ := h
    simp only [evs] at h
    exact h H m (Ext.refl _ _) ok [] (by simp only [RDs])
  | .nil, _ :: _, h => by simp [kwVs, AllE] at h
  | .cons _ _, [], h => by simp [kwVs, AllE] at h
  | .cons e es, ⟨nm, v, kp⟩ :: kws, h => by
    have h : PE X v (yI C k X W e) ∧ AllE C k X W es (kwVs kws) := h
    refine ⟨fun pos pins s σ H Q I h' => (pk_cons (nm := nm) (kpos := kp) h.1 (pk_all h.2)).run pos pins s σ H Q I ?_⟩
    obtain ⟨m, env, S, ok, re, h'⟩ := h'
    simp only [evs] at h'
    refine tI_bind ok re h' fun d S1 v H1 m1 e1 o1 re1 r1 h' => ?_
    refine tIs_bind o1 re1 h' fun ds S2 vs H2 m2 e2 o2 re2 r2 h' => ?_
    refine h' H2 m2 (Ext.refl _ _) o2 (v :: vs) ?_
    simp only [RDs]
    exact ⟨v, vs, rfl, r1.mono e2, r2⟩
theorem kw_all {kws : List Keyword} {env : Env} {pos : Pos} (h : kwAll kws = true) : (backToKw pos (keywordEach kws env)).all (·.1.isSome) = true := by
  induction kws with
  | nil => rfl
  | cons a r ih =>
    obtain ⟨nm, v, p⟩ := a
    unfold kwAll at h ih
    simp only [List.all_cons, Bool.and_eq_true] at h
    simp only [keywordEach, backToKw, List.map_cons, List.all_cons, Bool.and_eq_true]
    exact ⟨h.1.1, ih h.2⟩
theorem kw_names {kws : List Keyword} {env : Env} {pos : Pos} (h : kwAll kws = true) : (backToKw pos (keywordEach kws env)).filterMap (·.1) = kwNs kws := by
  induction kws with
  | nil => rfl
  | cons a r ih =>
    obtain ⟨nm, v, p⟩ := a
    unfold kwAll at h ih
    simp only [List.all_cons, Bool.and_eq_true] at h
    obtain ⟨x, rfl⟩ := Option.isSome_iff_exists.mp h.1.1
    have z := ih h.2
    unfold backToKw at z
    simp only [keywordEach, backToKw, List.map_cons, List.filterMap_cons]
    rw [z]
    rfl
theorem kw_none {kws : List Keyword} {env : Env} {pos : Pos} (h : kwAll kws = true) : (backToKw pos (keywordEach kws env)).any (·.1.isNone) = false := by
  induction kws with
  | nil => rfl
  | cons a r ih =>
    obtain ⟨nm, v, p⟩ := a
    unfold kwAll at h ih
    simp only [List.all_cons, Bool.and_eq_true] at h
    obtain ⟨x, rfl⟩ := Option.isSome_iff_exists.mp h.1.1
    have z := ih h.2
    unfold backToKw at z
    simp only [keywordEach, backToKw, List.map_cons, List.any_cons]
    rw [z]
    rfl
/-- f(k = v, ..) -/
theorem pe_callN0 {CX : CXT} {f : Addr} {fd : FuncData} {ps ks : List Str} {sp : Sp} {E : XK} {x : Str} {p pos : Pos} {kws : List Keyword} {tk : TA} {g : List Value → List Value → List Value} {gV : List V → List V → List V}
    (F : FnOk X.prog X.w X.K X.mg X.base CX k f fd ps sp) (hr : Room k X.A) (hg : Gl X x) (hm : X.mg x = some (.ref f)) (hk : PySem.W.keepIn X.K (.ref f) = true) (hb : KBn X.K fd ps 0 ks g gV) (hx : Passes CX X E)
    (hkw : PK X kws tk) (hall : (backToKw pos (keywordEach kws X.env)).all (·.1.isSome) = true) (hks : (backToKw pos (keywordEach kws X.env)).filterMap (·.1) = ks) (hno : (backToKw pos (keywordEach kws X.env)).any (·.1.isNone) = false)
    (hdb : (x == ("__debug__" : Str)) = false) : PE X (.Call (.Name x p) [] kws pos) (fun σ H Q => tk σ H fun zs H2 => zs.length = ks.length ∧ sp (gV [] zs) H2 Q E) := by
  refine ⟨fun pins s σ H Q I h => ?_⟩
  refine wpAny_Call_Name_kw (ld_glob I hg hm ?_ hdb)
  refine PySem.W.callWith_KW0 (h₀ := X.base) I.ok.mod.kin hk hall ?_ (by rw [hno]; rfl)
  refine thn (hkw.run pos pins s σ H _ I h) fun ws s2 ⟨zs, H2, I2, rz, l2, q2⟩ => ⟨I2.kIn, ?_⟩
  rw [hks]
  exact run_fnN F hr hb hx I2 .nil rz rfl l2 q2
end
section
variable {C : Ctx} {k : Nat} {X : Cx} {W : Nat → Hp → Prop}
theorem x_callK (g : Good C k X W) {f : Nat} {es ks : Es} {x : Str} {xs : List Expr} {kws : List Keyword} {p p' : Pos} (hF : C.F[f]? = some x) (hg : Gl X x) (hn : nmOk x = true) (ha : PA X xs (yIs C k X W es)) (hes : esN es = xs.length) (hp : xs.all plainX = true)
    (hk : AllE C k X W ks (kwVs kws)) (hks : esN ks = kws.length) (hall : kwAll kws = true) (hc : C.Gn.kw.contains (f, xs.length, kwNs kws) = true) : PE X (.Call (.Name x p) xs kws p') (yI C k X W (.callK f es ks)) := by
  obtain ⟨fn, hT⟩ := fn_of_name g hF hn
  obtain ⟨fa, fd, ps, hps, hm, hkp, ⟨_, hb⟩, F⟩ := g.tab k (Nat.le_refl k) f fn x hT hF hn
  have hb := hb _ _ hc
  have rd : ∀ σ H Q, yI C k X W (.callK f es ks) σ H Q → tCallN xs.length (kwNs kws).length (spI X.K C k f fn.pars) (fun vs zs => vs ++ zs) (wk C.cl W) (yIs C k X W es) (yIs C k X W ks) σ H Q := by
    intro σ H Q h
    obtain ⟨m, env, S, ok, re, h⟩ := h
    simp only [ev] at h
    refine ⟨m, env, S, ok, re, ?_⟩
    simp only [M.bind] at h
    cases q1 : evs (callI C.T C.G k) C.G es env S with
    | bad => rw [q1] at h; exact h
    | exc c S' => rw [q1] at h; exact h
    | ok ds S1 =>
      rw [q1] at h
      simp only at h
      intro H1 m1 e1 o1 vs r1
      refine ⟨m1, env, S1, o1, re.mono e1, ?_⟩
      cases q2 : evs (callI C.T C.G k) C.G ks env S1 with
      | bad => rw [q2] at h; exact h.elim
      | exc c S' => rw [q2] at h; exact Af.shift e1 h
      | ok cs S2 =>
        rw [q2] at h
        simp only at h
        intro H2 m2 e2 o2 zs r2
        have l1 := (evs_len q1).trans hes
        have l2 := (evs_len q2).trans hks
        refine ⟨by rw [r1.length, l1], by rw [r2.length, l2]; unfold kwNs; rw [List.length_map], ?_, m2, S2, ds ++ cs, o2, (r1.mono e2).append r2, (Af.shift (e1.trans e2) h).impW fun c H' w a ha => ⟨c, a, ha, rfl, rfl, w⟩⟩
        rw [List.length_append, r1.length, r2.length, ← List.length_append]
        exact callI_len hT fun z => by rw [z] at h; exact h
  cases xs with
  | nil =>
    refine (pe_callN0 F g.room hg hm hkp hb (passW g) (pk_all hk) (kw_all hall) (kw_names hall) (kw_none hall) (nmOk_ok hn).1).imp fun σ H Q h => ?_
    obtain ⟨m, env, S, ok, re, q⟩ := rd σ H Q h
    cases es with
    | nil =>
      simp only [evs] at q
      have z := q H m (Ext.refl _ _) ok [] (by simp only [RDs])
      obtain ⟨m2, env2, S2, ok2, re2, z⟩ := z
      refine ⟨m2, env2, S2, ok2, re2, ?_⟩
      revert z
      cases evs (callI C.T C.G k) C.G ks env2 S2 with
      | bad => exact id
      | exc c S' => exact id
      | ok cs S' => exact fun z H' m' e' o' vs r => (z H' m' e' o' vs r).2
    | cons e r => cases hes
  | cons y ys =>
    simp only [List.all_cons, Bool.and_eq_true] at hp
    refine (pe_callN F g.room hg hm hkp hb (passW g) ha (pk_all hk) (kw_all hall) (kw_names hall) (nmOk_ok hn).1 (star_cons hp.1) (by rw [kw_none hall, Bool.or_false]; exact star_back (by rw [List.all_cons, hp.1, hp.2]; rfl))).imp fun σ H Q h => rd σ H Q h
/-! ### defs as values -/
theorem x_fnv (g : Good C k X W) {f : Nat} {x : Str} {p : Pos} (hf : C.Gn.fns = true) (hF : C.F[f]? = some x) (hg : Gl X x) (hn : nmOk x = true) : PE X (.Name x p) (yI C k X W (.fnv f)) := by
  obtain ⟨a, h1, h2⟩ := g.stat.fns hf f x hF hn
  refine (pe_glob (v := .ref a) hg h2 rfl (nmOk_ok hn).1).imp fun σ H Q h => ?_
  obtain ⟨m, env, S, ok, re, h⟩ := h
  simp only [ev] at h
  exact h H m (Ext.refl _ _) ok _ (by simp only [RD]; exact ⟨a, h1, rfl⟩)
/-- the call of a def that a slot holds -/
theorem x_callV (g : Good C k X W) {i : Nat} {es : Es} {x : Str} {y : Expr} {ys : List Expr} {p p' : Pos} (h1 : X.N[i]? = some x) (h2 : Vis X.env.scope x) (hn : nmOk x = true) (ha : PA X (y :: ys) (yIs C k X W es)) (hp : (y :: ys).all plainX = true) :
    PE X (.Call (.Name x p) (y :: ys) [] p') (yI C k X W (.callV 0 i es)) := by
  refine ⟨fun pins s σ H Q I h => ?_⟩
  obtain ⟨m, env, S, ok, re, h⟩ := h
  simp only [ev] at h
  split at h
  case h_2 => exact h.elim
  rename_i f hf
  obtain ⟨v, q1, q2⟩ := re.2 i _ hf
  simp only [RD] at q2
  obtain ⟨a, q2, rfl⟩ := q2
  obtain ⟨fn, z, hT, hF, hz, hm⟩ := g.stat.fnc f a q2
  obtain ⟨fa, fd, ps, hps, hm2, hk, ⟨hb, _⟩, F⟩ := g.tab k (Nat.le_refl k) f fn z hT hF hz
  rw [hm] at hm2
  cases hm2
  simp only [List.all_cons, Bool.and_eq_true] at hp
  refine (pe_callL (p := p) (pos := p') F g.room h1 h2 hk hb .nil (passW g) ha (nmOk_ok hn).1 (nmOk_ok hn).2.1 (star_cons hp.1) (star_back hp.2)).run pins s σ H Q I ⟨q1, ?_⟩
  have h' : Af X.K m H W (PV X.K Q) (ev (callI C.T C.G k) C.G (.call f es) env S) := by
    simp only [ev]
    rw [Nat.zero_add] at h
    exact h
  exact r_call hT ⟨m, env, S, ok, re, h'⟩
/-! ### a list of the store and a list -/
theorem x_cat (g : Good C k X W) {a b : E} {x y : Expr} {p : Pos} (ha : PE X x (yI C k X W a)) (hb : PE X y (yI C k X W b)) : PE X (.BinOp x .Add y p) (yI C k X W (.cat a b)) := by
  refine (pe_op op_cat ha hb).imp fun σ H Q h => ?_
  obtain ⟨m, env, S, ok, re, h⟩ := h
  simp only [ev] at h
  refine tI_bind ok re h fun d S1 v H1 m1 e1 o1 re1 r1 h => ?_
  refine tI_bind o1 re1 h fun d' S2 v' H2 m2 e2 o2 re2 r2 h => ?_
  have r1 := r1.mono e2
  unfold doCat at h
  split at h
  case h_2 => exact h.elim
  rename_i i ys
  obtain ⟨ad, had, rfl⟩ := OkS.refD r1
  obtain ⟨ob, hob, hO⟩ := o2.free had
  simp only [hob] at h
  split at h
  case h_2 => exact h.elim
  rename_i xs hx
  cases hx
  obtain ⟨vs, z1, z2, z3⟩ := hO
  simp only [RD] at r2
  obtain ⟨b, us, rfl, z4, _, z5, _⟩ := r2
  split at h
  case isFalse => exact h.elim
  rename_i hz
  have l1 := z2.length
  have l2 := z5.length
  exact ⟨ad, b, vs, us, rfl, rfl, z1, z4, by rw [l1, l2]; exact Nat.le_trans hz lim_le, fun p hp => new_lst o2 (z2.append z5) (by rw [List.length_append]; exact hz) (fun v H' e' o' r' => h H' m2 e' o' v r') hp⟩
end
end G11

/-! Rs2: _law_result(lambda: ..) -/
namespace G11
open PySem PySem.Spec PyProof.Rows L2
variable [Fns]

/-- more is known, nothing is lost -/
theorem ext_up {H H' : Hp} {m : Ms} (k : ∀ b o, H b = some o → H' b = some o) : Ext H m H' m := by
  refine ⟨fun a o h _ _ => k a o h, fun a xs h => k a _ h, fun a o u h => k a _ h, ⟨[], by simp, fun _ z => by cases z⟩, fun _ z => z, fun _ z => .inl z, fun a h => ?_, fun t p hp => tab_keep (fun a o e => .inl (k a o e)) (t p hp)⟩
  obtain ⟨o, q⟩ := Option.isSome_iff_exists.mp h
  rw [k a o q]; rfl
theorem OkS.up {K : PySem.W.Frag} {H H' : Hp} {m : Ms} {S : Store} (ok : OkS K H m S) (k : ∀ b o, H b = some o → H' b = some o) : OkS K H' m S := by
  refine ok.mono (ext_up k) fun a ha => ?_
  obtain ⟨i, hi⟩ := List.mem_iff_getElem?.mp ha
  obtain ⟨o, _, q⟩ := ok.free hi
  obtain ⟨u, q2⟩ := Option.isSome_iff_exists.mp q.some
  rw [q2, k a u q2]
theorem LamX.TabS.at_ {H : Hp} {P : Addr} {q : Str} (t : LamX.TabS H P q) : ∃ ps, H P = some (.tbl ps) := let ⟨ps, h, _⟩ := t; ⟨ps, h⟩
/-- the lambda is made -/
theorem ext_lam {K : PySem.W.Frag} {H H1 : Hp} {m : Ms} {S : Store} {P : Addr} {q : Str} (ok : OkS K H m S) (hm : (P, q) ∈ Fns.tabs) (hu : ∀ p ∈ Fns.tabs, p.1 = P → p.2 = q) (h : LamTo H P q H1) : Ext H m H1 m ∧ OkS K H1 m S := by
  have tP := ok.tabs _ hm
  obtain ⟨ps0, hP⟩ := LamX.TabS.at_ tP
  rcases h with rfl | ⟨ps, c, rfl, hc, hcP, t1⟩
  · exact ⟨Ext.refl _ _, ok⟩
  have k : ∀ b o, H b = some o → (∀ ps, o ≠ .tbl ps) → upd (upd H P (.tbl ps)) c (LamX.CodeO c q) b = some o := fun b o e n => by
    have n1 : b ≠ P := fun z => by rw [z, hP] at e; exact n _ (Option.some.inj e).symm
    rw [upd_ne (ne_of_none e hc), upd_ne n1]; exact e
  have old : ∀ b, (H b).isSome → (upd (upd H P (.tbl ps)) c (LamX.CodeO c q) b).isSome := fun b e => by
    by_cases hb : b = c
    · rw [hb, upd_same]; rfl
    · rw [upd_ne hb]
      by_cases hb2 : b = P
      · rw [hb2, upd_same]; rfl
      · rw [upd_ne hb2]; exact e
  have tb : LamX.Tabs Fns.tabs H → LamX.Tabs Fns.tabs (upd (upd H P (.tbl ps)) c (LamX.CodeO c q)) := fun t p hp => by
    by_cases hP' : p.1 = P
    · rw [hP', hu p hp hP']; exact t1
    · obtain ⟨ps', e1, e2, e3⟩ := t p hp
      refine ⟨ps', by rw [upd_ne (ne_of_none e1 hc), upd_ne hP']; exact e1, e2, fun pos cv hcv => ?_⟩
      obtain ⟨c0, f1, f2⟩ := e3 pos cv hcv
      exact ⟨c0, f1, k _ _ f2 (fun ps z => LamX.codeO_ne ps z)⟩
  have ex : Ext H m (upd (upd H P (.tbl ps)) c (LamX.CodeO c q)) m := ⟨fun a o h _ n => k a o h n, fun a xs h => k a _ h (fun _ z => by cases z), fun a o u h => k a _ h (fun _ z => by cases z), ⟨[], by simp, fun _ z => by cases z⟩, fun _ z => z, fun _ z => .inl z, old, tb⟩
  refine ⟨ex, ok.mono ex fun a ha => ?_⟩
  obtain ⟨i, hi⟩ := List.mem_iff_getElem?.mp ha
  obtain ⟨o, _, z⟩ := ok.free hi
  obtain ⟨u, z2⟩ := Option.isSome_iff_exists.mp z.some
  rw [z2, k a u z2 (z.noCode z2).1]

/-! ### the lambda's arguments -/
section
variable {N : List Str} {sc : Scope}
mutual
theorem sim_ev (Γ Γ' : Nat → List D → M D) (G : List D) (e : E) (x : Expr) (h : simE N sc e x = true) (env : EnvD) (S : Store) : ev Γ G e env S = ev Γ' G e env S ∧ ∀ c S', ev Γ G e env S ≠ .exc c S' := by
  unfold simE at h
  split at h
  · simp only [ev]
    refine ⟨trivial, fun c S' z => ?_⟩
    split at z <;> cases z
  · simp only [ev]
    exact ⟨trivial, fun c S' z => by cases z⟩
  · simp only [ev]
    exact ⟨trivial, fun c S' z => by cases z⟩
  · rename_i es xs _ _
    obtain ⟨h1, h2⟩ := sims_ev Γ Γ' G es xs h env S
    simp only [ev, ← h1]
    refine ⟨trivial, fun c S' z => ?_⟩
    split at z
    · split at z <;> cases z
    · rename_i q; exact h2 _ _ q
    · cases z
  · cases h
termination_by sizeOf e
theorem sims_ev (Γ Γ' : Nat → List D → M D) (G : List D) (es : Es) (xs : List Expr) (h : simEs N sc es xs = true) (env : EnvD) (S : Store) : evs Γ G es env S = evs Γ' G es env S ∧ ∀ c S', evs Γ G es env S ≠ .exc c S' := by
  unfold simEs at h
  split at h
  · simp only [evs]
    exact ⟨trivial, fun c S' z => by cases z⟩
  · rename_i e es x xs
    simp only [Bool.and_eq_true] at h
    obtain ⟨h1, h2⟩ := sim_ev Γ Γ' G e x h.1 env S
    simp only [evs, M.bind, ← h1]
    cases q : ev Γ G e env S with
    | bad => exact ⟨rfl, fun c S' z => by cases z⟩
    | exc c S' => exact absurd q (h2 c S')
    | ok d S1 =>
      obtain ⟨h3, h4⟩ := sims_ev Γ Γ' G es xs h.2 env S1
      simp only [← h3]
      refine ⟨trivial, fun c S' z => ?_⟩
      split at z
      · cases z
      · rename_i q2; exact h4 _ _ q2
      · cases z
  · cases h
termination_by sizeOf es
end
theorem sim_plain {e : E} {x : Expr} (h : simE N sc e x = true) : plainX x = true := by
  unfold simE at h
  split at h <;> first | rfl | cases h
theorem sims_plain : ∀ {es : Es} {xs : List Expr}, simEs N sc es xs = true → xs.all plainX = true ∧ esN es = xs.length
  | .nil, [], _ => ⟨rfl, rfl⟩
  | .nil, _ :: _, h => by simp [simEs] at h
  | .cons _ _, [], h => by simp [simEs] at h
  | .cons e es, x :: xs, h => by
    simp only [simEs, Bool.and_eq_true] at h
    obtain ⟨a, b⟩ := sims_plain h.2
    exact ⟨by rw [List.all_cons, sim_plain h.1, a]; rfl, by show esN es + 1 = xs.length + 1; rw [b]⟩
end
section
variable {C : Ctx} {k : Nat} {Y : Cx} {W : Nat → Hp → Prop}
mutual
theorem sim_pe (g : Good C k Y W) (e : E) (x : Expr) (h : simE Y.N Y.env.scope e x = true) : PE Y x (yI C k Y W e) := by
  unfold simE at h
  split at h
  · simp only [Bool.and_eq_true, decide_eq_true_eq] at h
    exact x_var g h.1.1 (visB_ok h.1.2) h.2
  · exact x_const (d := .non) (v := .non) (fun _ _ => by simp only [ev]) (fun _ _ => by simp only [RD]) pe_non
  · rename_i i _ _ _
    obtain rfl := of_decide_eq_true h
    exact x_const (d := .int i) (v := .int i) (fun _ _ => by simp only [ev]) (fun _ _ => by simp only [RD]) pe_int
  · rename_i es xs _ _
    exact x_tup (sims_pe g es xs h).1
  · cases h
termination_by sizeOf e
theorem sims_pe (g : Good C k Y W) (es : Es) (xs : List Expr) (h : simEs Y.N Y.env.scope es xs = true) : PA Y xs (yIs C k Y W es) ∧ AllE C k Y W es xs := by
  unfold simEs at h
  split at h
  · exact ⟨xs_nil, trivial⟩
  · rename_i e es x xs
    simp only [Bool.and_eq_true] at h
    obtain ⟨a, b⟩ := sims_pe g es xs h.2
    have c := sim_pe g e x h.1
    exact ⟨xs_cons c a (sim_plain h.1), c, b⟩
  · cases h
termination_by sizeOf es
end
end

/-! ### the call -/
theorem glB_ok {X : Cx} {x : Str} (h : glB X.env.scope x = true) : Gl X x := of_decide_eq_true (p := X.env.scope.names.lookup x = some .globalImplicit) h
theorem noPar_ok {a : Arguments} (h : noPar a = true) : a = ⟨[], [], none, [], [], none, []⟩ := by
  unfold noPar at h
  split at h
  · rfl
  · cases h
theorem word_at {c : Nat} {w : List Nat} (h : wordC c = some w) : 1 ≤ c ∧ c ≤ 12 ∧ cWords.getD (c - 1) "" = ⟨w.toArray⟩ := by
  unfold wordC at h
  split at h <;> first | (cases h; exact ⟨by decide, by decide, by decide +kernel⟩) | cases h
section
variable {C : Ctx} {k : Nat} {X : Cx} {W : Nat → Hp → Prop}
theorem x_resG (g : Good C (k + 2) X W) (hl : C.Gn.lam = true) {oe ie : E} {params : Arguments} {body : Expr} {scope : Scope} {p lp p' : Pos} (hg : Gl X "_law_result") (hp : noPar params = true) (L : LamX.LamS X.env.scope scope)
    (hsem : ∀ env S, ev (callI C.T C.G (k + 2)) C.G oe env S = resOf (ev (callI C.T C.G k) C.G ie env S))
    (hbody : ∀ (Y : Cx) (W' : Nat → Hp → Prop), Good (C.lm false) k Y W' → Y.N = X.N → Y.env.scope = scope → Y.K = X.K → PE Y body (yI C k Y W' ie)) :
    PE X (.Call (.Name "_law_result" p) [.Lambda params body scope lp] [] p') (yI C (k + 2) X W oe) := by
  obtain ⟨c, P, hcode, TB, hmem, huniq⟩ := g.lam hl
  obtain ⟨ga, R, cs, pg, bg, sg, dV, kV, doc, pm, cdv, ct, oc, an, od, osl, e1, e2, e3, e4, e5, e6, e7, e8, e9⟩ := g.stat.res hl
  obtain rfl := noPar_ok hp
  have hu : X.A.units + 80 < cLine := by have := g.room.un; omega
  have hG := res_gives (X := X) (x := "_law_result") (q := X.env.qual ++ "<lambda>") (g := ga) (cdg := cdv) e7 e8 hu
  refine (pe_lamcall3 (k := k) (p := p) (lpos := lp) (pos := p') (t := fun E => tI X.K (callI C.T C.G k) C.G (fun c H' => ∀ a, C.cl[c]? = some a → E (.ref a) none H') ie) hg e1 e2 e3 e4 e5 e6 rfl (.inl (e8.loc _ (by simp))) hG TB hcode g.room L rfl (fun _ _ _ _ _ => rfl) (fun A outer s H E f c' hr => ?_) (by decide) (by decide) (by decide)).imp fun σ H Q h => ?_
  · refine hbody (LamX.lamCx X A outer s H E scope f c') _ ⟨rfl, g.nd, hr, ?_, fun j hj => g.tab j (by omega), g.stat.lm (fun z => by cases z), fun z => by cases z⟩ rfl rfl rfl
    refine (takes_of (E := E) rfl rfl rfl rfl).imp fun cls d σ H' hw => ?_
    obtain ⟨c, a, q1, rfl, rfl, q2⟩ := hw
    exact q2 a q1
  · obtain ⟨m, env, S, ok, re, h⟩ := h
    rw [hsem] at h
    refine ⟨ok.tabs _ hmem, fun H1 hto p0 hp0 => ?_⟩
    obtain ⟨x1, o1⟩ := ext_lam ok hmem huniq hto
    have x2 : Ext H m (upd H1 p0 (.tup [.non, .non])) m := x1.trans (Ext.new hp0)
    refine ⟨m, env, S, o1.beside hp0, re.mono x2, ?_⟩
    cases q : ev (callI C.T C.G k) C.G ie env S with
    | bad => rw [q] at h; exact h
    | ok d S' =>
      rw [q] at h
      intro H' m' e' o' v r p hp
      refine h _ m' ((x2.trans e').trans (Ext.new hp)) (o'.beside hp) _ ?_
      simp only [RD]
      refine ⟨p, _, rfl, .inl (.inl upd_same), ?_, by show 2 ≤ lim; decide⟩
      simp only [RDs]
      exact ⟨_, _, rfl, by simp only [RD]; rfl, _, [], rfl, r.mono (Ext.new hp), rfl⟩
    | exc c S' =>
      rw [q] at h
      simp only [resOf] at h
      cases qw : wordC c with
      | none => rw [qw] at h; exact h.elim
      | some w =>
        rw [qw] at h
        obtain ⟨w1, w2, w3⟩ := word_at qw
        intro H' m' e' o' a ha
        refine ⟨rfl, c - 1, a, ?_, rfl, fun H2 p hk hp hp2 => ?_⟩
        · rw [e9] at ha
          obtain ⟨j, rfl⟩ : ∃ j, c = j + 1 := ⟨c - 1, by omega⟩
          simpa using ha
        · refine h H2 m' ((x2.trans e').trans (ext_up hk)) (o'.up hk) _ ?_
          simp only [RD]
          refine ⟨p, _, rfl, .inl (.inl hp2), ?_, by show 1 ≤ lim; decide⟩
          simp only [RDs]
          exact ⟨_, [], rfl, by simp only [RD]; rw [w3], rfl⟩
theorem big_none {K : PySem.W.Frag} {mg : Str → Option Value} (st : Stat C K mg) {f : Nat} (h : resN ≤ f) : C.T f = none := by
  cases q : C.T f with
  | none => rfl
  | some fn => have := st.big f fn q; omega
theorem callI_low {K : PySem.W.Frag} {mg : Str → Option Value} (st : Stat C K mg) {f : Nat} (h : resN ≤ f) {j : Nat} (hj : j < 2) (ds : List D) (S : Store) : callI C.T C.G j f ds S = .bad := by
  match j, hj with
  | 0, _ => simp only [callI]
  | 1, _ => simp only [callI, big_none st h]
theorem callI_hi {K : PySem.W.Frag} {mg : Str → Option Value} (st : Stat C K mg) {f : Nat} (h : resN ≤ f) (j : Nat) (ds : List D) (S : Store) : callI C.T C.G (j + 2) f ds S = resOf (callI C.T C.G j (f - resN) ds S) := by
  have e : f = resN + (f - resN) := by omega
  have hb := big_none st h
  rw [e] at hb ⊢
  rw [callI_res _ _ _ _ _ _ hb, Nat.add_sub_cancel_left]
theorem pe_bad {x : Expr} {e : E} (h : ∀ env S, ev (callI C.T C.G k) C.G e env S = .bad) : PE X x (yI C k X W e) := ⟨fun pins s σ H Q I q => by
  obtain ⟨m, env, S, ok, re, q⟩ := q
  rw [h] at q
  exact q.elim⟩
theorem resOB_ok {Gn : GN} {sc : Scope} {y : Str} {zs : List Expr} {t : Scope → Str → List Expr → List Keyword → Bool} (h : resOB Gn sc y zs t = true) :
    ∃ a s lp x xs ks p1 p2, zs = [.Lambda a (.Call (.Name x p1) xs ks p2) s lp] ∧ Gn.lam = true ∧ y = "_law_result" ∧ glB sc y = true ∧ noPar a = true ∧ LamX.lamSB sc s = true ∧ t s x xs ks = true := by
  unfold resOB at h
  split at h
  · cases h
  · rename_i a b s q
    simp only [Bool.and_eq_true, decide_eq_true_eq] at h
    obtain ⟨⟨⟨⟨⟨h1, h2⟩, h3⟩, h4⟩, h5⟩, h6⟩ := h
    split at h6
    · cases h6
    · rename_i f xs ks q2
      split at h6
      · cases h6
      · rename_i x q3
        obtain ⟨lp, rfl⟩ := lamOf_ok q
        obtain ⟨p2, rfl⟩ := callOf_ok q2
        obtain ⟨p1, rfl⟩ := nameOf_ok q3
        exact ⟨a, s, lp, x, xs, ks, p1, p2, rfl, h1, h2, h3, h4, h5, h6⟩
theorem kwVs_len (l : List Keyword) : (kwVs l).length = l.length := by unfold kwVs; rw [List.length_map]
theorem x_resB (g : Good C k X W) {f : Nat} {es : Es} {y : Str} {zs : List Expr} {p p' : Pos} (h : resOB C.Gn X.env.scope y zs (resB X.N C.F C.Gn f es .nil) = true) : PE X (.Call (.Name y p) zs [] p') (yI C k X W (.call f es)) := by
  obtain ⟨a, s, lp, x, xs, ks, p1, p2, rfl, h1, rfl, h3, h4, h5, h6⟩ := resOB_ok h
  unfold resB at h6
  simp only [Bool.and_eq_true, decide_eq_true_eq, Bool.or_eq_true] at h6
  obtain ⟨⟨⟨⟨⟨⟨⟨r1, r2⟩, r3⟩, r4⟩, r5⟩, r6⟩, r7⟩, r8⟩ := h6
  have hks : ks = [] := by
    cases ks with
    | nil => rfl
    | cons _ _ => simp [kwVs, simEs] at r6
  subst hks
  have low : k < 2 → PE X (.Call (.Name "_law_result" p) [.Lambda a (.Call (.Name x p1) xs [] p2) s lp] [] p') (yI C k X W (.call f es)) := fun hk => pe_bad fun env S => by
    simp only [ev, M.bind]
    have z := (sims_ev (callI C.T C.G k) (callI C.T C.G k) C.G es xs r5 env S).2
    split
    · exact callI_low g.stat r1 hk _ _
    · rename_i c S' q; exact absurd q (z c S')
    · rfl
  match k, g, low with
  | 0, _, low => exact low (by decide)
  | 1, _, low => exact low (by decide)
  | k + 2, g, _ =>
    refine x_resG g h1 (glB_ok h3) h4 (LamX.lamS_by h5) (ie := .call (f - resN) es) (fun env S => ?_) fun Y W' gY e1 e2 e3 => ?_
    · simp only [ev, M.bind]
      obtain ⟨z1, z2⟩ := sims_ev (callI C.T C.G (k + 2)) (callI C.T C.G k) C.G es xs r5 env S
      rw [← z1]
      cases q : evs (callI C.T C.G (k + 2)) C.G es env S with
      | bad => rfl
      | exc c S' => exact absurd q (z2 c S')
      | ok ds S' => exact callI_hi g.stat r1 k ds S'
    · rw [← e1, ← e2] at r5
      rw [← e2] at r3
      obtain ⟨pa, _⟩ := sims_pe gY es xs r5
      obtain ⟨pl, en⟩ := sims_plain r5
      cases xs with
      | nil =>
        cases es with
        | nil => exact x_call0 gY r2 (glB_ok r3) r4
        | cons _ _ => cases en
      | cons y ys => exact x_call gY r2 (glB_ok r3) r4 pa pl
theorem x_resK (g : Good C k X W) {f : Nat} {es ks0 : Es} {y : Str} {zs : List Expr} {p p' : Pos} (h : resOB C.Gn X.env.scope y zs (resB X.N C.F C.Gn f es ks0) = true) : PE X (.Call (.Name y p) zs [] p') (yI C k X W (.callK f es ks0)) := by
  obtain ⟨a, s, lp, x, xs, ks, p1, p2, rfl, h1, rfl, h3, h4, h5, h6⟩ := resOB_ok h
  unfold resB at h6
  simp only [Bool.and_eq_true, decide_eq_true_eq, Bool.or_eq_true] at h6
  obtain ⟨⟨⟨⟨⟨⟨⟨r1, r2⟩, r3⟩, r4⟩, r5⟩, r6⟩, r7⟩, r8⟩ := h6
  have low : k < 2 → PE X (.Call (.Name "_law_result" p) [.Lambda a (.Call (.Name x p1) xs ks p2) s lp] [] p') (yI C k X W (.callK f es ks0)) := fun hk => pe_bad fun env S => by
    simp only [ev, M.bind]
    have z := (sims_ev (callI C.T C.G k) (callI C.T C.G k) C.G es xs r5 env S).2
    split
    · rename_i ds S1 _
      have z2 := (sims_ev (callI C.T C.G k) (callI C.T C.G k) C.G ks0 (kwVs ks) r6 env S1).2
      split
      · exact callI_low g.stat r1 hk _ _
      · rename_i c S' q; exact absurd q (z2 c S')
      · rfl
    · rename_i c S' q; exact absurd q (z c S')
    · rfl
  match k, g, low with
  | 0, _, low => exact low (by decide)
  | 1, _, low => exact low (by decide)
  | k + 2, g, _ =>
    have sem : ∀ env S, ev (callI C.T C.G (k + 2)) C.G (.callK f es ks0) env S = resOf (ev (callI C.T C.G k) C.G (.callK (f - resN) es ks0) env S) := fun env S => by
      simp only [ev, M.bind]
      obtain ⟨z1, z2⟩ := sims_ev (callI C.T C.G (k + 2)) (callI C.T C.G k) C.G es xs r5 env S
      rw [← z1]
      cases q : evs (callI C.T C.G (k + 2)) C.G es env S with
      | bad => rfl
      | exc c S' => exact absurd q (z2 c S')
      | ok ds S1 =>
        simp only
        obtain ⟨z3, z4⟩ := sims_ev (callI C.T C.G (k + 2)) (callI C.T C.G k) C.G ks0 (kwVs ks) r6 env S1
        rw [← z3]
        cases q2 : evs (callI C.T C.G (k + 2)) C.G ks0 env S1 with
        | bad => rfl
        | exc c S' => exact absurd q2 (z4 c S')
        | ok cs S2 => exact callI_hi g.stat r1 k _ S2
    by_cases hks : ks = []
    · subst hks
      refine x_resG g h1 (glB_ok h3) h4 (LamX.lamS_by h5) (ie := .call (f - resN) es) (fun env S => ?_) fun Y W' gY e1 e2 e3 => ?_
      · rw [sem]
        have hk0 : ks0 = .nil := by
          cases ks0 with
          | nil => rfl
          | cons _ _ => simp [kwVs, simEs] at r6
        subst hk0
        simp only [ev, evs, M.bind, List.append_nil]
      · rw [← e1, ← e2] at r5
        rw [← e2] at r3
        obtain ⟨pa, _⟩ := sims_pe gY es xs r5
        obtain ⟨pl, en⟩ := sims_plain r5
        cases xs with
        | nil =>
          cases es with
          | nil => exact x_call0 gY r2 (glB_ok r3) r4
          | cons _ _ => cases en
        | cons y ys => exact x_call gY r2 (glB_ok r3) r4 pa pl
    · refine x_resG g h1 (glB_ok h3) h4 (LamX.lamS_by h5) (ie := .callK (f - resN) es ks0) sem fun Y W' gY e1 e2 e3 => ?_
      rw [← e1, ← e2] at r5 r6
      rw [← e2] at r3
      obtain ⟨pa, _⟩ := sims_pe gY es xs r5
      obtain ⟨_, ka⟩ := sims_pe gY ks0 (kwVs ks) r6
      obtain ⟨pl, en⟩ := sims_plain r5
      obtain ⟨_, kn⟩ := sims_plain r6
      refine x_callK gY r2 (glB_ok r3) r4 pa en pl ka (kn.trans (kwVs_len ks)) r7 (r8.resolve_left fun z => hks (by simpa using z))
theorem x_resV (g : Good C k X W) {r i : Nat} {es : Es} {y : Str} {zs : List Expr} {p p' : Pos} (h : resOB C.Gn X.env.scope y zs (resV X.N r i es) = true) (hne : esN es ≠ 0) : PE X (.Call (.Name y p) zs [] p') (yI C k X W (.callV r i es)) := by
  obtain ⟨a, s, lp, x, xs, ks, p1, p2, rfl, h1, rfl, h3, h4, h5, h6⟩ := resOB_ok h
  unfold resV at h6
  simp only [Bool.and_eq_true, decide_eq_true_eq] at h6
  obtain ⟨⟨⟨⟨⟨r1, r2⟩, r3⟩, r4⟩, r5⟩, r6⟩ := h6
  subst r1
  have hks : ks = [] := by simpa using r6
  subst hks
  have low : k < 2 → PE X (.Call (.Name "_law_result" p) [.Lambda a (.Call (.Name x p1) xs [] p2) s lp] [] p') (yI C k X W (.callV resN i es)) := fun hk => pe_bad fun env S => by
    simp only [ev, M.bind]
    have z := (sims_ev (callI C.T C.G k) (callI C.T C.G k) C.G es xs r5 env S).2
    split
    · split
      · exact callI_low g.stat (Nat.le_add_right _ _) hk _ _
      · rename_i c S' q; exact absurd q (z c S')
      · rfl
    · rfl
  match k, g, low with
  | 0, _, low => exact low (by decide)
  | 1, _, low => exact low (by decide)
  | k + 2, g, _ =>
    refine x_resG g h1 (glB_ok h3) h4 (LamX.lamS_by h5) (ie := .callV 0 i es) (fun env S => ?_) fun Y W' gY e1 e2 e3 => ?_
    · simp only [ev, M.bind]
      obtain ⟨z1, z2⟩ := sims_ev (callI C.T C.G (k + 2)) (callI C.T C.G k) C.G es xs r5 env S
      rw [← z1]
      split
      · rename_i f _
        cases q : evs (callI C.T C.G (k + 2)) C.G es env S with
        | bad => rfl
        | exc c S' => exact absurd q (z2 c S')
        | ok ds S' =>
          have z3 := callI_hi g.stat (Nat.le_add_right resN f) k ds S'
          rw [Nat.add_sub_cancel_left] at z3
          simp only [Nat.zero_add]
          exact z3
      · rfl
    · rw [← e1, ← e2] at r5
      rw [← e2] at r3
      rw [← e1] at r2
      obtain ⟨pa, _⟩ := sims_pe gY es xs r5
      obtain ⟨pl, en⟩ := sims_plain r5
      cases xs with
      | nil => exact absurd en hne
      | cons y ys => exact x_callV gY r2 (visB_ok r3) r4 pa pl
end
end G11

/-! Snd9: every expression -/
namespace G11
open PySem PySem.Spec PyProof.Rows L2
variable [Fns]

def AllT (C : Ctx) (k : Nat) (X : Cx) (W : Nat → Hp → Prop) : Es → List Expr → Prop
  | .nil, [] => True
  | .cons e es, x :: xs => PE X x (yI C k X W e) ∧ (notIf x = true → PT X x (yT C k X W e)) ∧ AllT C k X W es xs
  | _, _ => False
theorem AllT.all {C : Ctx} {k : Nat} {X : Cx} {W : Nat → Hp → Prop} : ∀ {es : Es} {xs : List Expr}, AllT C k X W es xs → AllE C k X W es xs
  | .nil, [], _ => trivial
  | .nil, _ :: _, h => h.elim
  | .cons _ _, [], h => h.elim
  | .cons _ _, _ :: _, h => ⟨h.1, AllT.all h.2.2⟩
theorem AllT.len {C : Ctx} {k : Nat} {X : Cx} {W : Nat → Hp → Prop} : ∀ {es : Es} {xs : List Expr}, AllT C k X W es xs → esN es = xs.length
  | .nil, [], _ => rfl
  | .nil, _ :: _, h => h.elim
  | .cons _ _, [], h => h.elim
  | .cons _ es, _ :: xs, h => by show esN es + 1 = xs.length + 1; rw [AllT.len h.2.2]
section
variable {C : Ctx} {k : Nat}
theorem and_all {X : Cx} {W : Nat → Hp → Prop} (g : Good C k X W) {p : Pos} : ∀ {es : Es} {xs : List Expr}, AllT C k X W es xs → xs.isEmpty = false → xs.all notIf = true → PE X (.BoolOp .And xs p) (yI C k X W (.and es)) ∧ PW X (.BoolOp .And xs p) (yT C k X W (.and es))
  | .nil, [], _, h, _ => by cases h
  | .nil, _ :: _, h, _, _ => h.elim
  | .cons _ _, [], h, _, _ => h.elim
  | .cons e .nil, [x], h, _, hn => by
    simp only [List.all_cons, List.all_nil, Bool.and_true] at hn
    exact ⟨x_and1 h.1, t_and1 (h.2.1 hn)⟩
  | .cons e .nil, _ :: _ :: _, h, _, _ => h.2.2.elim
  | .cons e (.cons _ _), [x], h, _, _ => h.2.2.elim
  | .cons e (.cons e' es), x :: y :: r, h, _, hn => by
    simp only [List.all_cons, Bool.and_eq_true] at hn
    obtain ⟨a, b⟩ := and_all g (p := p) (es := .cons e' es) (xs := y :: r) h.2.2 rfl (by simp only [List.all_cons, Bool.and_eq_true]; exact hn.2)
    exact ⟨x_and h.1 a, t_and (h.2.1 hn.1) b⟩
theorem or_all {X : Cx} {W : Nat → Hp → Prop} (g : Good C k X W) {p : Pos} : ∀ {es : Es} {xs : List Expr}, AllT C k X W es xs → xs.isEmpty = false → xs.all notIf = true → PE X (.BoolOp .Or xs p) (yI C k X W (.or es)) ∧ PW X (.BoolOp .Or xs p) (yT C k X W (.or es))
  | .nil, [], _, h, _ => by cases h
  | .nil, _ :: _, h, _, _ => h.elim
  | .cons _ _, [], h, _, _ => h.elim
  | .cons e .nil, [x], h, _, hn => by
    simp only [List.all_cons, List.all_nil, Bool.and_true] at hn
    exact ⟨x_or1 h.1, t_or1 (h.2.1 hn)⟩
  | .cons e .nil, _ :: _ :: _, h, _, _ => h.2.2.elim
  | .cons e (.cons _ _), [x], h, _, _ => h.2.2.elim
  | .cons e (.cons e' es), x :: y :: r, h, _, hn => by
    simp only [List.all_cons, Bool.and_eq_true] at hn
    obtain ⟨a, b⟩ := or_all g (p := p) (es := .cons e' es) (xs := y :: r) h.2.2 rfl (by simp only [List.all_cons, Bool.and_eq_true]; exact hn.2)
    exact ⟨x_or h.1 a, t_or (h.2.1 hn.1) b⟩

/-- the context of a comprehension's block -/
theorem Good.blk {X : Cx} {W : Nat → Hp → Prop} (g : Good C k X W) (s : Shared) (H : Hp) (scope : Scope) (c : Addr) (cl : List (Str × Addr)) (fp : List Addr) : Good C k (X.blk s H scope (compEnvC scope cl c X.env) fp) (fun _ _ => False) := by
  refine ⟨g.calm, g.nd, g.room, fun u s' h => ?_, g.tab, g.stat, g.lam⟩
  obtain ⟨a, B, sI, pins, σ, H, cls, d, e, I, nb, up, sky, na, os, ag, w⟩ := h
  obtain ⟨_, _, _, _, _, z⟩ := w
  exact z.elim
theorem relS_local {scope sc : Scope} {x : Str} (h : scope.names.lookup x = some .local) : (relS scope sc).names.lookup x = some .local := by
  unfold relS
  have key : ∀ (names : List (Str × NameKind)), names.lookup x = some .local → (names.map fun (n, k) => if (k == .free && sc.kind == .function && sc.names.lookup n == some .cell) then (n, .cell) else (n, k)).lookup x = some .local := by
    intro names
    induction names with
    | nil => intro h; cases h
    | cons a r ih =>
      obtain ⟨n, k⟩ := a
      intro h
      rw [List.map_cons]
      cases hx : x == n with
      | true =>
        simp only [List.lookup_cons, hx] at h
        cases h
        simp [List.lookup_cons, hx]
      | false =>
        simp only [List.lookup_cons, hx] at h
        dsimp only
        split <;> simp only [List.lookup_cons, hx] <;> exact ih h
  exact key _ h
theorem own_fn {N : List Str} {scope sc : Scope} {own is : List Nat} (h : ownOk N scope own is = true) : (∀ i ∈ is, i ∈ own) ∧ ∀ i ∈ is, ∀ x, N[i]? = some x → (scope.names.lookup x == some .cell) = true ∨ (relS scope sc).names.lookup x = some .local := by
  unfold ownOk at h
  have key := List.all_eq_true.mp h
  refine ⟨fun i hi => ?_, fun i hi x hx => ?_⟩
  · have z := key i hi
    simp only [Bool.and_eq_true] at z
    simpa using z.1
  · have z := key i hi
    simp only [Bool.and_eq_true] at z
    have z := z.2
    rw [List.getD_eq_getElem?_getD, hx] at z
    simp only [Option.getD_some] at z
    split at z
    · rename_i q; exact .inr (relS_local q)
    · rename_i q; left; rw [q]; rfl
    · cases z
theorem fold_plain {it : Expr} {env : Env} (h : plainX it = true) : ∀ x, foldedSetIterable it env x = pure x := by
  intro x
  cases it <;> first | rfl | cases h
theorem notIf_plain {x : Expr} (h : tplain x = true) : True := trivial

theorem t_isN {X : Cx} {W : Nat → Hp → Prop} {a : E} {x : Expr} {j : Nat} {p p' : Pos} (h : PE X x (yI C k X W a)) : PT X (.Compare x [.Is] [.Constant .none j p'] p) (yT C k X W (.isN a)) := by
  refine t_of (pt_cmp (pc_isN h)) fun σ H Q h => ?_
  obtain ⟨m, env, S, ok, re, h⟩ := h
  simp only [ev] at h
  refine tI_bind ok re h fun d S1 v H1 m1 e1 o1 re1 r1 h => ?_
  cases d with
  | fn _ => simp only [RD] at r1; obtain ⟨_, _, z⟩ := r1; subst z; exact h H1 m1 (Ext.refl _ _) o1 _ (by simp only [RD]; rfl)
  | tup _ => simp only [RD] at r1; obtain ⟨_, _, z, _⟩ := r1; subst z; exact h H1 m1 (Ext.refl _ _) o1 _ (by simp only [RD]; rfl)
  | lst _ => simp only [RD] at r1; obtain ⟨_, _, z, _⟩ := r1; subst z; exact h H1 m1 (Ext.refl _ _) o1 _ (by simp only [RD]; rfl)
  | ref _ => simp only [RD] at r1; obtain ⟨_, _, z⟩ := r1; subst z; exact h H1 m1 (Ext.refl _ _) o1 _ (by simp only [RD]; rfl)
  | scl _ => simp only [RD] at r1; obtain ⟨_, z, _⟩ := r1; subst z; exact h H1 m1 (Ext.refl _ _) o1 _ (by simp only [RD]; rfl)
  | _ => simp only [RD] at r1; subst r1; exact h H1 m1 (Ext.refl _ _) o1 _ (by simp only [RD]; rfl)
theorem t_notN {X : Cx} {W : Nat → Hp → Prop} {a : E} {x : Expr} {j : Nat} {p p' : Pos} (h : PE X x (yI C k X W a)) : PT X (.Compare x [.IsNot] [.Constant .none j p'] p) (yT C k X W (.notN a)) := by
  refine t_of (pt_cmp (pc_notN h)) fun σ H Q h => ?_
  obtain ⟨m, env, S, ok, re, h⟩ := h
  simp only [ev] at h
  refine tI_bind ok re h fun d S1 v H1 m1 e1 o1 re1 r1 h => ?_
  cases d with
  | fn _ => simp only [RD] at r1; obtain ⟨_, _, z⟩ := r1; subst z; exact h H1 m1 (Ext.refl _ _) o1 _ (by simp only [RD]; rfl)
  | tup _ => simp only [RD] at r1; obtain ⟨_, _, z, _⟩ := r1; subst z; exact h H1 m1 (Ext.refl _ _) o1 _ (by simp only [RD]; rfl)
  | lst _ => simp only [RD] at r1; obtain ⟨_, _, z, _⟩ := r1; subst z; exact h H1 m1 (Ext.refl _ _) o1 _ (by simp only [RD]; rfl)
  | ref _ => simp only [RD] at r1; obtain ⟨_, _, z⟩ := r1; subst z; exact h H1 m1 (Ext.refl _ _) o1 _ (by simp only [RD]; rfl)
  | scl _ => simp only [RD] at r1; obtain ⟨_, z, _⟩ := r1; subst z; exact h H1 m1 (Ext.refl _ _) o1 _ (by simp only [RD]; rfl)
  | _ => simp only [RD] at r1; subst r1; exact h H1 m1 (Ext.refl _ _) o1 _ (by simp only [RD]; rfl)
structure SE (C : Ctx) (k : Nat) (n : Nat) : Prop where
  e : ∀ (e : E), sizeOf e < n → ∀ (X : Cx) (W : Nat → Hp → Prop) (x : Expr), Good C k X W → trE X.N C.F C.Gn X.env.scope e x = true → PE X x (yI C k X W e) ∧ (notIf x = true → PT X x (yT C k X W e))
  es : ∀ (es : Es), sizeOf es < n → ∀ (X : Cx) (W : Nat → Hp → Prop) (xs : List Expr), Good C k X W → trEs X.N C.F C.Gn X.env.scope es xs = true → PA X xs (yIs C k X W es) ∧ xs.all plainX = true ∧ AllT C k X W es xs
  o : ∀ (e : Oe), sizeOf e < n → ∀ (X : Cx) (W : Nat → Hp → Prop) (x : Option Expr), Good C k X W → trO X.N C.F C.Gn X.env.scope e x = true → PO X x (yO C k X W e)
  sr : ∀ (s : Sr), sizeOf s < n → ∀ (X : Cx) (W : Nat → Hp → Prop) (tg : Tg) (t x : Expr) (sc : Scope), Good C k X W → trTg X.N sc tg t = true → trSr X.N C.F C.Gn X.env.scope (tgIs tg).length s x = true → PI X t x (ySr C k X W s) ∧ plainX x = true

theorem vt {X : Cx} {W : Nat → Hp → Prop} {e : E} {x : Expr} (h : PE X x (yI C k X W e)) (hp : tplain x = true) : PE X x (yI C k X W e) ∧ (notIf x = true → PT X x (yT C k X W e)) := ⟨h, fun _ => t_val h hp⟩

theorem se_e {n : Nat} (ih : SE C k n) (e : E) (hz : sizeOf e < n + 1) (X : Cx) (W : Nat → Hp → Prop) (x : Expr) (g : Good C k X W) (h : trE X.N C.F C.Gn X.env.scope e x = true) : PE X x (yI C k X W e) ∧ (notIf x = true → PT X x (yT C k X W e)) := by
  unfold trE at h
  split at h
  case h_1 i x p =>
    simp only [Bool.and_eq_true, decide_eq_true_eq] at h
    exact vt (x_var g h.1.1 (visB_ok h.1.2) h.2) rfl
  case h_2 j x p =>
    simp only [Bool.and_eq_true, decide_eq_true_eq] at h
    exact vt (x_glb g h.1.1 (glB_ok h.1.2) h.2) rfl
  case h_3 => exact vt (x_const (d := .non) (v := .non) (fun _ _ => rfl) (fun _ _ => by simp only [RD]) pe_non) rfl
  case h_4 b c j p =>
    obtain rfl := of_decide_eq_true h
    exact vt (x_const (d := .bl b) (v := .bl b) (fun _ _ => rfl) (fun _ _ => by simp only [RD]) pe_bl) rfl
  case h_5 i j kk p =>
    obtain rfl := of_decide_eq_true h
    exact vt (x_const (d := .int i) (v := .int i) (fun _ _ => rfl) (fun _ _ => by simp only [RD]) pe_int) rfl
  case h_6 l x kk p =>
    have e := strB_ok h
    subst e
    exact vt (x_const (d := .str l) (v := .str ⟨l.toArray⟩) (fun _ _ => rfl) (fun _ _ => by simp only [RD]) pe_str) rfl
  case h_7 es xs j p => exact vt (x_tup (ih.es es (by simp at hz; omega) X W xs g h).1) rfl
  case h_8 es xs p => exact vt (x_lst (ih.es es (by simp at hz; omega) X W xs g h).1) rfl
  case h_9 es xs p => exact vt (x_newL (ih.es es (by simp at hz; omega) X W xs g h).1) rfl
  case h_10 => exact vt x_newK0 rfl
  case h_11 a b c d x z y w p =>
    simp only [Bool.and_eq_true] at h
    exact vt (x_newK2 g (ih.e a (by simp at hz; omega) X W x g h.1.1.1).1 (ih.e b (by simp at hz; omega) X W y g h.1.1.2).1 (ih.e c (by simp at hz; omega) X W z g h.1.2).1 (ih.e d (by simp at hz; omega) X W w g h.2).1) rfl
  case h_12 op a b x o y p =>
    simp only [Bool.and_eq_true, decide_eq_true_eq] at h
    obtain ⟨⟨rfl, h1⟩, h2⟩ := h
    exact vt (x_bin g (ih.e a (by simp at hz; omega) X W x g h1).1 (ih.e b (by simp at hz; omega) X W y g h2).1) rfl
  case h_13 a x p => exact vt (x_neg g (ih.e a (by simp at hz; omega) X W x g h).1) rfl
  case h_14 op a b x o y p =>
    simp only [Bool.and_eq_true, decide_eq_true_eq] at h
    obtain ⟨⟨rfl, h1⟩, h2⟩ := h
    have ha := (ih.e a (by simp at hz; omega) X W x g h1).1
    have hb := (ih.e b (by simp at hz; omega) X W y g h2).1
    exact ⟨x_cmp g ha hb (tr_plain h2), fun _ => t_cmpS g ha hb (tr_plain h2)⟩
  case h_15 a x _ _ p =>
    have ha := (ih.e a (by simp at hz; omega) X W x g h).1
    exact ⟨x_isN ha, fun _ => t_isN ha⟩
  case h_16 a x _ _ p =>
    have ha := (ih.e a (by simp at hz; omega) X W x g h).1
    exact ⟨x_notN ha, fun _ => t_notN ha⟩
  case h_17 op op' a b c x o o' y z p =>
    simp only [Bool.and_eq_true, decide_eq_true_eq] at h
    obtain ⟨⟨⟨⟨rfl, rfl⟩, h1⟩, h2⟩, h3⟩ := h
    have ha := (ih.e a (by simp at hz; omega) X W x g h1).1
    have hb := (ih.e b (by simp at hz; omega) X W y g h2).1
    have hc := (ih.e c (by simp at hz; omega) X W z g h3).1
    exact ⟨x_chain g ha hb hc (tr_plain h3), fun _ => t_chain g ha hb hc (tr_plain h3)⟩
  case h_18 es xs p =>
    simp only [Bool.and_eq_true, Bool.not_eq_true'] at h
    obtain ⟨a, b⟩ := and_all g (p := p) (ih.es es (by simp at hz; omega) X W xs g h.1.1).2.2 h.1.2 h.2
    exact ⟨a, fun _ => b.pt⟩
  case h_19 es xs p =>
    simp only [Bool.and_eq_true, Bool.not_eq_true'] at h
    obtain ⟨a, b⟩ := or_all g (p := p) (ih.es es (by simp at hz; omega) X W xs g h.1.1).2.2 h.1.2 h.2
    exact ⟨a, fun _ => b.pt⟩
  case h_20 a x p =>
    simp only [Bool.and_eq_true] at h
    obtain ⟨p1, p2⟩ := ih.e a (by simp at hz; omega) X W x g h.1
    exact ⟨x_not p1, fun _ => t_not (p2 h.2)⟩
  case h_21 c a b x y z p =>
    simp only [Bool.and_eq_true] at h
    exact ⟨x_ife ((ih.e c (by simp at hz; omega) X W x g h.1.1.1).2 h.1.1.2) (ih.e a (by simp at hz; omega) X W y g h.1.2).1 (ih.e b (by simp at hz; omega) X W z g h.2).1, fun z => by cases z⟩
  case h_22 i a b x p y z p' =>
    simp only [Bool.and_eq_true, decide_eq_true_eq] at h
    exact ⟨x_ifL g h.1.1.1.1 (visB_ok h.1.1.1.2) h.1.1.2 (ih.e a (by simp at hz; omega) X W y g h.1.2).1 (ih.e b (by simp at hz; omega) X W z g h.2).1, fun z => by cases z⟩
  case h_23 a i x y p =>
    simp only [Bool.and_eq_true] at h
    exact vt (x_idx g (ih.e a (by simp at hz; omega) X W x g h.1).1 (ih.e i (by simp at hz; omega) X W y g h.2).1 (tr_plain h.2)) rfl
  case h_24 a lo hi x l hh p1 p =>
    simp only [Bool.and_eq_true] at h
    exact vt (x_sl g (ih.e a (by simp at hz; omega) X W x g h.1.1).1 (ih.o lo (by simp at hz; omega) X W l g h.1.2) (ih.o hi (by simp at hz; omega) X W hh g h.2)) rfl
  case h_25 f es x p xs p' =>
    rcases Bool.or_eq_true_iff.mp h with h | h
    · simp only [Bool.and_eq_true, decide_eq_true_eq] at h
      obtain ⟨⟨⟨h1, h2⟩, h3⟩, h4⟩ := h
      obtain ⟨a1, a2, _⟩ := ih.es es (by simp at hz; omega) X W xs g h4
      refine vt ?_ rfl
      cases xs with
      | nil =>
        cases es with
        | nil => exact x_call0 g h1 (glB_ok h2) h3
        | cons _ _ => simp [trEs] at h4
      | cons y ys => exact x_call g h1 (glB_ok h2) h3 a1 a2
    · exact vt (x_resB g h) rfl
  case h_26 f es ks x p xs kws p' =>
    rcases Bool.or_eq_true_iff.mp h with h | h
    · simp only [Bool.and_eq_true, decide_eq_true_eq] at h
      obtain ⟨⟨⟨⟨⟨⟨⟨h1, h2⟩, h3⟩, h4⟩, h5⟩, h6⟩, h7⟩, h8⟩ := h
      obtain ⟨a1, a2, a3⟩ := ih.es es (by simp at hz; omega) X W xs g h4
      obtain ⟨_, _, b3⟩ := ih.es ks (by simp at hz; omega) X W (kwVs kws) g h5
      exact vt (x_callK g h1 (glB_ok h2) h3 a1 a3.len a2 b3.all (b3.len.trans (kwVs_len kws)) h6 h8) rfl
    · simp only [Bool.and_eq_true] at h
      have hk : kws = [] := by simpa using h.1
      subst hk
      exact vt (x_resK g h.2) rfl
  case h_27 r i es x p xs p' =>
    rcases Bool.or_eq_true_iff.mp h with h | h
    · simp only [Bool.and_eq_true, decide_eq_true_eq] at h
      obtain ⟨⟨⟨⟨⟨rfl, h1⟩, h2⟩, h3⟩, h4⟩, h5⟩ := h
      obtain ⟨a1, a2, _⟩ := ih.es es (by simp at hz; omega) X W xs g h4
      refine vt ?_ rfl
      cases xs with
      | nil => cases h5
      | cons y ys => exact x_callV g h1 (visB_ok h2) h3 a1 a2
    · simp only [Bool.and_eq_true, decide_eq_true_eq] at h
      exact vt (x_resV g h.1 h.2) rfl
  case h_28 f x p =>
    simp only [Bool.and_eq_true, decide_eq_true_eq] at h
    exact vt (x_fnv g h.1.1.1 h.1.1.2 (glB_ok h.1.2) h.2) rfl
  case h_29 a b x o y p =>
    simp only [Bool.and_eq_true, decide_eq_true_eq] at h
    obtain ⟨⟨rfl, h1⟩, h2⟩ := h
    exact vt (x_cat g (ih.e a (by simp at hz; omega) X W x g h1).1 (ih.e b (by simp at hz; omega) X W y g h2).1) rfl
  case h_30 t e x p y z p2 p' =>
    simp only [Bool.and_eq_true, decide_eq_true_eq] at h
    obtain ⟨⟨⟨⟨rfl, h2⟩, rfl⟩, h4⟩, h5⟩ := h
    exact vt (x_isi g (glB_ok h2) (glB_ok h4) (ih.e e (by simp at hz; omega) X W y g h5).1 (tr_plain h5)) rfl
  case h_31 _ _ b e x p y p' =>
    simp only [Bool.and_eq_true, decide_eq_true_eq] at h
    obtain ⟨⟨⟨h1, hk⟩, h2⟩, h5⟩ := h
    refine vt (x_bi g (fun t z => ?_) h1 (glB_ok h2) (ih.e e (by simp at hz; omega) X W y g h5).1 (tr_plain h5) fun _ => cb_sorted g.calm g.units) rfl
    subst z; cases hk
  case h_32 e x p z p2 y q p' =>
    simp only [Bool.and_eq_true, decide_eq_true_eq] at h
    obtain ⟨⟨⟨⟨rfl, h2⟩, rfl⟩, h4⟩, h5⟩ := h
    exact vt (x_sset g (glB_ok h2) (glB_ok h4) (ih.e e (by simp at hz; omega) X W y g h5).1 (tr_plain h5)) rfl
  case h_33 o e x a p y q =>
    simp only [Bool.and_eq_true, decide_eq_true_eq] at h
    obtain ⟨⟨⟨⟨rfl, h2⟩, h3⟩, h4⟩, h5⟩ := h
    exact vt (x_append g h2 (ih.e o (by simp at hz; omega) X W x g h4).1 (ih.e e (by simp at hz; omega) X W y g h5).1 (tr_plain h5) (base_plain h3)) rfl
  case h_34 o e x a p y q =>
    simp only [Bool.and_eq_true, decide_eq_true_eq] at h
    obtain ⟨⟨⟨⟨rfl, h2⟩, h3⟩, h4⟩, h5⟩ := h
    exact vt (x_index g h2 (ih.e o (by simp at hz; omega) X W x g h4).1 (ih.e e (by simp at hz; omega) X W y g h5).1 (tr_plain h5) (base_plain h3)) rfl
  case h_35 o x a p q =>
    simp only [Bool.and_eq_true, decide_eq_true_eq] at h
    obtain ⟨⟨⟨rfl, h2⟩, h3⟩, h4⟩ := h
    exact vt (x_pop g h2 (ih.e o (by simp at hz; omega) X W x g h4).1 (base_plain h3)) rfl
  case h_36 o e f x a p y z q =>
    simp only [Bool.and_eq_true, decide_eq_true_eq] at h
    obtain ⟨⟨⟨⟨⟨rfl, h2⟩, h3⟩, h4⟩, h5⟩, h6⟩ := h
    exact vt (x_get g h2 (ih.e o (by simp at hz; omega) X W x g h4).1 (ih.e e (by simp at hz; omega) X W y g h5).1 (ih.e f (by simp at hz; omega) X W z g h6).1 (tr_plain h5) (tr_plain h6) (base_plain h3)) rfl
  case h_37 own tg sr cs elt x t it ifs scope p =>
    simp only [Bool.and_eq_true, decide_eq_true_eq] at h
    obtain ⟨⟨⟨⟨⟨⟨⟨h1, h2⟩, h3⟩, h4⟩, h5⟩, h6⟩, h7⟩, h8⟩ := h
    obtain ⟨o1, o2⟩ := own_fn (sc := X.env.scope) h3
    obtain ⟨i1, i2⟩ := ih.sr sr (by simp at hz; omega) X W tg t it _ g h2 h4
    refine vt (x_lc g h1 o1 i1 (fold_plain i2) (fun s H c cl fp => ?_) (fun s H c cl fp => ?_) fun s H c cl fp => ?_) rfl
    · exact pg_tg (X := X.blk s H scope (compEnvC scope cl c X.env) fp) g.calm g.nd h2 o2
    · have gb := g.blk s H scope c cl fp
      obtain ⟨_, _, aT⟩ := ih.es cs (by simp at hz; omega) _ _ ifs gb h5
      match cs, ifs, aT, h6, h7 with
      | .nil, [], _, _, _ =>
        have P := pts_nil (X := X.blk s H scope (compEnvC scope cl c X.env) fp)
        refine ⟨fun pins s σ H Q I h => P.run pins s σ H Q I ?_⟩
        obtain ⟨m, env, S, ok, re, h⟩ := h
        simp only [evC] at h
        exact h H m (Ext.refl _ _) ok
      | .cons e .nil, [c], aT, _, hn =>
        have P := pts_one (aT.2.1 (by simpa using hn))
        refine ⟨fun pins s σ H Q I h => P.run pins s σ H Q I ?_⟩
        obtain ⟨m, env, S, ok, re, h⟩ := h
        simp only [evC] at h
        refine tT_bind ok re h (fun d S hd => by cases d <;> first | rfl | exact absurd rfl (hd _)) fun b S1 H1 m1 e1 o1 re1 h => ?_
        exact h H1 m1 (Ext.refl _ _) o1
      | .cons _ (.cons _ _), [_], aT, _, _ => exact aT.2.2.elim
      | .cons _ _, [], aT, _, _ => exact aT.elim
      | .nil, _ :: _, aT, _, _ => exact aT.elim
    · exact (ih.e elt (by simp at hz; omega) _ _ x (g.blk s H scope c cl fp) h8).1
  case h_38 e x p z p2 y p3 p' =>
    simp only [Bool.and_eq_true, decide_eq_true_eq] at h
    obtain ⟨⟨⟨⟨rfl, h2⟩, rfl⟩, h4⟩, h5⟩ := h
    exact vt (x_tupR1 g (glB_ok h2) (glB_ok h4) (ih.e e (by simp at hz; omega) X W y g h5).1 (tr_plain h5)) rfl
  case h_39 a b x p z p2 y w p3 p' =>
    simp only [Bool.and_eq_true, decide_eq_true_eq] at h
    obtain ⟨⟨⟨⟨⟨rfl, h2⟩, rfl⟩, h4⟩, h5⟩, h6⟩ := h
    exact vt (x_tupR2 g (glB_ok h2) (glB_ok h4) (ih.e a (by simp at hz; omega) X W y g h5).1 (ih.e b (by simp at hz; omega) X W w g h6).1 (tr_plain h5) (tr_plain h6)) rfl
  case h_40 e x p z p2 y p3 p' =>
    simp only [Bool.and_eq_true, decide_eq_true_eq] at h
    obtain ⟨⟨⟨⟨rfl, h2⟩, rfl⟩, h4⟩, h5⟩ := h
    exact vt (x_lstR1 g (glB_ok h2) (glB_ok h4) (ih.e e (by simp at hz; omega) X W y g h5).1 (tr_plain h5)) rfl
  case h_41 => exact vt x_newT0 rfl
  case h_42 a b x y p =>
    simp only [Bool.and_eq_true] at h
    exact vt (x_newT1 g (ih.e a (by simp at hz; omega) X W x g h.1).1 (ih.e b (by simp at hz; omega) X W y g h.2).1) rfl
  case h_43 o e x a p y q =>
    simp only [Bool.and_eq_true, decide_eq_true_eq] at h
    obtain ⟨⟨⟨⟨rfl, h2⟩, h3⟩, h4⟩, h5⟩ := h
    exact vt (x_extend g h2 (ih.e o (by simp at hz; omega) X W x g h4).1 (ih.e e (by simp at hz; omega) X W y g h5).1 (tr_plain h5) (base_plain h3)) rfl
  case h_44 e x p0 y a p q p' =>
    simp only [Bool.and_eq_true, decide_eq_true_eq] at h
    obtain ⟨⟨⟨⟨⟨rfl, h1⟩, rfl⟩, h2⟩, h3⟩, h4⟩ := h
    exact vt (x_vals g (glB_ok h1) h2 (ih.e e (by simp at hz; omega) X W y g h4).1 (base_plain h3)) rfl
  case h_45 own tg e cs elt x t it ifs scope p =>
    simp only [Bool.and_eq_true, decide_eq_true_eq] at h
    obtain ⟨⟨⟨⟨⟨⟨⟨h1, h2⟩, h3⟩, h4⟩, h5⟩, h6⟩, h7⟩, h8⟩ := h
    obtain ⟨o1, o2⟩ := own_fn (sc := X.env.scope) h3
    have i1 := (ih.e e (by simp at hz; omega) X W it g h4).1
    have i2 := tr_plain h4
    refine vt (x_lcD g h1 o1 i1 (fold_plain i2) (fun s H c cl fp => ?_) (fun s H c cl fp => ?_) fun s H c cl fp => ?_) rfl
    · exact pg_tg (X := X.blk s H scope (compEnvC scope cl c X.env) fp) g.calm g.nd h2 o2
    · have gb := g.blk s H scope c cl fp
      obtain ⟨_, _, aT⟩ := ih.es cs (by simp at hz; omega) _ _ ifs gb h5
      match cs, ifs, aT, h6, h7 with
      | .nil, [], _, _, _ =>
        have P := pts_nil (X := X.blk s H scope (compEnvC scope cl c X.env) fp)
        refine ⟨fun pins s σ H Q I h => P.run pins s σ H Q I ?_⟩
        obtain ⟨m, env, S, ok, re, h⟩ := h
        simp only [evC] at h
        exact h H m (Ext.refl _ _) ok
      | .cons e' .nil, [c], aT, _, hn =>
        have P := pts_one (aT.2.1 (by simpa using hn))
        refine ⟨fun pins s σ H Q I h => P.run pins s σ H Q I ?_⟩
        obtain ⟨m, env, S, ok, re, h⟩ := h
        simp only [evC] at h
        refine tT_bind ok re h (fun d S hd => by cases d <;> first | rfl | exact absurd rfl (hd _)) fun b S1 H1 m1 e1 o1 re1 h => ?_
        exact h H1 m1 (Ext.refl _ _) o1
      | .cons _ (.cons _ _), [_], aT, _, _ => exact aT.2.2.elim
      | .cons _ _, [], aT, _, _ => exact aT.elim
      | .nil, _ :: _, aT, _, _ => exact aT.elim
    · exact (ih.e elt (by simp at hz; omega) _ _ x (g.blk s H scope c cl fp) h8).1
  case h_46 a b c d e f ks vs p => exact vt (x_newS h) rfl
  case h_47 a x y p =>
    simp only [Bool.and_eq_true] at h
    exact vt (x_rev g h.1 (ih.e a (by simp at hz; omega) X W x g h.2).1) rfl
  case h_48 => cases h
theorem se_es {n : Nat} (ih : SE C k n) (es : Es) (hz : sizeOf es < n + 1) (X : Cx) (W : Nat → Hp → Prop) (xs : List Expr) (g : Good C k X W) (h : trEs X.N C.F C.Gn X.env.scope es xs = true) : PA X xs (yIs C k X W es) ∧ xs.all plainX = true ∧ AllT C k X W es xs := by
  unfold trEs at h
  split at h
  · exact ⟨xs_nil, rfl, trivial⟩
  · rename_i e es x xs
    simp only [Bool.and_eq_true] at h
    obtain ⟨a1, a2⟩ := ih.e e (by simp at hz; omega) X W x g h.1
    obtain ⟨b1, b2, b3⟩ := ih.es es (by simp at hz; omega) X W xs g h.2
    exact ⟨xs_cons a1 b1 (tr_plain h.1), by simp only [List.all_cons, tr_plain h.1, b2, Bool.and_self], a1, a2, b3⟩
  · cases h
theorem se_o {n : Nat} (ih : SE C k n) (e : Oe) (hz : sizeOf e < n + 1) (X : Cx) (W : Nat → Hp → Prop) (x : Option Expr) (g : Good C k X W) (h : trO X.N C.F C.Gn X.env.scope e x = true) : PO X x (yO C k X W e) := by
  unfold trO at h
  split at h
  · exact o_no
  · rename_i e x
    exact o_some (ih.e e (by simp at hz; omega) X W x g h).1
  · cases h
theorem se_sr {n : Nat} (ih : SE C k n) (s : Sr) (hz : sizeOf s < n + 1) (X : Cx) (W : Nat → Hp → Prop) (tg : Tg) (t x : Expr) (sc : Scope) (g : Good C k X W) (ht : trTg X.N sc tg t = true) (h : trSr X.N C.F C.Gn X.env.scope (tgIs tg).length s x = true) : PI X t x (ySr C k X W s) ∧ plainX x = true := by
  unfold trSr at h
  split at h
  · rename_i e
    exact ⟨sr_val (ih.e e (by simp at hz; omega) X W x g h).1, tr_plain h⟩
  · rename_i e x p y p'
    simp only [Bool.and_eq_true, decide_eq_true_eq] at h
    obtain ⟨⟨rfl, h2⟩, h3⟩ := h
    exact ⟨sr_rng g (glB_ok h2) (ih.e e (by simp at hz; omega) X W y g h3).1 (tr_plain h3), rfl⟩
  · rename_i a b x p y z p'
    simp only [Bool.and_eq_true, decide_eq_true_eq] at h
    obtain ⟨⟨⟨rfl, h2⟩, h3⟩, h4⟩ := h
    exact ⟨sr_rng2 g (glB_ok h2) (ih.e a (by simp at hz; omega) X W y g h3).1 (ih.e b (by simp at hz; omega) X W z g h4).1 (tr_plain h3) (tr_plain h4), rfl⟩
  · rename_i e x p y p'
    simp only [Bool.and_eq_true, decide_eq_true_eq] at h
    obtain ⟨⟨⟨rfl, h2⟩, h3⟩, h4⟩ := h
    refine ⟨?_, rfl⟩
    unfold trTg at ht
    split at ht
    · cases h4
    · exact sr_enum g (glB_ok h2) (ih.e e (by simp at hz; omega) X W y g h3).1 (tr_plain h3)
    · cases ht
  · rename_i a b x p y z p'
    simp only [Bool.and_eq_true, decide_eq_true_eq] at h
    obtain ⟨⟨⟨⟨rfl, h2⟩, h3⟩, h4⟩, h5⟩ := h
    refine ⟨?_, rfl⟩
    unfold trTg at ht
    split at ht
    · cases h5
    · exact sr_zip g (glB_ok h2) (ih.e a (by simp at hz; omega) X W y g h3).1 (ih.e b (by simp at hz; omega) X W z g h4).1 (tr_plain h3) (tr_plain h4)
    · cases ht
  · cases h
theorem se : ∀ n, SE C k n
  | 0 => ⟨fun _ h => absurd h (by omega), fun _ h => absurd h (by omega), fun _ h => absurd h (by omega), fun _ h => absurd h (by omega)⟩
  | n + 1 => ⟨se_e (se n), se_es (se n), se_o (se n), se_sr (se n)⟩
theorem sE {X : Cx} {W : Nat → Hp → Prop} (g : Good C k X W) {e : E} {x : Expr} (h : trE X.N C.F C.Gn X.env.scope e x = true) : PE X x (yI C k X W e) := ((se (sizeOf e + 1)).e e (by omega) X W x g h).1
theorem sTe {X : Cx} {W : Nat → Hp → Prop} (g : Good C k X W) {e : E} {x : Expr} (h : trE X.N C.F C.Gn X.env.scope e x = true) (hn : notIf x = true) : PT X x (yT C k X W e) := ((se (sizeOf e + 1)).e e (by omega) X W x g h).2 hn
theorem sEs {X : Cx} {W : Nat → Hp → Prop} (g : Good C k X W) {es : Es} {xs : List Expr} (h : trEs X.N C.F C.Gn X.env.scope es xs = true) : PA X xs (yIs C k X W es) ∧ xs.all plainX = true ∧ AllT C k X W es xs := (se (sizeOf es + 1)).es es (by omega) X W xs g h
theorem sSr {X : Cx} {W : Nat → Hp → Prop} (g : Good C k X W) {s : Sr} {tg : Tg} {t x : Expr} (ht : trTg X.N X.env.scope tg t = true) (h : trSr X.N C.F C.Gn X.env.scope (tgIs tg).length s x = true) : PI X t x (ySr C k X W s) ∧ plainX x = true := (se (sizeOf s + 1)).sr s (by omega) X W tg t x _ g ht h
end
end G11

/-! Trs: statements, side by side -/
namespace G11
open PySem PySem.Spec PyProof.Rows L2
def notLc : Expr → Bool
  | .ListComp .. => false
  | .SetComp .. => false
  | .DictComp .. => false
  | _ => true
def notTup : Expr → Bool
  | .Tuple .. => false
  | _ => true
/-- which names are stored from the right -/
def swN (sc : Scope) (ts vs : List Expr) : Option (Option (List Str)) :=
  if !(ts.length == 2 || ts.length == 3) || vs.length != ts.length then some none else
  if vs.any (fun | .Starred .. => true | _ => false) then some none else
  let line := (ts.head?.map (·.pos.line)).getD 0
  let names := ts.filterMap fun
    | .Name id pos => if sc.names.lookup id == some .local && pos.line == line then some id else none
    | _ => none
  if names.length != ts.length || names.eraseDups.length != names.length then some none else
  if vs.all (foldedForSure 8) then some none else
  if vs.all (constantsAlone 8) then none else some (some names)
theorem swN_ok {env : Env} {ts vs : List Expr} {k1 k2 : Nat} {p1 p2 : Pos} {r : Option (List Str)} (hk : env.scope.kind = .function) (h : swN env.scope ts vs = some r) : swappedStores [.Tuple ts k1 p1] (.Tuple vs k2 p2) env = pure r := by
  have hb : env.blockKind = .function := by unfold Env.blockKind; rw [hk]; rfl
  unfold swN at h
  unfold swappedStores
  simp only [hb, bne_self_eq_false, Bool.or_false]
  split at h
  · rename_i q; cases h; exact if_pos q
  · rename_i q; refine (if_neg q).trans ?_
    split at h
    · rename_i q; cases h; exact if_pos q
    · rename_i q; refine (if_neg q).trans ?_
      dsimp only at h
      split at h
      · rename_i q; cases h; exact if_pos q
      · rename_i q; refine (if_neg q).trans ?_
        split at h
        · rename_i q; cases h; exact if_pos q
        · rename_i q; refine (if_neg q).trans ?_
          split at h
          · cases h
          · rename_i q; cases h; exact if_neg q
/-- two or three locals, stored from the right -/
def parB (N : List Str) (sc : Scope) : List Nat → List Expr → List Expr → Bool
  | [i, j], [.Name x px, .Name y py], [a, b] => decide (i ≠ j) && decide (sc.names.lookup x = some .local) && decide (sc.names.lookup y = some .local) && decide (swN sc [.Name x px, .Name y py] [a, b] = some (some [x, y]))
  | [i, j, l], [.Name x px, .Name y py, .Name z pz], [a, b, c] => decide (i ≠ j) && decide (i ≠ l) && decide (j ≠ l) && decide (sc.names.lookup x = some .local) && decide (sc.names.lookup y = some .local) && decide (sc.names.lookup z = some .local) && decide (swN sc [.Name x px, .Name y py, .Name z pz] [a, b, c] = some (some [x, y, z]))
  | _, _, _ => false
theorem sw_no {v : Expr} {t : Option Expr} {l : Nat} {env : Env} (h : notLc v = true) : swapsWith v t l env = pure false := by
  cases v <;> first | rfl | cases h
theorem sw_sub {v o i : Expr} {p : Pos} {l : Nat} {env : Env} : swapsWith v (some (.Subscript o i p)) l env = pure false := by
  cases v <;> rfl
theorem sw_tup {v : Expr} {ts : List Expr} {k : Nat} {p : Pos} {l : Nat} {env : Env} : swapsWithSole [.Tuple ts k p] v l env = pure false := by
  cases v <;> rfl
theorem st_tup {v : Expr} {ts : List Expr} {k : Nat} {p : Pos} {env : Env} (h : notTup v = true) : swappedStores [.Tuple ts k p] v env = pure none := by
  cases v <;> first | rfl | cases h

section
variable (N F : List Str) (Gn : GN) (Cn : List Str)
mutual
def trSt (sc : Scope) : St → Stmt → Bool
  | .set i e, .Assign [.Name x _] v _ => decide (N[i]? = some x) && locB sc x && trE N F Gn sc e v
  | .unp is e, .Assign [.Tuple ts _ _] v _ => trNames N sc is ts && trE N F Gn sc e v && notTup v
  | .par is es, .Assign [.Tuple ts _ _] (.Tuple vs _ _) _ => trNames N sc is ts && trEs N F Gn sc es vs && decide (is.length ≤ 1000) && (decide (swN sc ts vs = some none) || parB N sc is ts vs)
  | .setI o i v, .Assign [.Subscript x y _] w _ => trE N F Gn sc o x && trE N F Gn sc i y && trE N F Gn sc v w
  | .aug i e, .AugAssign (.Name x _) .Add v _ => decide (N[i]? = some x) && locB sc x && trE N F Gn sc e v
  | .ife c a b, .If x p q _ => trE N F Gn sc c x && notIf x && trSts sc a p && trSts sc b q
  | .for tg sr b, .For t it body [] _ => trTg N sc tg t && trSr N F Gn sc (tgIs tg).length sr it && trSts sc b body
  | .whl c b, .While x body [] _ => trE N F Gn sc c x && notIf x && trSts sc b body
  | .ret e, .Return (some x) _ => trE N F Gn sc e x
  | .ex e, .Expr x _ => trE N F Gn sc e x && notLc x
  | .cont, .Continue _ => true
  | .pass, .Pass _ => true
  | .raise c, .Raise (some (.Call (.Name x _) [.Constant (.str _) _ _] [] _)) none _ => decide (Cn[c]? = some x) && glB sc x && nmOk x
  | .unpL is e, .Assign [.Tuple ts _ _] v _ => trNames N sc is ts && trE N F Gn sc e v && notTup v
  | _, _ => false
def trSts (sc : Scope) : Sts → List Stmt → Bool
  | .nil, [] => true
  | .cons s ss, x :: xs => trSt sc s x && trSts sc ss xs
  | _, _ => false
end
end
end G11

/-! Snd10: statements -/
namespace G11
open PySem PySem.Spec PyProof.Rows L2
variable [Fns]

/-- what is wanted behind a statement's run -/
def AfS (K : PySem.W.Frag) (m : Ms) (H : Hp) (W : Nat → Hp → Prop) (E : Ends) : R (Fl × EnvD) → Prop
  | .ok (.nx, env') S' => ∀ H' m' σ', Ext H m H' m' → OkS K H' m' S' → RelE K H' m' env' σ' → E.nx σ' H'
  | .ok (.cont, env') S' => ∀ H' m' σ', Ext H m H' m' → OkS K H' m' S' → RelE K H' m' env' σ' → E.ct σ' H'
  | .ok (.ret d, _) S' => ∀ H' m' v, Ext H m H' m' → OkS K H' m' S' → RD K H' m' d v → E.rt v H'
  | .exc c S' => ∀ H' m', Ext H m H' m' → OkS K H' m' S' → W c H'
  | .bad => False
theorem AfS.shift {K : PySem.W.Frag} {m m1 : Ms} {H H1 : Hp} {W : Nat → Hp → Prop} {E : Ends} {r : R (Fl × EnvD)} (e : Ext H m H1 m1) (h : AfS K m H W E r) : AfS K m1 H1 W E r := by
  match r, h with
  | .ok (.nx, env') S', h => exact fun H' m' σ' e' => h H' m' σ' (e.trans e')
  | .ok (.cont, env') S', h => exact fun H' m' σ' e' => h H' m' σ' (e.trans e')
  | .ok (.ret d, _) S', h => exact fun H' m' v e' => h H' m' v (e.trans e')
  | .exc c S', h => exact fun H' m' e' => h H' m' (e.trans e')
  | .bad, h => exact h
/-- as Af, of a statement -/
theorem AfS.bind {K : PySem.W.Frag} {m : Ms} {H : Hp} {W : Nat → Hp → Prop} {E : Ends} {α : Type} {x : M α} {f : α → M (Fl × EnvD)} {S : Store} {P : α → Ms → Hp → Prop} (h : AfS K m H W E (M.bind x f S))
    (k : ∀ a S1 H1 m1, Ext H m H1 m1 → OkS K H1 m1 S1 → AfS K m1 H1 W E (f a S1) → P a m1 H1) : Af K m H W P (x S) := by
  unfold M.bind at h
  cases q : x S with
  | ok a S1 => rw [q] at h; exact fun H1 m1 e o => k a S1 H1 m1 e o (AfS.shift e h)
  | exc c S1 => rw [q] at h; exact h
  | bad => rw [q] at h; exact h

section
variable (K : PySem.W.Frag) (G0 : Nat → List D → M D) (G : List D) (W : Nat → Hp → Prop)
def tSt (s : St) : TS := fun E σ H => ∃ m env S, OkS K H m S ∧ RelE K H m env σ ∧ AfS K m H W E (ex G0 G s env S)
def tSts (s : Sts) : TS := fun E σ H => ∃ m env S, OkS K H m S ∧ RelE K H m env σ ∧ AfS K m H W E (exs G0 G s env S)
end
abbrev yS (C : Ctx) (k : Nat) (X : Cx) (W : Nat → Hp → Prop) : St → TS := tSt X.K (callI C.T C.G k) C.G W
abbrev ySs (C : Ctx) (k : Nat) (X : Cx) (W : Nat → Hp → Prop) : Sts → TS := tSts X.K (callI C.T C.G k) C.G W
theorem _root_.L2.PS.imp {X : Cx} {x : Stmt} {t t' : TS} (h : PS X x t) (i : ∀ E σ H, t' E σ H → t E σ H) : PS X x t' := ⟨fun pins s σ H E I q => h.run pins s σ H E I (i E σ H q)⟩
theorem _root_.L2.PSs.imp {X : Cx} {x : List Stmt} {t t' : TS} (h : PSs X x t) (i : ∀ E σ H, t' E σ H → t E σ H) : PSs X x t' := ⟨fun pins s σ H E I q => h.run pins s σ H E I (i E σ H q)⟩

theorem RDk.length {K : PySem.W.Frag} {H : Hp} {m : Ms} : ∀ {kvs : List (KY × D)} {us : List (Key × V)}, RDk K H m kvs us → us.length = kvs.length
  | [], _, h => by simp only [RDk] at h; subst h; rfl
  | (k, d) :: kvs, _, h => by
    obtain ⟨v, vs', rfl, _, h2⟩ := h
    rw [List.length_cons, List.length_cons, RDk.length h2]
theorem keyV_inj {a b : KY} (h : keyV a = keyV b) : a = b := by
  cases a <;> cases b <;> simp [keyV] at h
  · rw [h]
  · rw [h]
theorem RDk.none {K : PySem.W.Frag} {H : Hp} {m : Ms} {k : KY} : ∀ {kvs : List (KY × D)} {us : List (Key × V)}, RDk K H m kvs us → (us.any fun kv => decide (kv.1 = keyV k)) = (kvs.lookup k).isSome
  | [], _, h => by simp only [RDk] at h; subst h; rfl
  | (k', d) :: kvs, _, h => by
    obtain ⟨v, vs', rfl, _, h2⟩ := h
    have ih := RDk.none (k := k) h2
    rw [List.any_cons, ih, List.lookup_cons]
    by_cases e : k = k'
    · subst e
      have q : (k == k) = true := by simp
      rw [q]
      simp
    · have hne : ¬ keyV k' = keyV k := fun z => e (keyV_inj z).symm
      have q : (k == k') = false := by simpa using e
      rw [q]
      simp [hne]
theorem RDk.over {K : PySem.W.Frag} {H : Hp} {m : Ms} {k : KY} {d : D} {v : V} (r : RD K H m d v) : ∀ {kvs : List (KY × D)} {us : List (Key × V)}, RDk K H m kvs us → RDk K H m (kvs.map fun p => if p.1 = k then (p.1, d) else p) (us.map fun p => if p.1 = keyV k then (p.1, v) else p)
  | [], _, h => by simp only [RDk] at h; subst h; rfl
  | (k', d') :: kvs, _, h => by
    obtain ⟨v', vs', rfl, h1, h2⟩ := h
    have ih := RDk.over (k := k) r h2
    by_cases e : k' = k
    · subst e
      simp only [List.map_cons, if_true]
      exact ⟨v, _, rfl, r, ih⟩
    · have hne : keyV k' ≠ keyV k := fun z => e (keyV_inj z)
      simp only [List.map_cons, if_neg e, if_neg hne]
      exact ⟨v', _, rfl, h1, ih⟩
theorem RDk.append {K : PySem.W.Frag} {H : Hp} {m : Ms} {k : KY} {d : D} {v : V} (r : RD K H m d v) : ∀ {kvs : List (KY × D)} {us : List (Key × V)}, RDk K H m kvs us → RDk K H m (kvs ++ [(k, d)]) (us ++ [(keyV k, v)])
  | [], _, h => by simp only [RDk] at h; subst h; exact ⟨v, [], rfl, r, rfl⟩
  | (k', d') :: kvs, _, h => by
    obtain ⟨v', vs', rfl, h1, h2⟩ := h
    exact ⟨v', _, rfl, h1, RDk.append r h2⟩
theorem RDk.put {K : PySem.W.Frag} {H : Hp} {m : Ms} {k : KY} {d : D} {v : V} {kvs : List (KY × D)} {us : List (Key × V)} (h : RDk K H m kvs us) (r : RD K H m d v) : RDk K H m (putA kvs k d) (putK us (keyV k) v) := by
  unfold putA putK
  rw [RDk.none h]
  split
  · exact RDk.over r h
  · exact RDk.append r h
theorem putA_len {κ : Type} [DecidableEq κ] (kvs : List (κ × D)) (k : κ) (v : D) (h : kvs.length < lim) : (putA kvs k v).length ≤ lim := by
  unfold putA
  split
  · rw [List.length_map]; omega
  · rw [List.length_append]; simp; omega

structure GoodS (C : Ctx) (k : Nat) (X : Cx) (W : Nat → Hp → Prop) : Prop extends Good C k X W where
  fn : ∀ x, X.fn x = true
  own : PassesOwn (model X.prog X.w) X.A X.env X.xe

section
variable {C : Ctx} {k : Nat} {X : Cx} {W : Nat → Hp → Prop} (g : GoodS C k X W)
theorem ss_nil : PSs X [] (ySs C k X W .nil) := pss_nil.imp fun E σ H h => by
  obtain ⟨m, env, S, ok, re, h⟩ := h
  simp only [exs] at h
  exact h H m σ (Ext.refl _ _) ok re
theorem ss_cons {s : St} {ss : Sts} {x : Stmt} {xs : List Stmt} (h1 : PS X x (yS C k X W s)) (h2 : PSs X xs (ySs C k X W ss)) : PSs X (x :: xs) (ySs C k X W (.cons s ss)) := by
  refine (pss_cons h1 h2).imp fun E σ H h => ?_
  obtain ⟨m, env, S, ok, re, h⟩ := h
  refine ⟨m, env, S, ok, re, ?_⟩
  simp only [exs] at h
  match q : ex (callI C.T C.G k) C.G s env S, h with
  | .ok (.nx, env') S', h =>
    exact fun H' m' σ' e' o' r' => ⟨m', env', S', o', r', AfS.shift e' h⟩
  | .ok (.cont, env') S', h => exact h
  | .ok (.ret d, _) S', h => exact h
  | .exc c S', h => exact h
  | .bad, h => exact h
/-- an expression, then what follows -/
theorem s_bind {a : E} {f : D → M (Fl × EnvD)} {m : Ms} {H : Hp} {S : Store} {env : EnvD} {σ : L2.St} {E : Ends} (ok : OkS X.K H m S) (re : RelE X.K H m env σ) (h : AfS X.K m H W E (M.bind (ev (callI C.T C.G k) C.G a env) f S)) {Q : VK}
    (k' : ∀ d S1 v H1 m1, Ext H m H1 m1 → OkS X.K H1 m1 S1 → RelE X.K H1 m1 env σ → RD X.K H1 m1 d v → AfS X.K m1 H1 W E (f d S1) → Q v H1) : yI C k X W a σ H Q :=
  ⟨m, env, S, ok, re, h.bind fun d S1 H1 m1 e o h v r => k' d S1 v H1 m1 e o (re.mono e) r h⟩
theorem s_bindT {a : E} {f : D → M (Fl × EnvD)} {m : Ms} {H : Hp} {S : Store} {env : EnvD} {σ : L2.St} {E : Ends} (ok : OkS X.K H m S) (re : RelE X.K H m env σ) (h : AfS X.K m H W E (M.bind (ev (callI C.T C.G k) C.G a env) f S)) (hb : ∀ d S, (∀ b, d ≠ .bl b) → f d S = .bad) {Q : Bool → Hp → Prop}
    (k' : ∀ b S1 H1 m1, Ext H m H1 m1 → OkS X.K H1 m1 S1 → RelE X.K H1 m1 env σ → AfS X.K m1 H1 W E (f (.bl b) S1) → Q b H1) : yT C k X W a σ H Q := by
  refine ⟨m, env, S, ok, re, ?_⟩
  unfold M.bind at h
  cases q : ev (callI C.T C.G k) C.G a env S with
  | ok d S1 =>
    rw [q] at h
    have isb : ∃ b, d = .bl b := by
      cases d with
      | bl b => exact ⟨b, rfl⟩
      | _ =>
        exfalso
        simp only at h
        rw [hb _ _ (by intro b z; cases z)] at h
        exact h
    obtain ⟨b, rfl⟩ := isb
    exact fun H1 m1 e o => ⟨b, rfl, k' b S1 H1 m1 e o (re.mono e) (AfS.shift e h)⟩
  | exc c S1 => rw [q] at h; exact h
  | bad => rw [q] at h; exact h
theorem s_bindA {a : Es} {f : List D → M (Fl × EnvD)} {m : Ms} {H : Hp} {S : Store} {env : EnvD} {σ : L2.St} {E : Ends} (ok : OkS X.K H m S) (re : RelE X.K H m env σ) (h : AfS X.K m H W E (M.bind (evs (callI C.T C.G k) C.G a env) f S)) {Q : List V → Hp → Prop}
    (k' : ∀ d S1 v H1 m1, Ext H m H1 m1 → OkS X.K H1 m1 S1 → RelE X.K H1 m1 env σ → RDs X.K H1 m1 d v → AfS X.K m1 H1 W E (f d S1) → Q v H1) : yIs C k X W a σ H Q :=
  ⟨m, env, S, ok, re, h.bind fun d S1 H1 m1 e o h v r => k' d S1 v H1 m1 e o (re.mono e) r h⟩

omit g in
theorem lc_parts (g : Good C k X W) {own : List Nat} {tg : Tg} {sr : Sr} {cs : Es} {elt : E} {z t it : Expr} {ifs : List Expr} {scope : Scope} {pos : Pos} (h : trE X.N C.F C.Gn X.env.scope (.lc own tg sr cs elt) (.ListComp z [⟨t, it, ifs, 0⟩] scope pos) = true) :
    blkC X.N X.env.scope scope (ownOf X.N own) = true ∧ (∀ i ∈ tgIs tg, i ∈ own) ∧ PI X t it (ySr C k X W sr) ∧ (∀ x, foldedSetIterable it X.env x = pure x) ∧
    (∀ (s : Shared) (H : Hp) (c : Addr) (cl : List (Str × Addr)) (fp : List Addr), PG (X.blk s H scope (compEnvC scope cl c X.env) fp) t (gTg X.K tg)) ∧
    (∀ (s : Shared) (H : Hp) (c : Addr) (cl : List (Str × Addr)) (fp : List Addr), PTs (X.blk s H scope (compEnvC scope cl c X.env) fp) ifs (tC2 X.K (callI C.T C.G k) C.G (fun _ _ => False) cs)) ∧
    (∀ (s : Shared) (H : Hp) (c : Addr) (cl : List (Str × Addr)) (fp : List Addr), PE (X.blk s H scope (compEnvC scope cl c X.env) fp) z (tI X.K (callI C.T C.G k) C.G (fun _ _ => False) elt)) := by
  simp only [trE, Bool.and_eq_true, decide_eq_true_eq] at h
  obtain ⟨⟨⟨⟨⟨⟨⟨h1, h2⟩, h3⟩, h4⟩, h5⟩, h6⟩, h7⟩, h8⟩ := h
  obtain ⟨o1, o2⟩ := own_fn (sc := X.env.scope) h3
  obtain ⟨i1, i2⟩ := (se (C := C) (k := k) (sizeOf sr + 1)).sr sr (by omega) X W tg t it _ g h2 h4
  refine ⟨h1, o1, i1, fold_plain i2, fun s H c cl fp => ?_, fun s H c cl fp => ?_, fun s H c cl fp => ?_⟩
  · exact pg_tg (X := X.blk s H scope (compEnvC scope cl c X.env) fp) g.calm g.nd h2 o2
  · have gb := g.blk s H scope c cl fp
    obtain ⟨_, _, aT⟩ := sEs (es := cs) (xs := ifs) gb h5
    match cs, ifs, aT, h6, h7 with
    | .nil, [], _, _, _ =>
      have P := pts_nil (X := X.blk s H scope (compEnvC scope cl c X.env) fp)
      refine ⟨fun pins s σ H Q I h => P.run pins s σ H Q I ?_⟩
      obtain ⟨m, env, S, ok, re, h⟩ := h
      simp only [evC] at h
      exact h H m (Ext.refl _ _) ok
    | .cons e .nil, [c], aT, _, hn =>
      have P := pts_one (aT.2.1 (by simpa using hn))
      refine ⟨fun pins s σ H Q I h => P.run pins s σ H Q I ?_⟩
      obtain ⟨m, env, S, ok, re, h⟩ := h
      simp only [evC] at h
      refine tT_bind ok re h (fun d S hd => by cases d <;> first | rfl | exact absurd rfl (hd _)) fun b S1 H1 m1 e1 o1 re1 h => ?_
      exact h H1 m1 (Ext.refl _ _) o1
    | .cons _ (.cons _ _), [_], aT, _, _ => exact aT.2.2.elim
    | .cons _ _, [], aT, _, _ => exact aT.elim
    | .nil, _ :: _, aT, _, _ => exact aT.elim
  · exact sE (g.blk s H scope c cl fp) h8
omit g in
theorem lcD_parts (g : Good C k X W) {own : List Nat} {tg : Tg} {e : E} {cs : Es} {elt : E} {z t it : Expr} {ifs : List Expr} {scope : Scope} {pos : Pos} (h : trE X.N C.F C.Gn X.env.scope (.lcD own tg e cs elt) (.ListComp z [⟨t, it, ifs, 0⟩] scope pos) = true) :
    blkC X.N X.env.scope scope (ownOf X.N own) = true ∧ (∀ i ∈ tgIs tg, i ∈ own) ∧ PE X it (yI C k X W e) ∧ (∀ x, foldedSetIterable it X.env x = pure x) ∧
    (∀ (s : Shared) (H : Hp) (c : Addr) (cl : List (Str × Addr)) (fp : List Addr), PG (X.blk s H scope (compEnvC scope cl c X.env) fp) t (gTg X.K tg)) ∧
    (∀ (s : Shared) (H : Hp) (c : Addr) (cl : List (Str × Addr)) (fp : List Addr), PTs (X.blk s H scope (compEnvC scope cl c X.env) fp) ifs (tC2 X.K (callI C.T C.G k) C.G (fun _ _ => False) cs)) ∧
    (∀ (s : Shared) (H : Hp) (c : Addr) (cl : List (Str × Addr)) (fp : List Addr), PE (X.blk s H scope (compEnvC scope cl c X.env) fp) z (tI X.K (callI C.T C.G k) C.G (fun _ _ => False) elt)) := by
  simp only [trE, Bool.and_eq_true, decide_eq_true_eq] at h
  obtain ⟨⟨⟨⟨⟨⟨⟨h1, h2⟩, h3⟩, h4⟩, h5⟩, h6⟩, h7⟩, h8⟩ := h
  obtain ⟨o1, o2⟩ := own_fn (sc := X.env.scope) h3
  have i1 := sE g h4
  have i2 := tr_plain h4
  refine ⟨h1, o1, i1, fold_plain i2, fun s H c cl fp => ?_, fun s H c cl fp => ?_, fun s H c cl fp => ?_⟩
  · exact pg_tg (X := X.blk s H scope (compEnvC scope cl c X.env) fp) g.calm g.nd h2 o2
  · have gb := g.blk s H scope c cl fp
    obtain ⟨_, _, aT⟩ := sEs (es := cs) (xs := ifs) gb h5
    match cs, ifs, aT, h6, h7 with
    | .nil, [], _, _, _ =>
      have P := pts_nil (X := X.blk s H scope (compEnvC scope cl c X.env) fp)
      refine ⟨fun pins s σ H Q I h => P.run pins s σ H Q I ?_⟩
      obtain ⟨m, env, S, ok, re, h⟩ := h
      simp only [evC] at h
      exact h H m (Ext.refl _ _) ok
    | .cons e' .nil, [c], aT, _, hn =>
      have P := pts_one (aT.2.1 (by simpa using hn))
      refine ⟨fun pins s σ H Q I h => P.run pins s σ H Q I ?_⟩
      obtain ⟨m, env, S, ok, re, h⟩ := h
      simp only [evC] at h
      refine tT_bind ok re h (fun d S hd => by cases d <;> first | rfl | exact absurd rfl (hd _)) fun b S1 H1 m1 e1 o1 re1 h => ?_
      exact h H1 m1 (Ext.refl _ _) o1
    | .cons _ (.cons _ _), [_], aT, _, _ => exact aT.2.2.elim
    | .cons _ _, [], aT, _, _ => exact aT.elim
    | .nil, _ :: _, aT, _, _ => exact aT.elim
  · exact sE (g.blk s H scope c cl fp) h8
include g
/-- name = e -/
theorem st_set {i : Nat} {e : E} {x : Str} {v : Expr} {p p' : Pos} (hi : X.N[i]? = some x) (hl : Loc X.env.scope x) (hv : trE X.N C.F C.Gn X.env.scope e v = true) : PS X (.Assign [.Name x p] v p') (yS C k X W (.set i e)) := by
  have rd : ∀ (E : Ends) (σ : L2.St) (H : Hp), yS C k X W (.set i e) E σ H → yI C k X W e σ H fun y H1 => gName i y σ H1 E.nx := fun E σ H h => by
    obtain ⟨m, env, S, ok, re, h⟩ := h
    simp only [ex] at h
    refine s_bind ok re h fun d S1 y H1 m1 e1 o1 re1 r1 h => ?_
    exact h H1 m1 _ (Ext.refl _ _) o1 (re1.set i r1)
  by_cases hn : notLc v = true
  · exact (ps_set g.nd hi hl (sE g.toGood hv) (sw_no hn) (.inl (g.fn x))).imp rd
  · have hv0 := hv
    unfold trE at hv
    split at hv <;> first | cases hv; done | (exfalso; exact hn rfl; done) | skip
    all_goals rename_i own tg sr cs elt z t it ifs scope pos
    · rcases sw_lc (elt := z) (gs := [⟨t, it, ifs, 0⟩]) (scope := scope) (pos := pos) (py := p) (y := x) (l := p'.line) (env := X.env) with q | ⟨q, hyl⟩
      · exact (ps_set g.nd hi hl (sE g.toGood hv0) q (.inl (g.fn x))).imp rd
      · obtain ⟨a1, a2, a3, a4, a5, a6, a7⟩ := lc_parts g.toGood hv0
        have P := ps_setLc (spos := p') g.calm g.nd hi hyl q a3 (blkOk_by a1) a5 a6 a7 a4
        rw [ownOf_snd] at P
        exact P.imp fun E σ H h => r_lc a2 (rd E σ H h)
    · rcases sw_lc (elt := z) (gs := [⟨t, it, ifs, 0⟩]) (scope := scope) (pos := pos) (py := p) (y := x) (l := p'.line) (env := X.env) with q | ⟨q, hyl⟩
      · exact (ps_set g.nd hi hl (sE g.toGood hv0) q (.inl (g.fn x))).imp rd
      · obtain ⟨a1, a2, a3, a4, a5, a6, a7⟩ := lcD_parts g.toGood hv0
        have P := ps_setLc (spos := p') g.calm g.nd hi hyl q (pi_keysD (tg := t) a3) (blkOk_by a1) a5 a6 a7 a4
        rw [ownOf_snd] at P
        exact (ps_un P).imp fun E σ H h => r_lcD a2 (rd E σ H h)
/-- names = e -/
theorem st_unp {is : List Nat} {e : E} {ts : List Expr} {v : Expr} {kk : Nat} {p p' : Pos} (ht : trNames X.N X.env.scope is ts = true) (hv : PE X v (yI C k X W e)) (hn : notTup v = true) : PS X (.Assign [.Tuple ts kk p] v p') (yS C k X W (.unp is e)) := by
  have hg : PG X (.Tuple ts kk p) (gTg X.K (.tp is)) := pg_tg g.calm g.nd (tg := .tp is) ht fun i hi x hx => .inl (g.fn x)
  refine (ps_asg hv hg sw_tup (st_tup hn) rfl).imp fun E σ H h => ?_
  obtain ⟨m, env, S, ok, re, h⟩ := h
  simp only [ex] at h
  refine s_bind ok re h fun d S1 y H1 m1 e1 o1 re1 r1 h => ?_
  cases d with
  | tup ds =>
    simp only at h
    cases q : setAll env is ds with
    | none => rw [q] at h; exact h.elim
    | some env' =>
      rw [q] at h
      obtain ⟨σ', s1, s2, s3, s4⟩ := gTg_ok (tg := .tp is) (d := .tup ds) q r1 re1
      exact s4 _ (h H1 m1 σ' (Ext.refl _ _) o1 s1)
  | _ => exact h.elim
/-- names = a list -/
theorem st_unpL {is : List Nat} {e : E} {ts : List Expr} {v : Expr} {kk : Nat} {p p' : Pos} (ht : trNames X.N X.env.scope is ts = true) (hv : PE X v (yI C k X W e)) (hn : notTup v = true) : PS X (.Assign [.Tuple ts kk p] v p') (yS C k X W (.unpL is e)) := by
  have q := names_each (env := X.env) ht
  have hg : PG X (.Tuple ts kk p) (gUnl X.K is.length (gNames is)) := pg_unl g.calm (pgs_names g.nd ht fun i hi x hx => .inl (g.fn x)) q.1 q.2
  refine (ps_asg hv hg sw_tup (st_tup hn) rfl).imp fun E σ H h => ?_
  obtain ⟨m, env, S, ok, re, h⟩ := h
  simp only [ex] at h
  refine s_bind ok re h fun d S1 y H1 m1 e1 o1 re1 r1 h => ?_
  cases d with
  | lst ds =>
    simp only at h
    cases q : setAll env is ds with
    | none => rw [q] at h; exact h.elim
    | some env' =>
      rw [q] at h
      simp only [RD] at r1
      obtain ⟨a, vs, rfl, e2, _, e3, _⟩ := r1
      obtain ⟨σ', s1, s2, s3, s4⟩ := gNames_ok q e3 re1
      exact ⟨a, vs, rfl, SqL.of e2, by rw [e3.length, setAll_len q], s4 _ (h H1 m1 σ' (Ext.refl _ _) o1 s1)⟩
  | _ => exact h.elim
/-- names = es -/
theorem st_par {is : List Nat} {es : Es} {ts vs : List Expr} {kk k2 : Nat} {p p2 p' : Pos} (ht : trNames X.N X.env.scope is ts = true) (hv : PA X vs (yIs C k X W es)) (hl : is.length ≤ 1000) (hs : swN X.env.scope ts vs = some none) : PS X (.Assign [.Tuple ts kk p] (.Tuple vs k2 p2) p') (yS C k X W (.par is es)) := by
  have hg : PG X (.Tuple ts kk p) (gTg X.K (.tp is)) := pg_tg g.calm g.nd (tg := .tp is) ht fun i hi x hx => .inl (g.fn x)
  refine ⟨fun pins s σ H E I h => ?_⟩
  refine (ps_asg (pos := p') (x_tup (p := p2) (j := k2) hv) hg sw_tup (swN_ok I.ok.kind hs) rfl).run pins s σ H E I ?_
  obtain ⟨m, env, S, ok, re, h⟩ := h
  refine ⟨m, env, S, ok, re, ?_⟩
  simp only [ex, M.bind] at h
  simp only [ev]
  cases q0 : evs (callI C.T C.G k) C.G es env S with
  | bad => rw [q0] at h; exact h
  | exc c S' => rw [q0] at h; exact h
  | ok ds S' =>
    rw [q0] at h
    simp only at h
    cases q : setAll env is ds with
    | none => rw [q] at h; exact h.elim
    | some env' =>
      rw [q] at h
      have hlim : ds.length ≤ lim := by rw [setAll_len q]; exact Nat.le_trans hl (by decide)
      simp only [if_pos hlim]
      intro H1 m1 e1 o1 y r1
      obtain ⟨σ', s1, s2, s3, s4⟩ := gTg_ok (tg := .tp is) (d := .tup ds) q r1 (re.mono e1)
      exact s4 _ (h H1 m1 σ' e1 o1 s1)
theorem st_par2 {i j : Nat} {es : Es} {x y : Str} {a b : Expr} {kk k2 : Nat} {px py p p2 p' : Pos} (hi : X.N[i]? = some x) (hj : X.N[j]? = some y) (hij : i ≠ j) (hx : X.env.scope.names.lookup x = some .local) (hy : X.env.scope.names.lookup y = some .local) (hv : PA X [a, b] (yIs C k X W es))
    (hs : swN X.env.scope [.Name x px, .Name y py] [a, b] = some (some [x, y])) : PS X (.Assign [.Tuple [.Name x px, .Name y py] kk p] (.Tuple [a, b] k2 p2) p') (yS C k X W (.par [i, j] es)) := by
  refine ⟨fun pins s σ H E I h => ?_⟩
  refine (ps_par (pos := p') g.calm g.nd hi hj hij hx hy hv (swN_ok I.ok.kind hs) sw_tup).run pins s σ H E I ?_
  obtain ⟨m, env, S, ok, re, h⟩ := h
  simp only [ex] at h
  refine s_bindA ok re h fun ds S1 ys H1 m1 e1 o1 re1 r1 h => ?_
  match ds, h with
  | [d, d'], h =>
    simp only [RDs] at r1
    obtain ⟨v, _, rfl, r1, w, _, rfl, r2, rfl⟩ := r1
    exact ⟨v, w, rfl, h H1 m1 _ (Ext.refl _ _) o1 ((re1.set i r1).set j r2)⟩
  | [], h => exact h.elim
  | [_], h => exact h.elim
  | _ :: _ :: _ :: _, h => exact h.elim
theorem st_par3 {i j l : Nat} {es : Es} {x y z : Str} {a b c : Expr} {kk k2 : Nat} {px py pz p p2 p' : Pos} (hi : X.N[i]? = some x) (hj : X.N[j]? = some y) (hl : X.N[l]? = some z) (hij : i ≠ j) (hil : i ≠ l) (hjl : j ≠ l) (hx : X.env.scope.names.lookup x = some .local) (hy : X.env.scope.names.lookup y = some .local) (hz : X.env.scope.names.lookup z = some .local) (hv : PA X [a, b, c] (yIs C k X W es))
    (hs : swN X.env.scope [.Name x px, .Name y py, .Name z pz] [a, b, c] = some (some [x, y, z])) : PS X (.Assign [.Tuple [.Name x px, .Name y py, .Name z pz] kk p] (.Tuple [a, b, c] k2 p2) p') (yS C k X W (.par [i, j, l] es)) := by
  refine ⟨fun pins s σ H E I h => ?_⟩
  refine (ps_par3 (pos := p') g.calm g.nd hi hj hl hij hil hjl hx hy hz hv (swN_ok I.ok.kind hs) sw_tup).run pins s σ H E I ?_
  obtain ⟨m, env, S, ok, re, h⟩ := h
  simp only [ex] at h
  refine s_bindA ok re h fun ds S1 ys H1 m1 e1 o1 re1 r1 h => ?_
  match ds, h with
  | [d, d', d2], h =>
    simp only [RDs] at r1
    obtain ⟨v, _, rfl, r1, w, _, rfl, r2, u, _, rfl, r3, rfl⟩ := r1
    exact ⟨v, w, u, rfl, h H1 m1 _ (Ext.refl _ _) o1 (((re1.set i r1).set j r2).set l r3)⟩
  | [], h => exact h.elim
  | [_], h => exact h.elim
  | [_, _], h => exact h.elim
  | _ :: _ :: _ :: _ :: _, h => exact h.elim
omit g in
theorem ps_dputX {o i value : Expr} {td ty tv : TE} {pos pos' : Pos} (hu : X.A.units + 65 < cLine) (ho : PE X o td) (hi : PE X i ty) (hv : PE X value tv) (hs : swapsWith value (some (.Subscript o i pos')) pos.line X.env = pure false) :
    PS X (.Assign [.Subscript o i pos'] value pos) (fun D σ H => tv σ H fun v H1 => td σ H1 fun x H2 => ty σ H2 fun y H3 => (∃ a H4, x = .ref a ∧ DPut H3 a y v H4 ∧ D.nx σ H4) ∨
      ∃ a m kvs xs l b d, x = .ref a ∧ y = .ref b ∧ H3 a = some (dtO a xs) ∧ DTx X.K H3 m a kvs xs ∧ RD X.K H3 m (tupT l) (.ref b) ∧ kvs.length < lim ∧ RD X.K H3 m d v ∧ ∀ u, RelV v u → D.nx σ (upd H3 a (dtO a (putX xs l b u)))) := by
  refine ⟨fun pins s σ H D I h => ?_⟩
  refine wpAny_Assign_Subscript (thn (hv.run pins s σ H _ I h) fun r s1 ⟨v, H1, I1, rv, q1⟩ => thn (ho.run pins s1 σ H1 _ I1 q1) fun u s2 ⟨x, H2, I2, rx, q2⟩ => thn (hi.run pins s2 σ H2 _ I2 q2) fun iv s3 ⟨y, H3, I3, ry, q3⟩ => ?_) hs
  rcases q3 with ⟨a, H4, ex, g, q3⟩ | ⟨a, m, kvs, xs, l, b, d, ex, ey, e1, t, rb, hl, rd, q3⟩
  · subst ex
    obtain rfl : u = Value.ref a := rx
    exact d_setItem (by omega) I3 g ry rv fun s4 I4 => ⟨σ, H4, I4, q3⟩
  · subst ex ey
    obtain rfl : u = Value.ref a := rx
    obtain rfl : iv = Value.ref b := ry
    exact dt_setItem hu I3 e1 t rb hl rd rv fun s4 I4 => ⟨σ, _, I4, q3 r rv⟩
/-- o[i] = v -/
theorem st_setI {o i v : E} {x y w : Expr} {p p' : Pos} (ho : PE X x (yI C k X W o)) (hi : PE X y (yI C k X W i)) (hv : PE X w (yI C k X W v)) : PS X (.Assign [.Subscript x y p] w p') (yS C k X W (.setI o i v)) := by
  have hu := g.units
  refine (ps_dputX hu ho hi hv sw_sub).imp fun E σ H h => ?_
  obtain ⟨m, env, S, ok, re, h⟩ := h
  simp only [ex] at h
  refine s_bind ok re h fun d S1 u H1 m1 e1 o1 re1 r1 h => ?_
  refine s_bind o1 re1 h fun d2 S2 u2 H2 m2 e2 o2 re2 r2 h => ?_
  refine s_bind o2 re2 h fun d3 S3 u3 H3 m3 e3 o3 re3 r3 h => ?_
  have r1 := (r1.mono e2).mono e3
  have r2 := r2.mono e3
  cases d2 with
  | ref a =>
    obtain ⟨ad, ha, rfl⟩ := OkS.refD r2
    obtain ⟨ob, hob, hO⟩ := o3.free ha
    simp only [setItem, M.bind, hob] at h
    cases ob with
    | dk kvs =>
      simp only at h
      cases q : asKY d3 with
      | none => rw [q] at h; exact h.elim
      | some ky =>
        rw [q] at h
        simp only at h
        split at h
        · rename_i hl
          split at hl
          · rename_i hl2
            cases hl
            obtain ⟨kvs', k1, k2, k3⟩ := hO
            have hy := keyV_of q r3
            subst hy
            have e := ext_mut (o := .dK (putK kvs' (keyV ky) u)) (List.mem_of_getElem? ha) k1 (fun _ z => by cases z) (fun _ _ z => by cases z) .dK
            have hlen : kvs'.length = kvs.length := RDk.length k2
            refine .inl ⟨ad, _, rfl, DPut.k k1 (by rw [hlen]; exact Nat.lt_of_lt_of_le hl2 lim_le), ?_⟩
            refine h _ m3 σ e (o3.mut ha k1 (fun _ z => by cases z) (fun _ _ z => by cases z) ⟨_, upd_same, (RDk.put k2 r1).mono e, ?_⟩) (re3.mono e)
            exact putA_len _ _ _ hl2
          · cases hl
        · rename_i hl
          split at hl <;> cases hl
        · exact h.elim
    | dt kvs =>
      simp only at h
      cases q : asTT d3 with
      | none => rw [q] at h; exact h.elim
      | some l =>
        rw [q] at h
        simp only at h
        split at h
        · rename_i hl
          split at hl
          · rename_i hl2
            cases hl
            obtain ⟨xs, k1, t⟩ := hO
            obtain ⟨rb, b', e6⟩ := asTT_RD q r3
            subst e6
            refine .inr ⟨ad, m3, kvs, xs, l, b', d, rfl, rfl, k1, t, rb, hl2, r1, fun w rw' => ?_⟩
            have e := ext_mut (o := dtO ad (putX xs l b' w)) (List.mem_of_getElem? ha) k1 (fun _ z => by cases z) (fun _ _ z => by cases z) .dt
            refine h _ m3 σ e (o3.mut ha k1 (fun _ z => by cases z) (fun _ _ z => by cases z) ⟨_, upd_same, (t.ent.put rb r1 rw').mono0 e.to0, t.sys, putT_keys t.nd, putT_lt hl2⟩) (re3.mono e)
          · cases hl
        · rename_i hl
          split at hl <;> cases hl
        · exact h.elim
    | _ => exact h.elim
  | _ => exact h.elim
theorem st_aug {i : Nat} {e : E} {x : Str} {v : Expr} {p p' : Pos} (hi : X.N[i]? = some x) (hl : Loc X.env.scope x) (hv : PE X v (yI C k X W e)) : PS X (.AugAssign (.Name x p) .Add v p') (yS C k X W (.aug i e)) := by
  refine (ps_aug g.nd hi hl hv ip_add (.inl (g.fn x))).imp fun E σ H h => ?_
  obtain ⟨m, env, S, ok, re, h⟩ := h
  simp only [ex] at h
  split at h
  · rename_i n q
    obtain ⟨y, q1, q2⟩ := re.2 i _ q
    simp only [RD] at q2
    subst q2
    refine ⟨.int n, q1, m, env, S, ok, re, ?_⟩
    cases q3 : ev (callI C.T C.G k) C.G e env S with
    | bad => rw [q3] at h; exact h
    | exc c S' => rw [q3] at h; exact h
    | ok d S' =>
      rw [q3] at h
      cases d with
      | int b =>
        intro H1 m1 e1 o1 u r1
        simp only [RD] at r1
        exact ⟨n, b, rfl, r1, h H1 m1 _ e1 o1 ((re.mono e1).set i (by simp only [RD]))⟩
      | _ => exact h.elim
  · exact h.elim
theorem st_if {c : E} {a b : Sts} {x : Expr} {as bs : List Stmt} {p : Pos} (hc : PT X x (yT C k X W c)) (ha : PSs X as (ySs C k X W a)) (hb : PSs X bs (ySs C k X W b)) : PS X (.If x as bs p) (yS C k X W (.ife c a b)) := by
  refine (ps_if hc ha hb).imp fun E σ H h => ?_
  obtain ⟨m, env, S, ok, re, h⟩ := h
  simp only [ex] at h
  refine s_bindT ok re h (fun d S hd => by cases d <;> first | rfl | exact absurd rfl (hd _)) fun b S1 H1 m1 e1 o1 re1 h => ?_
  cases b with
  | true => rw [if_pos rfl]; exact ⟨m1, env, S1, o1, re1, h⟩
  | false => rw [if_neg (by decide)]; exact ⟨m1, env, S1, o1, re1, h⟩
theorem st_ret {e : E} {x : Expr} {p : Pos} (hv : PE X x (yI C k X W e)) : PS X (.Return (some x) p) (yS C k X W (.ret e)) := by
  refine (ps_ret hv).imp fun E σ H h => ?_
  obtain ⟨m, env, S, ok, re, h⟩ := h
  simp only [ex] at h
  refine s_bind ok re h fun d S1 u H1 m1 e1 o1 re1 r1 h => ?_
  exact h H1 m1 u (Ext.refl _ _) o1 r1
theorem st_ex {e : E} {x : Expr} {p : Pos} (hv : PE X x (yI C k X W e)) (hn : notLc x = true) : PS X (.Expr x p) (yS C k X W (.ex e)) := by
  refine (ps_expr hv (sw_no hn)).imp fun E σ H h => ?_
  obtain ⟨m, env, S, ok, re, h⟩ := h
  simp only [ex] at h
  refine s_bind ok re h fun d S1 u H1 m1 e1 o1 re1 r1 h => ?_
  exact h H1 m1 σ (Ext.refl _ _) o1 re1
omit g in
theorem st_cont {p : Pos} : PS X (.Continue p) (yS C k X W .cont) := ps_continue.imp fun E σ H h => by
  obtain ⟨m, env, S, ok, re, h⟩ := h
  exact h H m σ (Ext.refl _ _) ok re
omit g in
theorem st_pass {p : Pos} : PS X (.Pass p) (yS C k X W .pass) := ps_pass.imp fun E σ H h => by
  obtain ⟨m, env, S, ok, re, h⟩ := h
  exact h H m σ (Ext.refl _ _) ok re
theorem st_raise {c : Nat} {x y : Str} {j : Nat} {p p2 p3 p' : Pos} (hc : C.Cn[c]? = some x) (hg : Gl X x) (hn : nmOk x = true) : PS X (.Raise (some (.Call (.Name x p) [.Constant (.str y) j p2] [] p3)) none p') (yS C k X W (.raise c)) := by
  obtain ⟨a, e1, e2, e3, e4, e5, e6⟩ := g.stat.exc c x hc hn
  have P := ps_raise (pos := p') g.calm g.tk (pmk_own (x := x) (m := y) (j := j) (p := p) (p2 := p2) (pos := p3) PySem.F.excBase_ValueError e3 e2 e4 (raises_own e5 e6) hg (nmOk_ok hn).1)
  refine P.imp fun E σ H h => ?_
  obtain ⟨m, env, S, ok, re, h⟩ := h
  simp only [ex] at h
  exact ⟨c, a, e1, rfl, rfl, h H m (Ext.refl _ _) ok⟩
/-- for -/
theorem st_for {tg : Tg} {sr : Sr} {b : Sts} {t it : Expr} {body : List Stmt} {p : Pos} (ht : trTg X.N X.env.scope tg t = true) (hi : PI X t it (ySr C k X W sr)) (hp : plainX it = true) (hb : PSs X body (ySs C k X W b)) : PS X (.For t it body [] p) (yS C k X W (.for tg sr b)) := by
  have hg : PG X t (gTg X.K tg) := pg_tg g.calm g.nd ht fun i hi x hx => .inl (g.fn x)
  refine (ps_for g.own g.calm hi hg hb (fold_plain hp)).imp fun E σ H h => ?_
  obtain ⟨m, env, S, ok, re, h⟩ := h
  simp only [ex] at h
  refine ⟨m, env, S, ok, re, h.bind fun xs S1 H1 m1 e1 o1 h J src hl => ?_⟩
  generalize hf : (fun x env' => match bindTg env' tg x with
    | none => M.bad
    | some env2 => exs (callI C.T C.G k) C.G b env2) = f at h
  refine ⟨fun i n σc Hc => n = xs.length - i ∧ i ≤ xs.length ∧ ∃ mc envc Sc, Ext H1 m1 Hc mc ∧ OkS X.K Hc mc Sc ∧ RelE X.K Hc mc envc σc ∧ AfS X.K mc Hc W E (forM f (xs.drop i) envc Sc), ⟨xs.length, by omega, Nat.zero_le _, m1, env, S1, Ext.refl _ _, o1, re.mono e1, h⟩, ?_⟩
  rintro i n σc Hc ⟨rfl, hil, mc, envc, Sc, ec, oc, rc, hc⟩
  by_cases hlt : i < xs.length
  · have hd : xs.drop i = xs[i] :: xs.drop (i + 1) := List.drop_eq_getElem_cons hlt
    rw [hd] at hc
    simp only [forM] at hc
    obtain ⟨go, yl⟩ := src.go i Hc mc Sc ec oc hlt
    refine .inr ⟨go, fun σ' H' => i + 1 ≤ xs.length ∧ ∃ mc envc Sc, Ext H1 m1 H' mc ∧ OkS X.K H' mc Sc ∧ RelE X.K H' mc envc σ' ∧ AfS X.K mc H' W E (forM f (xs.drop (i + 1)) envc Sc), fun σ' H' hN => ⟨xs.length - (i + 1), by omega, rfl, hN⟩, fun x H2 hy => ?_⟩
    obtain ⟨d, hd1, e2, o2, r2⟩ := yl x H2 hy
    rw [List.getElem?_eq_getElem hlt] at hd1
    cases hd1
    cases q3 : bindTg envc tg xs[i] with
    | none => rw [← hf] at hc; simp only [q3] at hc; exact hc.elim
    | some env' =>
      obtain ⟨σ', s1, s2, s3, s4⟩ := gTg_ok q3 r2 (rc.mono e2)
      refine s4 _ ⟨mc, env', Sc, o2, s1, ?_⟩
      have ef : f xs[i] envc Sc = exs (callI C.T C.G k) C.G b env' Sc := by rw [← hf]; simp only [q3]
      rw [ef] at hc
      match q4 : exs (callI C.T C.G k) C.G b env' Sc, hc with
      | .ok (.nx, env2) S4, hc => exact fun H' m' σ2 e' o' r' => ⟨hlt, m', env2, S4, (ec.trans e2).trans e', o', r', AfS.shift (e2.trans e') hc⟩
      | .ok (.cont, env2) S4, hc => exact fun H' m' σ2 e' o' r' => ⟨hlt, m', env2, S4, (ec.trans e2).trans e', o', r', AfS.shift (e2.trans e') hc⟩
      | .ok (.ret d, _) S4, hc => exact fun H' m' v e' o' r' => hc H' m' v (e2.trans e') o' r'
      | .exc c S4, hc => exact fun H' m' e' o' => hc H' m' (e2.trans e') o'
      | .bad, hc => exact hc
  · have hie : i = xs.length := by omega
    subst hie
    rw [List.drop_length] at hc
    simp only [forM] at hc
    exact .inl ⟨src.stop Hc mc ec, hc Hc mc σc (Ext.refl _ _) oc rc⟩
/-- while -/
theorem st_while {c : E} {b : Sts} {x : Expr} {body : List Stmt} {p : Pos} (hc : PT X x (yT C k X W c)) (hb : PSs X body (ySs C k X W b)) : PS X (.While x body [] p) (yS C k X W (.whl c b)) := by
  refine (ps_while g.own hc hb).imp fun E σ H h => ?_
  obtain ⟨m, env, S, ok, re, h⟩ := h
  simp only [ex] at h
  generalize hf : (fun env' => exs (callI C.T C.G k) C.G b env') = f at h
  refine ⟨fun n σc Hc => ∃ mc envc Sc, OkS X.K Hc mc Sc ∧ RelE X.K Hc mc envc σc ∧ AfS X.K mc Hc W E (whlM (fun env' => M.bind (ev (callI C.T C.G k) C.G c env') fun x => match x with
    | .bl b => M.pure b
    | _ => M.bad) f n envc Sc), ⟨fuel, m, env, S, ok, re, h⟩, ?_⟩
  rintro n σc Hc ⟨mc, envc, Sc, oc, rc, hc⟩
  cases n with
  | zero => exact hc.elim
  | succ n =>
    simp only [whlM] at hc
    refine ⟨mc, envc, Sc, oc, rc, ?_⟩
    simp only [M.bind] at hc
    cases q : ev (callI C.T C.G k) C.G c envc Sc with
    | bad => rw [q] at hc; exact hc
    | exc cc S' => rw [q] at hc; exact hc
    | ok d S1 =>
      rw [q] at hc
      cases d with
      | bl bb =>
        intro H1 m1 e1 o1
        refine ⟨bb, rfl, ?_⟩
        cases bb with
        | false => exact iteF (hc H1 m1 σc e1 o1 (rc.mono e1))
        | true =>
          refine iteT ⟨fun σ' H' => ∃ mc envc Sc, OkS X.K H' mc Sc ∧ RelE X.K H' mc envc σ' ∧ AfS X.K mc H' W E (whlM (fun env' => M.bind (ev (callI C.T C.G k) C.G c env') fun x => match x with
            | .bl b => M.pure b
            | _ => M.bad) f n envc Sc), fun σ' H' hN => ⟨n, by omega, hN⟩, m1, envc, S1, o1, rc.mono e1, ?_⟩
          simp only [M.pure] at hc
          have ef : f envc S1 = exs (callI C.T C.G k) C.G b envc S1 := by rw [← hf]
          rw [ef] at hc
          match q4 : exs (callI C.T C.G k) C.G b envc S1, hc with
          | .ok (.nx, env2) S4, hc => exact fun H' m' σ2 e' o' r' => ⟨m', env2, S4, o', r', AfS.shift (e1.trans e') hc⟩
          | .ok (.cont, env2) S4, hc => exact fun H' m' σ2 e' o' r' => ⟨m', env2, S4, o', r', AfS.shift (e1.trans e') hc⟩
          | .ok (.ret d, _) S4, hc => exact fun H' m' v e' o' r' => hc H' m' v (e1.trans e') o' r'
          | .exc c S4, hc => exact fun H' m' e' o' => hc H' m' (e1.trans e') o'
          | .bad, hc => exact hc
      | _ => exact hc.elim
end
/-! ### every statement -/
structure SS (C : Ctx) (k : Nat) (n : Nat) : Prop where
  s : ∀ (s : St), sizeOf s < n → ∀ (X : Cx) (W : Nat → Hp → Prop) (x : Stmt), GoodS C k X W → trSt X.N C.F C.Gn C.Cn X.env.scope s x = true → PS X x (yS C k X W s)
  ss : ∀ (s : Sts), sizeOf s < n → ∀ (X : Cx) (W : Nat → Hp → Prop) (x : List Stmt), GoodS C k X W → trSts X.N C.F C.Gn C.Cn X.env.scope s x = true → PSs X x (ySs C k X W s)
section
variable {C : Ctx} {k : Nat}
theorem names_two {N : List Str} {sc : Scope} {i : Nat} {is : List Nat} {x : Str} {p : Pos} {es : List Expr} (h : trNames N sc (i :: is) (.Name x p :: es) = true) : N[i]? = some x ∧ trNames N sc is es = true := by
  simp only [trNames, Bool.and_eq_true, decide_eq_true_eq] at h
  exact ⟨h.1.1, h.2⟩
theorem ss_s {n : Nat} (ih : SS C k n) (s : St) (hz : sizeOf s < n + 1) (X : Cx) (W : Nat → Hp → Prop) (x : Stmt) (g : GoodS C k X W) (h : trSt X.N C.F C.Gn C.Cn X.env.scope s x = true) : PS X x (yS C k X W s) := by
  unfold trSt at h
  split at h
  case h_1 i e x p v p' =>
    simp only [Bool.and_eq_true, decide_eq_true_eq] at h
    exact st_set g h.1.1 (locB_ok h.1.2) h.2
  case h_2 is e ts kk p v p' =>
    simp only [Bool.and_eq_true] at h
    exact st_unp g h.1.1 (sE g.toGood h.1.2) h.2
  case h_3 is es ts kk p vs k2 p2 p' =>
    simp only [Bool.and_eq_true, decide_eq_true_eq, Bool.or_eq_true] at h
    obtain ⟨⟨⟨h1, h2⟩, h3⟩, h4⟩ := h
    have hv := (sEs g.toGood h2).1
    rcases h4 with h4 | h4
    · exact st_par g h1 hv h3 h4
    · unfold parB at h4
      split at h4
      · simp only [Bool.and_eq_true, decide_eq_true_eq] at h4
        obtain ⟨a1, b1⟩ := names_two h1
        obtain ⟨a2, b2⟩ := names_two b1
        exact st_par2 g a1 a2 h4.1.1.1 h4.1.1.2 h4.1.2 hv h4.2
      · simp only [Bool.and_eq_true, decide_eq_true_eq] at h4
        obtain ⟨a1, b1⟩ := names_two h1
        obtain ⟨a2, b2⟩ := names_two b1
        obtain ⟨a3, b3⟩ := names_two b2
        obtain ⟨⟨⟨⟨⟨⟨c1, c2⟩, c3⟩, c4⟩, c5⟩, c6⟩, c7⟩ := h4
        exact st_par3 g a1 a2 a3 c1 c2 c3 c4 c5 c6 hv c7
      · cases h4
  case h_4 o i v x y p w p' =>
    simp only [Bool.and_eq_true] at h
    exact st_setI g (sE g.toGood h.1.1) (sE g.toGood h.1.2) (sE g.toGood h.2)
  case h_5 i e x p v p' =>
    simp only [Bool.and_eq_true, decide_eq_true_eq] at h
    exact st_aug g h.1.1 (locB_ok h.1.2) (sE g.toGood h.2)
  case h_6 c a b x p q p' =>
    simp only [Bool.and_eq_true] at h
    exact st_if g (sTe g.toGood h.1.1.1 h.1.1.2) (ih.ss a (by simp at hz; omega) X W p g h.1.2) (ih.ss b (by simp at hz; omega) X W q g h.2)
  case h_7 tg sr b t it body p =>
    simp only [Bool.and_eq_true] at h
    obtain ⟨a, b'⟩ := sSr g.toGood h.1.1 h.1.2
    exact st_for g h.1.1 a b' (ih.ss b (by simp at hz; omega) X W body g h.2)
  case h_8 c b x body p =>
    simp only [Bool.and_eq_true] at h
    exact st_while g (sTe g.toGood h.1.1 h.1.2) (ih.ss b (by simp at hz; omega) X W body g h.2)
  case h_9 e x p => exact st_ret g (sE g.toGood h)
  case h_10 e x p =>
    simp only [Bool.and_eq_true] at h
    exact st_ex g (sE g.toGood h.1) h.2
  case h_11 => exact st_cont
  case h_12 => exact st_pass
  case h_13 c x p _ _ _ _ p' =>
    simp only [Bool.and_eq_true, decide_eq_true_eq] at h
    exact st_raise g h.1.1 (glB_ok h.1.2) h.2
  case h_14 is e ts kk p v p' =>
    simp only [Bool.and_eq_true] at h
    exact st_unpL g h.1.1 (sE g.toGood h.1.2) h.2
  case h_15 => cases h
theorem ss_ss {n : Nat} (ih : SS C k n) (s : Sts) (hz : sizeOf s < n + 1) (X : Cx) (W : Nat → Hp → Prop) (x : List Stmt) (g : GoodS C k X W) (h : trSts X.N C.F C.Gn C.Cn X.env.scope s x = true) : PSs X x (ySs C k X W s) := by
  unfold trSts at h
  split at h
  · exact ss_nil
  · rename_i s ss x xs
    simp only [Bool.and_eq_true] at h
    exact ss_cons (ih.s s (by simp at hz; omega) X W x g h.1) (ih.ss ss (by simp at hz; omega) X W xs g h.2)
  · cases h
theorem stAll : ∀ n, SS C k n
  | 0 => ⟨fun _ h => absurd h (by omega), fun _ h => absurd h (by omega)⟩
  | n + 1 => ⟨ss_s (stAll n), ss_ss (stAll n)⟩
theorem sSs {X : Cx} {W : Nat → Hp → Prop} (g : GoodS C k X W) {s : Sts} {x : List Stmt} (h : trSts X.N C.F C.Gn C.Cn X.env.scope s x = true) : PSs X x (ySs C k X W s) := (stAll (sizeOf s + 1)).ss s (by omega) X W x g h
end
end G11

/-! Fin: defs, and the law's end -/
namespace G11
open PySem PySem.Spec PyProof.Rows L2
variable [Fns]

/-- what a def that makes lambdas tells -/
def MakerOk (C : Ctx) (fd : FuncData) (x : Str) : Prop := C.Gn.lam = true ∧ ∃ c P, fd.code = .ref c ∧ (c, P) ∈ Fns.cs ∧ (P, x ++ ".<locals>." ++ "<lambda>") ∈ Fns.tabs ∧ ∀ p ∈ Fns.tabs, p.1 = P → p.2 = x ++ ".<locals>." ++ "<lambda>"
structure DefOk (C : Ctx) (K : PySem.W.Frag) (mg : Str → Option Value) (f : Nat) (fn : Fn) (x : Str) : Prop where
  ex : ∃ (fa : Addr) (fd : FuncData) (ps N : List Str) (st : Stmt) (b : Bool), ps.length = fn.pars ∧ N.length = fn.names ∧ mg x = some (.ref fa) ∧ L2.Fun K x x st fa fd ∧ (Binds K fd ps [] ∧ KwOk C K f fd ps) ∧ FnScope N ps (defScope st) ∧
    trSts N C.F (C.lm b).Gn C.Cn (defScope st) fn.body (defBody st) = true ∧ (b = true → MakerOk C fd x)

theorem rel_start {K : PySem.W.Frag} {H : Hp} {m : Ms} {ds : List D} {vs : List V} (r : RDs K H m ds vs) (N : List Str) {n : Nat} (hn : N.length = n) : RelE K H m (startD n ds) (L2.start N vs) := by
  have hl := r.length
  refine ⟨?_, fun i d q => ?_⟩
  · unfold startD L2.start
    rw [List.length_append, List.length_append, List.length_map, List.length_map, List.length_replicate, List.length_replicate, hl, hn]
  · unfold startD at q
    unfold L2.start
    by_cases hi : i < ds.length
    · rw [List.getElem?_append_left (by rw [List.length_map]; exact hi), List.getElem?_map] at q
      obtain ⟨d', q1, q2⟩ := Option.map_eq_some_iff.mp q
      cases q2
      obtain ⟨v, q3, q4⟩ := r.get q1
      exact ⟨v, by rw [List.getElem?_append_left (by rw [List.length_map, hl]; exact hi), List.getElem?_map, q3]; rfl, q4⟩
    · rw [List.getElem?_append_right (by rw [List.length_map]; omega)] at q
      obtain ⟨_, q⟩ := List.getElem?_eq_some_iff.mp q
      simp at q

/-! ### a pure def: a store of its own -/
section
variable {K : PySem.W.Frag} {H H' : Hp} {m m2 : Ms}
def Ms.shut (m : Ms) : Ms := ⟨[], m.ix ++ m.hid⟩
mutual
/-- data without refs stand for the same where fewer places are shut -/
theorem RD.dat (hout : ∀ a xs, H a = some (.lst xs) → m.out a → m2.out a) : ∀ {d : D} {v : V}, dat d = true → RD K H m d v → RD K H m2 d v
  | .non, _, _, h => h
  | .bl _, _, _, h => h
  | .int _, _, _, h => h
  | .str _, _, _, h => h
  | .tup ds, v, hd, h => by
    simp only [RD] at h ⊢
    simp only [G11.dat] at hd
    obtain ⟨a, xs, e1, e2, e3, e4⟩ := h
    exact ⟨a, xs, e1, e2, RDs.dats hout hd e3, e4⟩
  | .lst ds, v, hd, h => by
    simp only [RD] at h ⊢
    simp only [G11.dat] at hd
    obtain ⟨a, xs, e1, e2, e3, e4, e5⟩ := h
    exact ⟨a, xs, e1, e2, hout a xs e2 e3, RDs.dats hout hd e4, e5⟩
  | .ref _, _, hd, _ => by simp [G11.dat] at hd
  | .fn _, _, hd, _ => by simp [G11.dat] at hd
  | .scl _, _, _, h => by
    simp only [RD] at h ⊢
    obtain ⟨a, e1, e2⟩ := h
    exact ⟨a, e1, e2.imp id fun z => ⟨z.1, hout a _ z.1 z.2⟩⟩
theorem RDs.dats (hout : ∀ a xs, H a = some (.lst xs) → m.out a → m2.out a) : ∀ {ds : List D} {vs : List V}, G11.dats ds = true → RDs K H m ds vs → RDs K H m2 ds vs
  | [], _, _, h => by simp only [RDs] at h ⊢; exact h
  | d :: ds, _, hd, h => by
    simp only [RDs] at h ⊢
    simp only [G11.dats, Bool.and_eq_true] at hd
    obtain ⟨v, vs', e1, e2, e3⟩ := h
    exact ⟨v, vs', e1, RD.dat hout hd.1 e2, RDs.dats hout hd.2 e3⟩
end
theorem OkS.shut {S : Store} (ok : OkS K H m S) : OkS K H m.shut [] := by
  refine ⟨rfl, List.nodup_nil, fun a ha => ?_, fun i a o q _ => (by simp [Ms.shut] at q), ok.tabs⟩
  rcases List.mem_append.mp ha with z | z
  · obtain ⟨i, hi⟩ := List.mem_iff_getElem?.mp z
    obtain ⟨o, _, q⟩ := ok.free hi
    exact q.some
  · exact ok.hd a z
theorem shut_out {a : Addr} (h : m.out a) : m.shut.out a := ⟨by simp [Ms.shut], fun z => (List.mem_append.mp z).elim h.1 h.2⟩
/-- back from a pure def -/
theorem back_pure {S : Store} (ok : OkS K H m S) {mm : Ms} (e : Ext H m.shut H' mm) : Ext H m H' m ∧ OkS K H' m S := by
  have keep : ∀ a o, H a = some o → (∀ ps, o ≠ .tbl ps) → H' a = some o := fun a o h n => e.keepN a o h (by simp [Ms.shut]) n
  have x : Ext H m H' m := ⟨fun a o h _ n => keep a o h n, e.tup, e.frz, ⟨[], by simp, fun _ z => by cases z⟩, fun _ z => z, fun _ z => .inl z, e.old, e.tab⟩
  refine ⟨x, ok.mono x fun a ha => ?_⟩
  obtain ⟨i, hi⟩ := List.mem_iff_getElem?.mp ha
  obtain ⟨o, _, q⟩ := ok.free hi
  obtain ⟨u, q2⟩ := Option.isSome_iff_exists.mp q.some
  rw [q2, keep a u q2 (q.noCode q2).1]
theorem back_out {S : Store} (ok : OkS K H m S) {mm : Ms} (e : Ext H m.shut H' mm) {a : Addr} (h : a ∉ mm.hid) : m.out a :=
  ⟨fun z => h (e.hid a (List.mem_append_left _ z)), fun z => h (e.hid a (List.mem_append_right _ z))⟩
theorem freeze_rd {S S' : Store} (ok : OkS K H m S) {mm : Ms} (e : Ext H m.shut H' mm) (ok' : OkS K H' mm S') {d d' : D} {v : V} (hf : freeze S' d = some d') (r : RD K H' mm d v) : RD K H' m d' v := by
  have out : ∀ a xs, H' a = some (.lst xs) → mm.out a → m.out a := fun a xs _ h => back_out ok e h.2
  cases d with
  | ref i =>
    obtain ⟨a, ha, rfl⟩ := OkS.refD r
    obtain ⟨o, ho, hO⟩ := ok'.free ha
    simp only [freeze, ho] at hf
    cases o with
    | lst xs =>
      simp only at hf
      split at hf
      · rename_i hd
        cases hf
        obtain ⟨vs, e1, e2, e3⟩ := hO
        simp only [RD]
        refine ⟨a, vs, rfl, e1, ?_, RDs.dats out hd e2, e3⟩
        have hn : H a = none := by
          obtain ⟨n, z1, z2⟩ := e.grow
          have z3 := List.mem_of_getElem? ha
          rw [z1] at z3
          rcases List.mem_append.mp z3 with z | z
          · simp [Ms.shut] at z
          · exact z2 a z
        exact ok.freshO hn
      · cases hf
    | _ => cases hf
  | _ =>
    simp only [freeze] at hf
    split at hf
    · rename_i hd
      cases hf
      exact RD.dat out hd r
    · cases hf
end

section
variable {C : Ctx} {P : Program} {w : World} {K : PySem.W.Frag} {mg : Str → Option Value} {base : Heap}
theorem tab_zero (hd : ∀ (f : Nat) (fn : Fn) (x : Str), C.T f = some fn → C.F[f]? = some x → nmOk x = true → DefOk C K mg f fn x) : Tab C P w K mg base 0 := by
  intro f fn x h1 h2 h3
  obtain ⟨fa, fd, ps, N, st, b, a1, a2, a3, a4, a5, a6, a7, a8⟩ := (hd f fn x h1 h2 h3).ex
  refine ⟨fa, fd, ps, a1, a3, a4.kp, a5, ⟨fun vs H Q E h => by rw [h.1, a1], fun A outer s H args us vs Q E _ _ _ _ h => ?_⟩⟩
  obtain ⟨_, m, S, ds, _, _, h⟩ := h
  simp only [callI] at h
  exact h.elim
theorem def_ok (st0 : Stat C K mg) (tb : ∀ p ∈ Fns.cs, LamX.TabB base mg p.1 p.2) {k f : Nat} {fn : Fn} {x : Str} {fa : Addr} {fd : FuncData} {ps N : List Str} {st : Stmt} {b : Bool} (ih : ∀ j, j ≤ k → Tab C P w K mg base j) (h1 : C.T f = some fn) (a1 : ps.length = fn.pars) (a2 : N.length = fn.names) (a4 : L2.Fun K x x st fa fd) (a6 : FnScope N ps (defScope st))
    (a7 : trSts N C.F (C.lm b).Gn C.Cn (defScope st) fn.body (defBody st) = true) (a8 : b = true → MakerOk C fd x) : FnOk P w K mg base (L2.CX P w) (k + 1) fa fd ps (spI K C (k + 1) f fn.pars) := by
  obtain ⟨oc, od, kV, doc, pm, an, cdv, ct, osl, efd, lk, hcd⟩ := a4.ex
  subst efd
  refine fn_of lk hcd a6 (fun vs H Q E h => by rw [h.1, a1]) fun A outer s H vs Q E hr hsp => ?_
  obtain ⟨hlen, m, S, ds, ok, rd, h⟩ := hsp
  -- what the body is to reach
  have core : ∀ (m : Ms) (S : Store) (Q' : VK) (E' : Nat → Hp → Prop), OkS K H m S → RDs K H m ds vs → (∀ c H', E' c H' → ∀ a, C.cl[c]? = some a → E (.ref a) none H') → (∀ v H', Q' v H' → Q v H') →
      Af K m H E' (PV K Q') (runBody (callI C.T C.G k) C.G fn ds S) → ∃ t, PSs (cxOf (L2.CX P w) P w K mg base N x (defScope st) fa cdv A outer s H E) (defBody st) t ∧ t { nx := fun _ H' => Q .non H', rt := Q } (L2.start N vs) H := by
    intro m S Q' E' ok rd hE hQ h
    have tk : Takes (cxOf (L2.CX P w) P w K mg base N x (defScope st) fa cdv A outer s H E) (wx C.cl E') := by
      refine (takes_of (E := E) rfl rfl rfl rfl).imp fun cls d σ H' hw => ?_
      obtain ⟨c, a, q1, rfl, rfl, q2⟩ := hw
      exact hE c H' q2 a q1
    have g : GoodS (C.lm b) k (cxOf (L2.CX P w) P w K mg base N x (defScope st) fa cdv A outer s H E) E' := ⟨⟨rfl, a6.nd, hr, tk, ih, st0.lm (fun z => (a8 z).1), fun z => by
      obtain ⟨_, c, Pt, q1, q2, q3, q4⟩ := a8 z
      exact ⟨c, Pt, q1, tb _ q2, q3, q4⟩⟩, fun _ => rfl, passes_of rfl⟩
    refine ⟨_, sSs g a7, m, startD fn.names ds, S, ok, rel_start rd N a2, ?_⟩
    unfold runBody at h
    split at h
    · show AfS K m H E' _ (exs (callI C.T C.G k) C.G fn.body (startD fn.names ds) S)
      match q : exs (callI C.T C.G k) C.G fn.body (startD fn.names ds) S, h with
      | .ok (.nx, env') S', h => exact fun H' m' σ' e' o' r' => hQ _ _ (h H' m' e' o' .non (by simp only [RD]))
      | .ok (.ret d, env') S', h => exact fun H' m' v e' o' r' => hQ _ _ (h H' m' e' o' v r')
      | .ok (.cont, env') S', h => exact h.elim
      | .exc c S', h => exact h
      | .bad, h => exact h
    · exact h.elim
  rw [callI_succ _ _ _ _ _ _ h1] at h
  by_cases hp : fn.pur = true
  · rw [if_pos hp] at h
    split at h
    · rename_i hdat
      refine core m.shut [] Q (fun c H' => ∀ a, C.cl[c]? = some a → E (.ref a) none H') ok.shut (RDs.dats (fun a xs _ z => shut_out z) hdat rd) (fun c H' z => z) (fun _ _ z => z) ?_
      cases q : runBody (callI C.T C.G k) C.G fn ds [] with
      | bad => rw [q] at h; exact h
      | exc c S' =>
        rw [q] at h
        intro H' m' e' o'
        obtain ⟨b1, b2⟩ := back_pure ok e'
        exact h H' m b1 b2
      | ok d S' =>
        rw [q] at h
        simp only at h
        cases q2 : freeze S' d with
        | none => rw [q2] at h; exact h.elim
        | some d' =>
          rw [q2] at h
          intro H' m' e' o' v r
          obtain ⟨b1, b2⟩ := back_pure ok e'
          exact h H' m b1 b2 v (freeze_rd ok e' o' q2 r)
    · exact h.elim
  · rw [if_neg hp] at h
    exact core m S Q _ ok rd (fun c H' z => z) (fun _ _ z => z) h
theorem tab_succ (st0 : Stat C K mg) (tb : ∀ p ∈ Fns.cs, LamX.TabB base mg p.1 p.2) (hd : ∀ (f : Nat) (fn : Fn) (x : Str), C.T f = some fn → C.F[f]? = some x → nmOk x = true → DefOk C K mg f fn x) {k : Nat} (ih : ∀ j, j ≤ k → Tab C P w K mg base j) : Tab C P w K mg base (k + 1) := by
  intro f fn x h1 h2 h3
  obtain ⟨fa, fd, ps, N, st, b, a1, a2, a3, a4, a5, a6, a7, a8⟩ := (hd f fn x h1 h2 h3).ex
  exact ⟨fa, fd, ps, a1, a3, a4.kp, a5, def_ok st0 tb ih h1 a1 a2 a4 a6 a7 a8⟩
theorem tab_all (st0 : Stat C K mg) (tb : ∀ p ∈ Fns.cs, LamX.TabB base mg p.1 p.2) (hd : ∀ (f : Nat) (fn : Fn) (x : Str), C.T f = some fn → C.F[f]? = some x → nmOk x = true → DefOk C K mg f fn x) : ∀ k j, j ≤ k → Tab C P w K mg base j
  | 0, j, h => by
    obtain rfl : j = 0 := by omega
    exact tab_zero hd
  | k + 1, j, h => by
    rcases Nat.lt_or_ge j (k + 1) with z | z
    · exact tab_all st0 tb hd k j (by omega)
    · obtain rfl : j = k + 1 := by omega
      exact tab_succ st0 tb hd (tab_all st0 tb hd k)
end

/-- the law's promise: it lets no exception out -/
def spEnd (T : Nat → Option Fn) (G : List D) (k f : Nat) (K : PySem.W.Frag) : Sp := fun vs H Q _ => vs.length = 1 ∧ ∃ m S ds, OkS K H m S ∧ RDs K H m ds vs ∧ Af K m H (fun _ _ => False) (PV K Q) (callI T G k f ds S)
theorem spEnd_imp {C : Ctx} {k f : Nat} {K : PySem.W.Frag} {vs : List V} {H : Hp} {Q : VK} {E : XK} (h : spEnd C.T C.G k f K vs H Q E) : spI K C k f 1 vs H Q E := by
  obtain ⟨h1, m, S, ds, h2, h3, h4⟩ := h
  exact ⟨h1, m, S, ds, h2, h3, h4.impW fun _ _ z => z.elim⟩
theorem end_sp {T : Nat → Option Fn} {G : List D} {k f : Nat} {K : PySem.W.Frag} (hlaw : ∀ ns : List Int, ns.length ≤ 63 → ∃ S, callI T G k f [.scl ns] [] = .ok (.bl true) S) (H : Hp) (a : Addr) (ns : List Int) (hl : ns.length ≤ 63) (ht : LamX.Tabs Fns.tabs H) (hS : SqL K H a (ns.map V.int)) :
    spEnd T G k f K [.ref a] H (fun v _ => v = .bl true) fun _ _ _ => False := by
  refine ⟨rfl, ⟨[], []⟩, [], [.scl ns], ⟨rfl, List.nodup_nil, (fun _ z => by cases z), (fun i a o q _ => by simp at q), ht⟩, ?_, ?_⟩
  · simp only [RDs, RD]
    refine ⟨_, [], rfl, ⟨a, rfl, ?_⟩, rfl⟩
    rcases hS with (h | ⟨o, h⟩) | h
    · exact .inr ⟨h, by simp, by simp⟩
    · exact .inl (.inl ⟨o, h⟩)
    · exact .inl (.inr h)
  · obtain ⟨S, e⟩ := hlaw ns hl
    rw [e]
    intro H' m' _ _ v r
    simp only [RD] at r
    exact r
omit [Fns] in
theorem no_cx {P : Program} {w : World} {H : Hp} {s : Shared} {e : Value} {s' : Shared} (h : L2.CX P w [] H s (fun _ _ _ => False) e s') : False := by
  obtain ⟨_, _, _, _, _, _, _, _, _, _, _, _, z⟩ := h
  exact z

/-! ### tables of code objects -/
/-- a code object of the written part and its table -/
def hdOk (c : Addr) (vs : Array Value) (P : Addr) : Prop := vs[11]? = some (.ref P) ∧ vs.getD 11 .none = .ref P ∧ (∃ a b, vs.getD 18 .none = .str a b) ∧ (∃ a b, vs.getD 7 .none = .int a b) ∧ (∃ a, vs.getD 9 .none = .bool a) ∧ (∃ a b, vs.getD 10 .none = .int a b) ∧ c ≠ P
omit [Fns] in
theorem codeHd_of {K : PySem.W.Frag} {h : Heap} {c P : Addr} {dd : Option Addr} {vs : Array Value} {sl : Array (Option Value)} (X : K.In h) (lk : K.lookup c = some ⟨.type "code", dd, .fields vs, sl⟩) (ok : hdOk c vs P) : PySem.W.CodeHd h c P := by
  obtain ⟨h1, h2, ⟨a, b, h3⟩, ⟨a2, b2, h4⟩, ⟨a3, h5⟩, ⟨a4, b4, h6⟩, h7⟩ := ok
  exact ⟨_, vs, a, b, a2, b2, a3, a4, b4, X _ _ lk, rfl, rfl, h1, h2, h3, h4, h5, h6, h7⟩
omit [Fns] in
/-- the end, the tables of the defs told -/
theorem walk_tabs {l : PySem.W.OpenLaw} {n k : Nat} {q : Program} {loose : List Str} {XP : (Str → Option Value) → Heap → Prop} {YP : World → Heap → Prop} {d : DefRec} {K : Params → PySem.W.Frag} {CXw : World → CXT} {x : Str}
    (hn : l.most = some n) (hn2 : n ≤ sizeLine) (hdf : d.params.defaults = []) (hr : Room k callerA) (hY : ∀ (w : World) (h : Heap), YP w h → (K w.params).In h)
    (F : ∀ (w : World) (mg : Str → Option Value) (fa : Addr) (h : Heap), (K w.params).In h → h.Ns mainGlobals mg → mg d.name = some (.ref fa) → (∀ y : Str, ((recsOf q).any fun e => e.name == y) = true → ∀ b, mg y = some (.ref b) → LamX.OwnTab (K w.params) b h) → LamX.LawAtS l w (K w.params) (CXw w) k n x mg fa h)
    (hC : ∀ (w : World) (H : Hp) (s : Shared) (e : Value) (s' : Shared), CXw w [] H s (fun _ _ _ => False) e s' → False) : PySem.W.WalkO q loose XP YP l.row.toRowW d [] (fun f vs => PySem.call f vs) := by
  refine Att.attach_callB hn hdf fun w s₀ t mg mb fa o pm cd doc a vs ns G Y ho hd hcd hmg hobj hints hlen hbits hg => ?_
  have KX := hY w _ Y
  have tabs : ∀ y : Str, ((recsOf q).any fun e => e.name == y) = true → ∀ b, mg y = some (.ref b) → LamX.OwnTab (K w.params) b t.heap := by
    intro y hy b hb c P ob fb e dd us sl z1 z2 z3 z4 z5
    obtain ⟨r, hm, hr1⟩ := List.any_eq_true.mp hy
    obtain rfl : r.name = y := beq_iff_eq.mp hr1
    obtain ⟨a', o', fd', c', P', w1, w2, w3, w4, _, w6⟩ := G.T.tab r hm
    have e1 : a' = b := by rw [hb] at w1; cases w1; rfl
    subst e1
    rw [KX _ _ z1] at w2; cases w2
    rw [z2] at w3; cases w3
    rw [z3] at w4; cases w4
    obtain ⟨⟨oc, vc, v1, _, v3, v4⟩, v5⟩ := w6
    rw [KX _ _ z4] at v1; cases v1
    cases v3
    rw [z5] at v4; cases v4
    exact v5
  obtain ⟨fd, cs, sp, r1, r2, r3, r4, r5, r6⟩ := F w mg fa _ KX G.T.g hmg tabs
  exact LamX.law_callTs KX G.T.g G.T.b G.T.builtins G.T.nolimit hg r1 r2 r3 G.T.bmain hobj hints (Nat.le_trans hlen hn2) hr r6 r4 (fun H hH hS => r5 H a ns hlen hbits hH hS) fun H e s' => hC w H t e s'
end G11

/-! the defs of the laws, as codes; printed by gen.py com -/
namespace G11
/-- is_between -/
def f0 : Fn := ⟨3, 3, true, (.cons (.ret (.and (.cons (.bi (.isi .int) (.var 0)) (.cons (.not (.bi (.isi .bool) (.var 0))) (.cons (.chain .le .le (.var 1) (.var 0) (.var 2)) .nil))))) .nil)⟩
/-- is_ascending -/
def f1 : Fn := ⟨3, 1, true, (.cons (.ret (.bi .all (.lc [1, 2] (.tp [1, 2]) (.zip (.var 0) (.sl (.var 0) (.some (.int 1)) .no)) .nil (.cmp .lt (.var 1) (.var 2))))) .nil)⟩
/-- is_record -/
def f2 : Fn := ⟨3, 2, true, (.cons (.ife (.or (.cons (.not (.bi (.isi .tuple) (.var 1))) (.cons (.cmp .ne (.bi .len (.var 1)) (.var 0)) .nil))) (.cons (.ret (.bl false)) .nil) .nil) (.cons (.ret (.bi .all (.lc [2] (.nm 2) (.val (.var 1)) .nil (.or (.cons (.isN (.var 2)) (.cons (.call 0 (.cons (.var 2) (.cons (.int 0) (.cons (.int 9) .nil)))) .nil)))))) .nil))⟩
/-- is_records -/
def f3 : Fn := ⟨3, 1, true, (.cons (.ife (.or (.cons (.not (.bi (.isi .tuple) (.var 0))) (.cons (.not (.chain .le .le (.int 1) (.bi .len (.var 0)) (.glb 1))) (.cons (.not (.bi (.isi .tuple) (.idx (.var 0) (.int 0)))) .nil)))) (.cons (.ret (.bl false)) .nil) .nil) (.cons (.set 1 (.bi .len (.idx (.var 0) (.int 0)))) (.cons (.ret (.and (.cons (.chain .le .le (.int 1) (.var 1) (.int 4)) (.cons (.bi .all (.lc [2] (.nm 2) (.val (.var 0)) .nil (.call 2 (.cons (.var 1) (.cons (.var 2) .nil))))) .nil)))) .nil)))⟩
/-- is_key -/
def f4 : Fn := ⟨3, 2, true, (.cons (.ife (.or (.cons (.not (.bi (.isi .tuple) (.var 1))) (.cons (.cmp .eq (.var 1) (.tup .nil)) (.cons (.not (.bi .all (.lc [2] (.nm 2) (.val (.var 1)) .nil (.call 0 (.cons (.var 2) (.cons (.int 0) (.cons (.bin .sub (.var 0) (.int 1)) .nil))))))) .nil)))) (.cons (.ret (.bl false)) .nil) .nil) (.cons (.ret (.call 1 (.cons (.var 1) .nil))) .nil))⟩
/-- is_rules -/
def f5 : Fn := ⟨5, 1, true, (.cons (.ife (.or (.cons (.not (.bi (.isi .tuple) (.var 0))) (.cons (.cmp .ne (.bi .len (.var 0)) (.int 2)) (.cons (.not (.bi .all (.lc [4] (.nm 4) (.val (.var 0)) .nil (.bi (.isi .tuple) (.var 4))))) .nil)))) (.cons (.ret (.bl false)) .nil) .nil) (.cons (.unp [1, 2] (.var 0)) (.cons (.ife (.or (.cons (.not (.chain .le .le (.int 1) (.bi .len (.var 2)) (.int 4))) (.cons (.not (.bi .all (.lc [4] (.nm 4) (.val (.var 2)) .nil (.and (.cons (.bi (.isi .str) (.var 4)) (.cons (.cmp .isin (.var 4) (.glb 0)) .nil)))))) .nil))) (.cons (.ret (.bl false)) .nil) .nil) (.cons (.ret (.and (.cons (.cmp .le (.bi .len (.var 1)) (.int 5)) (.cons (.bi .all (.lc [3] (.nm 3) (.val (.var 1)) .nil (.call 4 (.cons (.bi .len (.var 2)) (.cons (.var 3) .nil))))) (.cons (.call 1 (.cons (.var 1) .nil)) .nil))))) .nil))))⟩
/-- check_records -/
def f6 : Fn := ⟨1, 1, true, (.cons (.ife (.not (.call 3 (.cons (.var 0) .nil))) (.cons (.raise 1) .nil) .nil) .nil)⟩
/-- check_rules -/
def f7 : Fn := ⟨1, 1, true, (.cons (.ife (.not (.call 5 (.cons (.var 0) .nil))) (.cons (.raise 2) .nil) .nil) .nil)⟩
/-- check_both -/
def f8 : Fn := ⟨2, 2, true, (.cons (.ex (.call 6 (.cons (.var 0) .nil))) (.cons (.ex (.call 7 (.cons (.var 1) .nil))) (.cons (.ife (.cmp .ne (.bi .len (.idx (.var 1) (.int 1))) (.bi .len (.idx (.var 0) (.int 0)))) (.cons (.raise 2) .nil) .nil) .nil)))⟩
/-- is_group -/
def f9 : Fn := ⟨3, 2, true, (.cons (.ife (.or (.cons (.not (.bi (.isi .tuple) (.var 1))) (.cons (.cmp .eq (.var 1) (.tup .nil)) (.cons (.not (.bi .all (.lc [2] (.nm 2) (.val (.var 1)) .nil (.call 0 (.cons (.var 2) (.cons (.int 0) (.cons (.bin .sub (.var 0) (.int 1)) .nil))))))) .nil)))) (.cons (.ret (.bl false)) .nil) .nil) (.cons (.ret (.call 1 (.cons (.var 1) .nil))) .nil))⟩
/-- check_group -/
def f10 : Fn := ⟨2, 2, true, (.cons (.ife (.not (.call 9 (.cons (.bi .len (.var 0)) (.cons (.var 1) .nil)))) (.cons (.raise 3) .nil) .nil) .nil)⟩
/-- taken -/
def f11 : Fn := ⟨6, 4, true, (.cons (.set 4 (.lc [5] (.nm 5) (.val (.var 3)) (.cons (.notN (.idx (.idx (.var 0) (.var 5)) (.var 2))) .nil) (.idx (.idx (.var 0) (.var 5)) (.var 2)))) (.cons (.ife (.cmp .eq (.var 1) (.str [102, 105, 114, 115, 116])) (.cons (.ret (.bi .tuple (.sl (.var 4) .no (.some (.int 1))))) .nil) .nil) (.cons (.ife (.cmp .eq (.var 1) (.str [108, 97, 115, 116])) (.cons (.ret (.bi .tuple (.sl (.var 4) (.some (.neg (.int 1))) .no))) .nil) .nil) (.cons (.ret (.bi .tuple (.sset (.var 4)))) .nil))))⟩
/-- values_for -/
def f12 : Fn := ⟨5, 3, true, (.cons (.ret (.bi .tuple (.lc [3, 4] (.tp [3, 4]) (.enum (.var 1)) .nil (.call 11 (.cons (.var 0) (.cons (.var 4) (.cons (.var 3) (.cons (.var 2) .nil)))))))) .nil)⟩
/-- values_of -/
def f13 : Fn := ⟨3, 3, true, (.cons (.ex (.call 8 (.cons (.var 0) (.cons (.var 1) .nil)))) (.cons (.ex (.call 10 (.cons (.var 0) (.cons (.var 2) .nil)))) (.cons (.ret (.call 12 (.cons (.var 0) (.cons (.idx (.var 1) (.int 1)) (.cons (.var 2) .nil))))) .nil)))⟩
/-- do_agree -/
def f14 : Fn := ⟨5, 3, true, (.cons (.ret (.bi .all (.lc [3] (.nm 3) (.val (.var 2)) .nil (.bi .any (.lc [4] (.nm 4) (.val (.idx (.var 0) (.var 3))) .nil (.cmp .isin (.var 4) (.idx (.var 1) (.var 3)))))))) .nil)⟩
/-- keys_for -/
def f15 : Fn := ⟨8, 4, true, (.cons (.par [4, 5] (.cons (.call 12 (.cons (.var 0) (.cons (.idx (.var 1) (.int 1)) (.cons (.var 2) .nil)))) (.cons (.call 12 (.cons (.var 0) (.cons (.idx (.var 1) (.int 1)) (.cons (.var 3) .nil)))) .nil))) (.cons (.ret (.lc [6, 7] (.tp [6, 7]) (.enum (.idx (.var 1) (.int 0))) (.cons (.call 14 (.cons (.var 4) (.cons (.var 5) (.cons (.var 7) .nil)))) .nil) (.var 6))) .nil))⟩
/-- matching_keys -/
def f16 : Fn := ⟨5, 4, true, (.cons (.ex (.call 8 (.cons (.var 0) (.cons (.var 1) .nil)))) (.cons (.ex (.call 10 (.cons (.var 0) (.cons (.var 2) .nil)))) (.cons (.ex (.call 10 (.cons (.var 0) (.cons (.var 3) .nil)))) (.cons (.ife (.bi .any (.lc [4] (.nm 4) (.val (.var 2)) .nil (.cmp .isin (.var 4) (.var 3)))) (.cons (.raise 3) .nil) .nil) (.cons (.ret (.bi .tuple (.call 15 (.cons (.var 0) (.cons (.var 1) (.cons (.var 2) (.cons (.var 3) .nil))))))) .nil)))))⟩
/-- _law_draw -/
def f17 : Fn := ⟨6, 3, false, (.cons (.setI (.var 1) (.str [99, 111, 117, 110, 116]) (.bin .add (.idx (.var 1) (.str [99, 111, 117, 110, 116])) (.int 1))) (.cons (.set 3 (.ifL 0 (.bin .mod (.idx (.var 1) (.str [99, 111, 117, 110, 116])) (.bi .len (.var 0))) (.int 0))) (.cons (.set 4 (.meth .get (.idx (.var 1) (.str [114, 101, 115, 116, 115])) (.cons (.var 3) (.cons (.ifL 0 (.idx (.var 0) (.var 3)) (.int 0)) .nil)))) (.cons (.ife (.cmp .ge (.var 4) (.bin .pow (.int 10) (.int 18))) (.cons (.setI (.idx (.var 1) (.str [114, 101, 115, 116, 115])) (.var 3) (.bin .fdiv (.var 4) (.var 2))) (.cons (.ret (.bin .mod (.var 4) (.var 2))) .nil)) .nil) (.cons (.set 5 (.bin .mod (.bin .add (.var 4) (.bin .mul (.int 104729) (.idx (.var 1) (.str [99, 111, 117, 110, 116])))) (.int 4294967291))) (.cons (.set 5 (.bin .mod (.bin .pow (.var 5) (.int 5)) (.int 4294967279))) (.cons (.ret (.bin .mod (.bin .fdiv (.bin .mod (.bin .add (.bin .mul (.bin .fdiv (.var 5) (.int 64)) (.int 69621)) (.var 5)) (.int 4294967231)) (.int 8)) (.var 2))) .nil)))))))⟩
/-- _law_begun -/
def f18 : Fn := ⟨0, 0, false, (.cons (.ret (.newK (.cons (.str [99, 111, 117, 110, 116]) (.cons (.int 0) (.cons (.str [114, 101, 115, 116, 115]) (.cons (.newK .nil) .nil)))))) .nil)⟩
/-- _law_rules -/
def f19 : Fn := ⟨9, 3, false, (.cons (.set 3 (.newL .nil)) (.cons (.for (.nm 4) (.rng (.bin .add (.call 17 (.cons (.var 0) (.cons (.var 1) (.cons (.int 4) .nil)))) (.ife (.cmp .eq (.call 17 (.cons (.var 0) (.cons (.var 1) (.cons (.int 8) .nil)))) (.int 0)) (.int 0) (.int 1)))) (.cons (.par [6, 7] (.cons (.call 17 (.cons (.var 0) (.cons (.var 1) (.cons (.var 2) .nil)))) (.cons (.call 17 (.cons (.var 0) (.cons (.var 1) (.cons (.var 2) .nil)))) .nil))) (.cons (.ex (.meth .append (.var 3) (.cons (.ife (.cmp .eq (.call 17 (.cons (.var 0) (.cons (.var 1) (.cons (.int 3) .nil)))) (.int 0)) (.bi .tuple (.sset (.lst (.cons (.var 6) (.cons (.var 7) .nil))))) (.tup (.cons (.var 6) .nil))) .nil))) .nil))) (.cons (.set 5 (.lc [8] (.nm 8) (.rng (.var 2)) .nil (.idx (.tup (.cons (.str [97, 108, 108]) (.cons (.str [102, 105, 114, 115, 116]) (.cons (.str [108, 97, 115, 116]) (.cons (.str [102, 105, 114, 115, 116]) (.cons (.str [108, 97, 115, 116]) .nil)))))) (.call 17 (.cons (.var 0) (.cons (.var 1) (.cons (.int 5) .nil))))))) (.cons (.ret (.tup (.cons (.bi .tuple (.sset (.var 3))) (.cons (.bi .tuple (.var 5)) .nil)))) .nil))))⟩
/-- _law_records -/
def f20 : Fn := ⟨7, 4, false, (.cons (.set 4 (.newL .nil)) (.cons (.for (.nm 5) (.rng (.bin .add (.int 1) (.call 17 (.cons (.var 0) (.cons (.var 1) (.cons (.var 3) .nil)))))) (.cons (.ex (.meth .append (.var 4) (.cons (.bi .tuple (.lc [6] (.nm 6) (.rng (.var 2)) .nil (.idx (.tup (.cons (.int 0) (.cons (.int 1) (.cons (.int 0) (.cons (.int 1) (.cons (.int 2) (.cons .non .nil))))))) (.call 17 (.cons (.var 0) (.cons (.var 1) (.cons (.int 6) .nil))))))) .nil))) .nil)) (.cons (.ret (.bi .tuple (.var 4))) .nil)))⟩
/-- _law_parted -/
def f21 : Fn := ⟨7, 3, false, (.cons (.set 3 (.lc [6] (.nm 6) (.rng (.var 2)) .nil (.call 17 (.cons (.var 0) (.cons (.var 1) (.cons (.int 3) .nil)))))) (.cons (.set 4 (.bi .tuple (.lc [6] (.nm 6) (.rng (.var 2)) (.cons (.cmp .eq (.idx (.var 3) (.var 6)) (.int 1)) .nil) (.var 6)))) (.cons (.set 5 (.bi .tuple (.lc [6] (.nm 6) (.rng (.var 2)) (.cons (.cmp .eq (.idx (.var 3) (.var 6)) (.int 2)) .nil) (.var 6)))) (.cons (.ret (.ife (.and (.cons (.cmp .ne (.var 4) (.tup .nil)) (.cons (.cmp .ne (.var 5) (.tup .nil)) .nil))) (.tup (.cons (.var 4) (.cons (.var 5) .nil))) .non)) .nil))))⟩
/-- _law_matched -/
def f22 : Fn := ⟨11, 4, true, (.cons (.set 4 (.tup (.cons (.idx (.var 1) (.int 0)) (.cons (.bin .mul (.tup (.cons (.str [97, 108, 108]) .nil)) (.bi .len (.idx (.var 1) (.int 1)))) .nil)))) (.cons (.ife (.cmp .ne (.call 16 (.cons (.var 0) (.cons (.var 1) (.cons (.var 2) (.cons (.var 3) .nil))))) (.call 16 (.cons (.var 0) (.cons (.var 1) (.cons (.var 3) (.cons (.var 2) .nil)))))) (.cons (.ret (.bl false)) .nil) .nil) (.cons (.set 5 (.call 16 (.cons (.var 0) (.cons (.var 4) (.cons (.var 2) (.cons (.var 3) .nil)))))) (.cons (.ife (.cmp .ne (.lc [7] (.nm 7) (.val (.call 16 (.cons (.var 0) (.cons (.var 1) (.cons (.var 2) (.cons (.var 3) .nil)))))) (.cons (.cmp .notin (.var 7) (.var 5)) .nil) (.var 7)) (.lst .nil)) (.cons (.ret (.bl false)) .nil) .nil) (.cons (.set 6 (.call 16 (.cons (.var 0) (.cons (.var 4) (.cons (.sl (.var 2) .no (.some (.int 1))) (.cons (.var 3) .nil)))))) (.cons (.ife (.cmp .ne (.lc [7] (.nm 7) (.val (.var 6)) (.cons (.cmp .notin (.var 7) (.var 5)) .nil) (.var 7)) (.lst .nil)) (.cons (.ret (.bl false)) .nil) .nil) (.cons (.for (.nm 7) (.val (.var 5)) (.cons (.for (.tp [8, 9]) (.enum (.idx (.var 1) (.int 0))) (.cons (.ife (.and (.cons (.cmp .eq (.lc [10] (.nm 10) (.val (.var 9)) (.cons (.cmp .notin (.var 10) (.idx (.idx (.var 1) (.int 0)) (.var 7))) .nil) (.var 10)) (.lst .nil)) (.cons (.cmp .notin (.var 8) (.var 5)) .nil))) (.cons (.ret (.bl false)) .nil) .nil) .nil)) .nil)) (.cons (.ret (.bl true)) .nil))))))))⟩
/-- law -/
def f23 : Fn := ⟨19, 1, false, (.cons (.set 1 (.call 18 .nil)) (.cons (.for (.nm 2) (.rng (.int 6)) (.cons (.set 3 (.bin .add (.int 1) (.call 17 (.cons (.var 0) (.cons (.var 1) (.cons (.int 4) .nil)))))) (.cons (.par [4, 5] (.cons (.call 20 (.cons (.var 0) (.cons (.var 1) (.cons (.var 3) (.cons (.int 6) .nil))))) (.cons (.call 19 (.cons (.var 0) (.cons (.var 1) (.cons (.var 3) .nil)))) .nil))) (.cons (.set 6 (.tup (.cons (.idx (.var 5) (.int 0)) (.cons (.bin .mul (.tup (.cons (.str [97, 108, 108]) .nil)) (.var 3)) .nil)))) (.cons (.for (.tp [7, 8]) (.enum (.var 4)) (.cons (.ife (.cmp .ne (.call 13 (.cons (.var 4) (.cons (.var 5) (.cons (.tup (.cons (.var 7) .nil)) .nil)))) (.bi .tuple (.lc [18] (.nm 18) (.val (.var 8)) .nil (.ife (.isN (.var 18)) (.tup .nil) (.tup (.cons (.var 18) .nil)))))) (.cons (.ret (.bl false)) .nil) .nil) .nil)) (.cons (.set 9 (.call 21 (.cons (.var 0) (.cons (.var 1) (.cons (.bi .len (.var 4)) .nil))))) (.cons (.ife (.isN (.var 9)) (.cons .cont .nil) .nil) (.cons (.unp [10, 11] (.var 9)) (.cons (.set 12 (.bi .tuple (.bi .sorted (.bin .add (.var 10) (.var 11))))) (.cons (.set 13 (.call 13 (.cons (.var 4) (.cons (.var 6) (.cons (.var 10) .nil))))) (.cons (.set 14 (.call 13 (.cons (.var 4) (.cons (.var 6) (.cons (.var 11) .nil))))) (.cons (.set 15 (.call 13 (.cons (.var 4) (.cons (.var 6) (.cons (.var 12) .nil))))) (.cons (.set 16 (.call 13 (.cons (.var 4) (.cons (.var 5) (.cons (.var 12) .nil))))) (.cons (.for (.nm 17) (.rng (.var 3)) (.cons (.ife (.cmp .ne (.idx (.var 15) (.var 17)) (.bi .tuple (.sset (.bin .add (.idx (.var 13) (.var 17)) (.idx (.var 14) (.var 17)))))) (.cons (.ret (.bl false)) .nil) .nil) (.cons (.ife (.cmp .ne (.lc [18] (.nm 18) (.val (.idx (.var 16) (.var 17))) (.cons (.cmp .notin (.var 18) (.idx (.var 15) (.var 17))) .nil) (.var 18)) (.lst .nil)) (.cons (.ret (.bl false)) .nil) .nil) (.cons (.ife (.cmp .ne (.cmp .eq (.idx (.var 16) (.var 17)) (.tup .nil)) (.cmp .eq (.idx (.var 15) (.var 17)) (.tup .nil))) (.cons (.ret (.bl false)) .nil) .nil) (.cons (.ife (.and (.cons (.cmp .ne (.idx (.idx (.var 5) (.int 1)) (.var 17)) (.str [97, 108, 108])) (.cons (.cmp .gt (.bi .len (.idx (.var 16) (.var 17))) (.int 1)) .nil))) (.cons (.ret (.bl false)) .nil) .nil) .nil))))) (.cons (.ife (.not (.call 22 (.cons (.var 4) (.cons (.var 5) (.cons (.var 10) (.cons (.var 11) .nil)))))) (.cons (.ret (.bl false)) .nil) .nil) .nil))))))))))))))) (.cons (.ret (.bl true)) .nil)))⟩
/-- _law_single -/
def f24 : Fn := ⟨2, 1, true, (.cons (.ret (.bi .tuple (.lc [1] (.nm 1) (.val (.var 0)) .nil (.ife (.cmp .ne (.var 1) (.tup .nil)) (.idx (.var 1) (.int 0)) .non)))) .nil)⟩
/-- _law_group -/
def f25 : Fn := ⟨5, 3, false, (.cons (.set 3 (.lc [4] (.nm 4) (.val (.var 2)) (.cons (.cmp .eq (.call 17 (.cons (.var 0) (.cons (.var 1) (.cons (.int 2) .nil)))) (.int 0)) .nil) (.var 4))) (.cons (.ret (.ife (.cmp .ne (.var 3) (.lst .nil)) (.bi .tuple (.var 3)) (.tup (.cons (.idx (.var 2) (.call 17 (.cons (.var 0) (.cons (.var 1) (.cons (.bi .len (.var 2)) .nil))))) .nil)))) .nil))⟩
/-- law -/
def f26 : Fn := ⟨20, 1, false, (.cons (.set 1 (.call 18 .nil)) (.cons (.for (.nm 2) (.rng (.int 5)) (.cons (.set 3 (.bin .add (.int 1) (.call 17 (.cons (.var 0) (.cons (.var 1) (.cons (.int 4) .nil)))))) (.cons (.par [4, 5] (.cons (.call 20 (.cons (.var 0) (.cons (.var 1) (.cons (.var 3) (.cons (.int 6) .nil))))) (.cons (.call 19 (.cons (.var 0) (.cons (.var 1) (.cons (.var 3) .nil)))) .nil))) (.cons (.set 6 (.tup (.cons (.idx (.var 5) (.int 0)) (.cons (.bi .tuple (.lc [10] (.nm 10) (.rng (.var 3)) .nil (.idx (.tup (.cons (.str [102, 105, 114, 115, 116]) (.cons (.str [108, 97, 115, 116]) .nil))) (.call 17 (.cons (.var 0) (.cons (.var 1) (.cons (.int 2) .nil))))))) .nil)))) (.cons (.set 7 (.tup (.cons (.idx (.var 5) (.int 0)) (.cons (.bin .mul (.tup (.cons (.str [97, 108, 108]) .nil)) (.var 3)) .nil)))) (.cons (.ife (.or (.cons (.not (.call 5 (.cons (.var 6) .nil))) (.cons (.not (.call 5 (.cons (.var 7) .nil))) .nil))) (.cons (.ret (.bl false)) .nil) .nil) (.cons (.set 8 (.call 25 (.cons (.var 0) (.cons (.var 1) (.cons (.lstR (.rng (.bi .len (.var 4)))) .nil))))) (.cons (.set 9 (.call 13 (.cons (.var 4) (.cons (.var 6) (.cons (.var 8) .nil))))) (.cons (.for (.tp [10, 11]) (.enum (.var 9)) (.cons (.set 13 (.lc [18] (.nm 18) (.val (.var 8)) (.cons (.notN (.idx (.idx (.var 4) (.var 18)) (.var 10))) .nil) (.idx (.idx (.var 4) (.var 18)) (.var 10)))) (.cons (.ife (.or (.cons (.cmp .gt (.bi .len (.var 11)) (.int 1)) (.cons (.cmp .ne (.cmp .eq (.var 11) (.tup .nil)) (.cmp .eq (.var 13) (.lst .nil))) (.cons (.and (.cons (.cmp .ne (.var 11) (.tup .nil)) (.cons (.cmp .notin (.idx (.var 11) (.int 0)) (.var 13)) .nil))) .nil)))) (.cons (.ret (.bl false)) .nil) .nil) (.cons (.ife (.cmp .ne (.bi .tuple (.sset (.var 13))) (.idx (.call 13 (.cons (.var 4) (.cons (.var 7) (.cons (.var 8) .nil)))) (.var 10))) (.cons (.ret (.bl false)) .nil) .nil) .nil)))) (.cons (.ife (.cmp .ne (.call 24 (.cons (.call 13 (.cons (.var 4) (.cons (.var 6) (.cons (.sl (.var 8) .no (.some (.int 1))) .nil)))) .nil)) (.idx (.var 4) (.idx (.var 8) (.int 0)))) (.cons (.ret (.bl false)) .nil) .nil) (.cons (.set 12 (.lc [18] (.nm 18) (.rng (.bi .len (.var 4))) (.cons (.cmp .notin (.var 18) (.var 8)) .nil) (.var 18))) (.cons (.ife (.cmp .ne (.var 12) (.lst .nil)) (.cons (.set 14 (.call 25 (.cons (.var 0) (.cons (.var 1) (.cons (.var 12) .nil))))) (.cons (.par [15, 16] (.cons (.call 24 (.cons (.var 9) .nil)) (.cons (.call 24 (.cons (.call 13 (.cons (.var 4) (.cons (.var 6) (.cons (.var 14) .nil)))) .nil)) .nil))) (.cons (.set 17 (.call 16 (.cons (.var 4) (.cons (.var 6) (.cons (.var 8) (.cons (.var 14) .nil)))))) (.cons (.ife (.or (.cons (.not (.call 3 (.cons (.tup (.cons (.var 15) (.cons (.var 16) .nil))) .nil))) (.cons (.cmp .ne (.call 16 (.cons (.tup (.cons (.var 15) (.cons (.var 16) .nil))) (.cons (.var 6) (.cons (.tup (.cons (.int 0) .nil)) (.cons (.tup (.cons (.int 1) .nil)) .nil))))) (.var 17)) .nil))) (.cons (.ret (.bl false)) .nil) .nil) (.cons (.ife (.cmp .ne (.call 16 (.cons (.var 4) (.cons (.var 6) (.cons (.var 14) (.cons (.var 8) .nil))))) (.var 17)) (.cons (.ret (.bl false)) .nil) .nil) (.cons (.ife (.cmp .ne (.lc [19] (.nm 19) (.val (.var 17)) (.cons (.cmp .notin (.var 19) (.call 16 (.cons (.var 4) (.cons (.var 7) (.cons (.var 8) (.cons (.var 14) .nil)))))) .nil) (.var 19)) (.lst .nil)) (.cons (.ret (.bl false)) .nil) .nil) .nil)))))) .nil) .nil)))))))))))) (.cons (.ret (.bl true)) .nil)))⟩
/-- begin_of -/
def f27 : Fn := ⟨2, 1, true, (.cons (.ret (.bi .tuple (.lc [1] (.nm 1) (.rng (.bi .len (.var 0))) .nil (.tup (.cons (.var 1) .nil))))) .nil)⟩
/-- pairs_in -/
def f28 : Fn := ⟨7, 3, true, (.cons (.set 3 (.newL .nil)) (.cons (.for (.tp [4, 5]) (.enum (.var 2)) (.cons (.ex (.meth .extend (.var 3) (.cons (.lc [6] (.nm 6) (.val (.sl (.var 2) (.some (.bin .add (.var 4) (.int 1))) .no)) (.cons (.cmp .ne (.call 15 (.cons (.var 0) (.cons (.var 1) (.cons (.var 5) (.cons (.var 6) .nil))))) (.lst .nil)) .nil) (.tup (.cons (.var 5) (.cons (.var 6) .nil)))) .nil))) .nil)) (.cons (.ret (.var 3)) .nil)))⟩
/-- joined -/
def f29 : Fn := ⟨5, 3, true, (.cons (.set 3 (.lc [4] (.nm 4) (.val (.var 0)) (.cons (.cmp .notin (.var 4) (.tup (.cons (.var 1) (.cons (.var 2) .nil)))) .nil) (.var 4))) (.cons (.ret (.bi .tuple (.bi .sorted (.bin .add (.var 3) (.lst (.cons (.bi .tuple (.bi .sorted (.bin .add (.var 1) (.var 2)))) .nil)))))) .nil))⟩
/-- is_step -/
def f30 : Fn := ⟨3, 1, true, (.cons (.ife (.or (.cons (.not (.bi (.isi .tuple) (.var 0))) (.cons (.cmp .ne (.bi .len (.var 0)) (.int 2)) (.cons (.not (.bi .all (.lc [2] (.nm 2) (.val (.var 0)) .nil (.bi (.isi .tuple) (.var 2))))) .nil)))) (.cons (.ret (.bl false)) .nil) .nil) (.cons (.ret (.not (.bi .any (.lc [1] (.nm 1) (.val (.bin .add (.idx (.var 0) (.int 0)) (.idx (.var 0) (.int 1)))) .nil (.bi (.isi .bool) (.var 1)))))) .nil))⟩
/-- followed -/
def f31 : Fn := ⟨5, 3, true, (.cons (.ife (.not (.bi (.isi .tuple) (.var 2))) (.cons (.ret .non) .nil) .nil) (.cons (.set 3 (.call 27 (.cons (.var 0) .nil))) (.cons (.for (.nm 4) (.val (.var 2)) (.cons (.ife (.or (.cons (.not (.call 30 (.cons (.var 4) .nil))) (.cons (.cmp .notin (.var 4) (.call 28 (.cons (.var 0) (.cons (.var 1) (.cons (.var 3) .nil))))) .nil))) (.cons (.ret .non) .nil) .nil) (.cons (.set 3 (.call 29 (.cons (.var 3) (.cons (.idx (.var 4) (.int 0)) (.cons (.idx (.var 4) (.int 1)) .nil))))) .nil))) (.cons (.ret (.ife (.cmp .eq (.call 28 (.cons (.var 0) (.cons (.var 1) (.cons (.var 3) .nil)))) (.lst .nil)) (.var 3) .non)) .nil))))⟩
/-- is_run -/
def f32 : Fn := ⟨3, 3, true, (.cons (.ex (.call 8 (.cons (.var 0) (.cons (.var 1) .nil)))) (.cons (.ret (.notN (.call 31 (.cons (.var 0) (.cons (.var 1) (.cons (.var 2) .nil)))))) .nil))⟩
/-- run_end -/
def f33 : Fn := ⟨4, 3, true, (.cons (.ex (.call 8 (.cons (.var 0) (.cons (.var 1) .nil)))) (.cons (.set 3 (.call 31 (.cons (.var 0) (.cons (.var 1) (.cons (.var 2) .nil))))) (.cons (.ife (.isN (.var 3)) (.cons (.raise 4) .nil) .nil) (.cons (.ret (.var 3)) .nil))))⟩
/-- found_runs -/
def f34 : Fn := ⟨11, 2, false, (.cons (.set 2 (.call 27 (.cons (.var 0) .nil))) (.cons (.par [3, 4, 5] (.cons (.newT (.cons (.var 2) (.cons (.tup .nil) .nil))) (.cons (.newL (.cons (.var 2) .nil)) (.cons (.newT .nil) .nil)))) (.cons (.whl (.cmp .ne (.var 4) (.lst .nil)) (.cons (.set 6 (.meth .pop (.var 4) .nil)) (.cons (.set 7 (.call 28 (.cons (.var 0) (.cons (.var 1) (.cons (.var 6) .nil))))) (.cons (.ife (.cmp .eq (.var 7) (.lst .nil)) (.cons (.setI (.var 5) (.var 6) (.idx (.var 3) (.var 6))) .nil) .nil) (.cons (.for (.tp [8, 9]) (.val (.var 7)) (.cons (.set 10 (.call 29 (.cons (.var 6) (.cons (.var 8) (.cons (.var 9) .nil))))) (.cons (.ife (.cmp .notin (.var 10) (.var 3)) (.cons (.setI (.var 3) (.var 10) (.bin .add (.idx (.var 3) (.var 6)) (.tup (.cons (.tup (.cons (.var 8) (.cons (.var 9) .nil))) .nil)))) (.cons (.ex (.meth .append (.var 4) (.cons (.var 10) .nil))) .nil)) .nil) .nil))) .nil))))) (.cons (.ret (.var 5)) .nil))))⟩
/-- ends -/
def f35 : Fn := ⟨2, 2, true, (.cons (.ex (.call 8 (.cons (.var 0) (.cons (.var 1) .nil)))) (.cons (.ret (.bi .tuple (.bi .sorted (.call 34 (.cons (.var 0) (.cons (.var 1) .nil)))))) .nil))⟩
/-- is_partition -/
def f36 : Fn := ⟨4, 2, true, (.cons (.ife (.or (.cons (.not (.bi (.isi .tuple) (.var 1))) (.cons (.not (.bi .all (.lc [3] (.nm 3) (.val (.var 1)) .nil (.call 9 (.cons (.bi .len (.var 0)) (.cons (.var 3) .nil)))))) .nil))) (.cons (.ret (.bl false)) .nil) .nil) (.cons (.set 2 (.newL .nil)) (.cons (.for (.nm 3) (.val (.var 1)) (.cons (.ex (.meth .extend (.var 2) (.cons (.var 3) .nil))) .nil)) (.cons (.ret (.and (.cons (.cmp .eq (.bi .sorted (.var 2)) (.lstR (.rng (.bi .len (.var 0))))) (.cons (.call 1 (.cons (.var 1) .nil)) .nil)))) .nil))))⟩
/-- run_to -/
def f37 : Fn := ⟨3, 3, true, (.cons (.ex (.call 8 (.cons (.var 0) (.cons (.var 1) .nil)))) (.cons (.ife (.not (.call 36 (.cons (.var 0) (.cons (.var 2) .nil)))) (.cons (.raise 5) .nil) .nil) (.cons (.ret (.meth .get (.call 34 (.cons (.var 0) (.cons (.var 1) .nil))) (.cons (.var 2) (.cons .non .nil)))) .nil)))⟩
/-- counted -/
def f38 : Fn := ⟨8, 4, false, (.cons (.ife (.cmp .notin (.var 2) (.var 3)) (.cons (.set 4 (.call 28 (.cons (.var 0) (.cons (.var 1) (.cons (.var 2) .nil))))) (.cons (.set 5 (.ife (.cmp .eq (.var 4) (.lst .nil)) (.int 1) (.int 0))) (.cons (.for (.tp [6, 7]) (.val (.var 4)) (.cons (.aug 5 (.call 38 (.cons (.var 0) (.cons (.var 1) (.cons (.call 29 (.cons (.var 2) (.cons (.var 6) (.cons (.var 7) .nil)))) (.cons (.var 3) .nil)))))) .nil)) (.cons (.setI (.var 3) (.var 2) (.var 5)) .nil)))) .nil) (.cons (.ret (.idx (.var 3) (.var 2))) .nil))⟩
/-- count_runs -/
def f39 : Fn := ⟨2, 2, true, (.cons (.ex (.call 8 (.cons (.var 0) (.cons (.var 1) .nil)))) (.cons (.ret (.call 38 (.cons (.var 0) (.cons (.var 1) (.cons (.call 27 (.cons (.var 0) .nil)) (.cons (.newT .nil) .nil)))))) .nil))⟩
/-- is_same -/
def f40 : Fn := ⟨2, 2, true, (.cons (.ex (.call 8 (.cons (.var 0) (.cons (.var 1) .nil)))) (.cons (.ret (.cmp .eq (.bi .len (.call 34 (.cons (.var 0) (.cons (.var 1) .nil)))) (.int 1))) .nil))⟩
/-- two_runs -/
def f41 : Fn := ⟨3, 2, true, (.cons (.ex (.call 8 (.cons (.var 0) (.cons (.var 1) .nil)))) (.cons (.set 2 (.vals (.call 34 (.cons (.var 0) (.cons (.var 1) .nil))))) (.cons (.ret (.ife (.cmp .gt (.bi .len (.var 2)) (.int 1)) (.tup (.cons (.idx (.var 2) (.int 0)) (.cons (.idx (.var 2) (.int 1)) .nil))) .non)) .nil)))⟩
/-- widest -/
def f42 : Fn := ⟨5, 2, true, (.cons (.ex (.call 8 (.cons (.var 0) (.cons (.var 1) .nil)))) (.cons (.par [2, 3] (.cons (.call 27 (.cons (.var 0) .nil)) (.cons (.tup (.cons (.idx (.var 1) (.int 0)) (.cons (.bin .mul (.tup (.cons (.str [97, 108, 108]) .nil)) (.bi .len (.idx (.var 1) (.int 1)))) .nil))) .nil))) (.cons (.set 4 (.call 28 (.cons (.var 0) (.cons (.var 3) (.cons (.var 2) .nil))))) (.cons (.whl (.cmp .ne (.var 4) (.lst .nil)) (.cons (.set 2 (.call 29 (.cons (.var 2) (.cons (.idx (.idx (.var 4) (.int 0)) (.int 0)) (.cons (.idx (.idx (.var 4) (.int 0)) (.int 1)) .nil))))) (.cons (.set 4 (.call 28 (.cons (.var 0) (.cons (.var 3) (.cons (.var 2) .nil))))) .nil))) (.cons (.ret (.var 2)) .nil)))))⟩
/-- _law_ended -/
def f43 : Fn := ⟨7, 3, true, (.cons (.set 3 (.call 37 (.cons (.var 0) (.cons (.var 1) (.cons (.var 2) .nil))))) (.cons (.ife (.or (.cons (.isN (.var 3)) (.cons (.not (.call 32 (.cons (.var 0) (.cons (.var 1) (.cons (.var 3) .nil))))) (.cons (.cmp .ne (.call 33 (.cons (.var 0) (.cons (.var 1) (.cons (.var 3) .nil)))) (.var 2)) .nil)))) (.cons (.ret (.bl false)) .nil) .nil) (.cons (.ife (.cmp .ne (.bi .len (.var 3)) (.bin .sub (.bi .len (.var 0)) (.bi .len (.var 2)))) (.cons (.ret (.bl false)) .nil) .nil) (.cons (.for (.tp [4, 5]) (.enum (.var 2)) (.cons (.for (.nm 6) (.val (.sl (.var 2) .no (.some (.var 4)))) (.cons (.ife (.cmp .ne (.call 16 (.cons (.var 0) (.cons (.var 1) (.cons (.var 5) (.cons (.var 6) .nil))))) (.tup .nil)) (.cons (.ret (.bl false)) .nil) .nil) .nil)) .nil)) (.cons (.ret (.bl true)) .nil)))))⟩
/-- _law_within -/
def f44 : Fn := ⟨5, 2, true, (.cons (.for (.nm 2) (.val (.var 0)) (.cons (.ife (.cmp .eq (.lc [3] (.nm 3) (.val (.var 1)) (.cons (.cmp .eq (.lc [4] (.nm 4) (.val (.var 2)) (.cons (.cmp .notin (.var 4) (.var 3)) .nil) (.var 4)) (.lst .nil)) .nil) (.int 1)) (.lst .nil)) (.cons (.ret (.bl false)) .nil) .nil) .nil)) (.cons (.ret (.bl true)) .nil))⟩
/-- law -/
def f45 : Fn := ⟨20, 1, false, (.cons (.set 1 (.call 18 .nil)) (.cons (.for (.nm 2) (.rng (.int 5)) (.cons (.set 3 (.bin .add (.int 1) (.call 17 (.cons (.var 0) (.cons (.var 1) (.cons (.int 3) .nil)))))) (.cons (.par [4, 5] (.cons (.call 20 (.cons (.var 0) (.cons (.var 1) (.cons (.var 3) (.cons (.int 6) .nil))))) (.cons (.call 19 (.cons (.var 0) (.cons (.var 1) (.cons (.var 3) .nil)))) .nil))) (.cons (.par [6, 7, 8] (.cons (.call 35 (.cons (.var 4) (.cons (.var 5) .nil))) (.cons (.call 42 (.cons (.var 4) (.cons (.var 5) .nil))) (.cons (.call 41 (.cons (.var 4) (.cons (.var 5) .nil))) .nil)))) (.cons (.ife (.or (.cons (.cmp .ne (.call 40 (.cons (.var 4) (.cons (.var 5) .nil))) (.cmp .eq (.bi .len (.var 6)) (.int 1))) (.cons (.cmp .ne (.isN (.var 8)) (.cmp .eq (.bi .len (.var 6)) (.int 1))) .nil))) (.cons (.ret (.bl false)) .nil) .nil) (.cons (.ife (.notN (.var 8)) (.cons (.unpL [15, 16] (.lc [18] (.nm 18) (.val (.var 8)) .nil (.call 33 (.cons (.var 4) (.cons (.var 5) (.cons (.var 18) .nil)))))) (.cons (.ife (.cmp .eq (.var 15) (.var 16)) (.cons (.ret (.bl false)) .nil) .nil) .nil)) .nil) (.cons (.for (.nm 9) (.val (.var 6)) (.cons (.ife (.or (.cons (.not (.call 43 (.cons (.var 4) (.cons (.var 5) (.cons (.var 9) .nil))))) (.cons (.not (.call 44 (.cons (.var 9) (.cons (.var 7) .nil)))) .nil))) (.cons (.ret (.bl false)) .nil) .nil) .nil)) (.cons (.ife (.cmp .lt (.call 39 (.cons (.var 4) (.cons (.var 5) .nil))) (.bi .len (.var 6))) (.cons (.ret (.bl false)) .nil) .nil) (.cons (.set 10 (.tup (.cons (.idx (.var 5) (.int 0)) (.cons (.bin .mul (.tup (.cons (.str [97, 108, 108]) .nil)) (.var 3)) .nil)))) (.cons (.ife (.or (.cons (.cmp .ne (.call 35 (.cons (.var 4) (.cons (.var 10) .nil))) (.tup (.cons (.var 7) .nil))) (.cons (.not (.call 40 (.cons (.var 4) (.cons (.var 10) .nil)))) .nil))) (.cons (.ret (.bl false)) .nil) .nil) (.cons (.set 11 (.bi .len (.var 4))) (.cons (.set 12 (.lc [17] (.nm 17) (.rng (.var 11)) .nil (.bin .mod (.bin .add (.var 17) (.int 1)) (.var 11)))) (.cons (.set 13 (.bi .tuple (.lc [17] (.nm 17) (.val (.var 12)) .nil (.idx (.var 4) (.var 17))))) (.cons (.set 14 (.bi .sorted (.lc [19] (.nm 19) (.val (.call 42 (.cons (.var 13) (.cons (.var 10) .nil)))) .nil (.bi .tuple (.bi .sorted (.lc [17] (.nm 17) (.val (.var 19)) .nil (.idx (.var 12) (.var 17)))))))) (.cons (.ife (.cmp .ne (.var 14) (.bi .list (.var 7))) (.cons (.ret (.bl false)) .nil) .nil) (.cons (.ife (.cmp .ne (.call 35 (.cons (.var 4) (.cons (.tup (.cons (.tup .nil) (.cons (.idx (.var 5) (.int 1)) .nil))) .nil))) (.tup (.cons (.bi .tuple (.lc [17] (.nm 17) (.rng (.var 11)) .nil (.tup (.cons (.var 17) .nil)))) .nil))) (.cons (.ret (.bl false)) .nil) .nil) .nil)))))))))))))))) (.cons (.ret (.bl true)) .nil)))⟩
/-- check_pair -/
def f46 : Fn := ⟨4, 4, true, (.cons (.ex (.call 8 (.cons (.var 0) (.cons (.var 1) .nil)))) (.cons (.ife (.not (.call 0 (.cons (.var 2) (.cons (.int 0) (.cons (.bin .sub (.bi .len (.var 0)) (.int 1)) .nil))))) (.cons (.raise 6) .nil) .nil) (.cons (.ife (.or (.cons (.not (.call 0 (.cons (.var 3) (.cons (.int 0) (.cons (.bin .sub (.bi .len (.var 0)) (.int 1)) .nil))))) (.cons (.cmp .eq (.var 2) (.var 3)) .nil))) (.cons (.raise 6) .nil) .nil) .nil)))⟩
/-- are_joined -/
def f47 : Fn := ⟨4, 3, true, (.cons (.ret (.bi .any (.lc [3] (.nm 3) (.val (.var 0)) .nil (.and (.cons (.cmp .isin (.var 1) (.var 3)) (.cons (.cmp .isin (.var 2) (.var 3)) .nil)))))) .nil)⟩
/-- together -/
def f48 : Fn := ⟨6, 4, true, (.cons (.ex (.call 46 (.cons (.var 0) (.cons (.var 1) (.cons (.var 2) (.cons (.var 3) .nil)))))) (.cons (.set 4 (.lcD [5] (.nm 5) (.call 34 (.cons (.var 0) (.cons (.var 1) .nil))) .nil (.call 47 (.cons (.var 5) (.cons (.var 2) (.cons (.var 3) .nil)))))) (.cons (.ret (.ife (.bi .all (.var 4)) (.str [97, 108, 119, 97, 121, 115]) (.ife (.bi .any (.var 4)) (.str [115, 111, 109, 101, 116, 105, 109, 101, 115]) (.str [110, 101, 118, 101, 114])))) .nil)))⟩
/-- joining_run -/
def f49 : Fn := ⟨7, 4, true, (.cons (.ex (.call 46 (.cons (.var 0) (.cons (.var 1) (.cons (.var 2) (.cons (.var 3) .nil)))))) (.cons (.set 4 (.call 34 (.cons (.var 0) (.cons (.var 1) .nil)))) (.cons (.set 5 (.lcD [6] (.nm 6) (.var 4) (.cons (.call 47 (.cons (.var 6) (.cons (.var 2) (.cons (.var 3) .nil)))) .nil) (.idx (.var 4) (.var 6)))) (.cons (.ret (.ife (.cmp .ne (.var 5) (.lst .nil)) (.idx (.var 5) (.int 0)) .non)) .nil))))⟩
/-- keeping_run -/
def f50 : Fn := ⟨7, 4, true, (.cons (.ex (.call 46 (.cons (.var 0) (.cons (.var 1) (.cons (.var 2) (.cons (.var 3) .nil)))))) (.cons (.set 4 (.call 34 (.cons (.var 0) (.cons (.var 1) .nil)))) (.cons (.set 5 (.lcD [6] (.nm 6) (.var 4) (.cons (.not (.call 47 (.cons (.var 6) (.cons (.var 2) (.cons (.var 3) .nil))))) .nil) (.idx (.var 4) (.var 6)))) (.cons (.ret (.ife (.cmp .ne (.var 5) (.lst .nil)) (.idx (.var 5) (.int 0)) .non)) .nil))))⟩
/-- without -/
def f51 : Fn := ⟨4, 2, true, (.cons (.ret (.tup (.cons (.bi .tuple (.lc [2, 3] (.tp [2, 3]) (.enum (.idx (.var 0) (.int 0))) (.cons (.cmp .notin (.var 2) (.var 1)) .nil) (.var 3))) (.cons (.idx (.var 0) (.int 1)) .nil)))) .nil)⟩
/-- keys_to_drop -/
def f52 : Fn := ⟨9, 4, true, (.cons (.ex (.call 46 (.cons (.var 0) (.cons (.var 1) (.cons (.var 2) (.cons (.var 3) .nil)))))) (.cons (.set 4 (.lst (.cons (.tup .nil) .nil))) (.cons (.for (.nm 5) (.rng (.bi .len (.idx (.var 1) (.int 0)))) (.cons (.set 4 (.bin .add (.var 4) (.lc [7] (.nm 7) (.val (.var 4)) .nil (.bin .add (.var 7) (.tup (.cons (.var 5) .nil)))))) .nil)) (.cons (.for (.tp [6, 7]) (.val (.bi .sorted (.lc [7] (.nm 7) (.val (.var 4)) .nil (.tup (.cons (.bi .len (.var 7)) (.cons (.var 7) .nil)))))) (.cons (.ife (.not (.bi .any (.lcD [8] (.nm 8) (.call 34 (.cons (.var 0) (.cons (.call 51 (.cons (.var 1) (.cons (.var 7) .nil))) .nil))) .nil (.call 47 (.cons (.var 8) (.cons (.var 2) (.cons (.var 3) .nil))))))) (.cons (.ret (.var 7)) .nil) .nil) .nil)) (.cons (.ret .non) .nil)))))⟩
/-- needless_keys -/
def f53 : Fn := ⟨5, 2, true, (.cons (.ex (.call 8 (.cons (.var 0) (.cons (.var 1) .nil)))) (.cons (.set 2 (.bi .sorted (.call 34 (.cons (.var 0) (.cons (.var 1) .nil))))) (.cons (.set 3 (.lstR (.rng (.bi .len (.idx (.var 1) (.int 0)))))) (.cons (.ret (.bi .tuple (.lc [4] (.nm 4) (.val (.var 3)) (.cons (.cmp .eq (.bi .sorted (.call 34 (.cons (.var 0) (.cons (.call 51 (.cons (.var 1) (.cons (.tup (.cons (.var 4) .nil)) .nil))) .nil)))) (.var 2)) .nil) (.var 4)))) .nil))))⟩
/-- _law_met -/
def f54 : Fn := ⟨4, 3, true, (.cons (.ret (.cmp .ne (.lc [3] (.nm 3) (.val (.var 0)) (.cons (.and (.cons (.cmp .isin (.var 1) (.var 3)) (.cons (.cmp .isin (.var 2) (.var 3)) .nil))) .nil) (.var 3)) (.lst .nil))) .nil)⟩
/-- _law_dropped -/
def f55 : Fn := ⟨10, 4, true, (.cons (.set 4 (.call 52 (.cons (.var 0) (.cons (.var 1) (.cons (.var 2) (.cons (.var 3) .nil)))))) (.cons (.set 5 (.bi .tuple (.lc [8, 9] (.tp [8, 9]) (.enum (.idx (.var 1) (.int 0))) (.cons (.cmp .notin (.var 8) (.var 4)) .nil) (.var 9)))) (.cons (.ife (.cmp .ne (.call 48 (.cons (.var 0) (.cons (.tup (.cons (.var 5) (.cons (.idx (.var 1) (.int 1)) .nil))) (.cons (.var 2) (.cons (.var 3) .nil))))) (.str [110, 101, 118, 101, 114])) (.cons (.ret (.bl false)) .nil) .nil) (.cons (.for (.nm 6) (.val (.var 4)) (.cons (.set 7 (.bi .tuple (.lc [8, 9] (.tp [8, 9]) (.enum (.idx (.var 1) (.int 0))) (.cons (.or (.cons (.cmp .eq (.var 8) (.var 6)) (.cons (.cmp .notin (.var 8) (.var 4)) .nil))) .nil) (.var 9)))) (.cons (.ife (.cmp .eq (.call 48 (.cons (.var 0) (.cons (.tup (.cons (.var 7) (.cons (.idx (.var 1) (.int 1)) .nil))) (.cons (.var 2) (.cons (.var 3) .nil))))) (.str [110, 101, 118, 101, 114])) (.cons (.ret (.bl false)) .nil) .nil) .nil))) (.cons (.ret (.cmp .eq (.cmp .eq (.var 4) (.tup .nil)) (.cmp .eq (.call 48 (.cons (.var 0) (.cons (.var 1) (.cons (.var 2) (.cons (.var 3) .nil))))) (.str [110, 101, 118, 101, 114])))) .nil)))))⟩
/-- law -/
def f56 : Fn := ⟨15, 1, false, (.cons (.set 1 (.call 18 .nil)) (.cons (.for (.nm 2) (.rng (.int 5)) (.cons (.set 3 (.bin .add (.int 1) (.call 17 (.cons (.var 0) (.cons (.var 1) (.cons (.int 3) .nil)))))) (.cons (.par [4, 5] (.cons (.call 20 (.cons (.var 0) (.cons (.var 1) (.cons (.var 3) (.cons (.int 6) .nil))))) (.cons (.call 19 (.cons (.var 0) (.cons (.var 1) (.cons (.var 3) .nil)))) .nil))) (.cons (.set 6 (.bi .len (.var 4))) (.cons (.for (.nm 7) (.val (.call 53 (.cons (.var 4) (.cons (.var 5) .nil)))) (.cons (.ife (.cmp .ne (.call 35 (.cons (.var 4) (.cons (.tup (.cons (.bin .add (.sl (.idx (.var 5) (.int 0)) .no (.some (.var 7))) (.sl (.idx (.var 5) (.int 0)) (.some (.bin .add (.var 7) (.int 1))) .no)) (.cons (.idx (.var 5) (.int 1)) .nil))) .nil))) (.call 35 (.cons (.var 4) (.cons (.var 5) .nil)))) (.cons (.ret (.bl false)) .nil) .nil) .nil)) (.cons (.ife (.cmp .lt (.var 6) (.int 2)) (.cons .cont .nil) .nil) (.cons (.set 8 (.call 17 (.cons (.var 0) (.cons (.var 1) (.cons (.var 6) .nil))))) (.cons (.set 9 (.bin .mod (.bin .add (.bin .add (.var 8) (.int 1)) (.call 17 (.cons (.var 0) (.cons (.var 1) (.cons (.bin .sub (.var 6) (.int 1)) .nil))))) (.var 6))) (.cons (.set 10 (.call 48 (.cons (.var 4) (.cons (.var 5) (.cons (.var 8) (.cons (.var 9) .nil)))))) (.cons (.par [11, 12] (.cons (.call 49 (.cons (.var 4) (.cons (.var 5) (.cons (.var 8) (.cons (.var 9) .nil))))) (.cons (.call 50 (.cons (.var 4) (.cons (.var 5) (.cons (.var 8) (.cons (.var 9) .nil))))) .nil))) (.cons (.ife (.cmp .ne (.var 10) (.call 48 (.cons (.var 4) (.cons (.var 5) (.cons (.var 9) (.cons (.var 8) .nil)))))) (.cons (.ret (.bl false)) .nil) .nil) (.cons (.ife (.cmp .ne (.cmp .eq (.var 10) (.str [115, 111, 109, 101, 116, 105, 109, 101, 115])) (.and (.cons (.notN (.var 11)) (.cons (.notN (.var 12)) .nil)))) (.cons (.ret (.bl false)) .nil) .nil) (.cons (.ife (.or (.cons (.cmp .ne (.cmp .eq (.var 10) (.str [97, 108, 119, 97, 121, 115])) (.isN (.var 12))) (.cons (.cmp .ne (.cmp .eq (.var 10) (.str [110, 101, 118, 101, 114])) (.isN (.var 11))) .nil))) (.cons (.ret (.bl false)) .nil) .nil) (.cons (.for (.tp [13, 14]) (.val (.tup (.cons (.tup (.cons (.var 11) (.cons (.bl true) .nil))) (.cons (.tup (.cons (.var 12) (.cons (.bl false) .nil))) .nil)))) (.cons (.ife (.notN (.var 13)) (.cons (.ife (.not (.call 32 (.cons (.var 4) (.cons (.var 5) (.cons (.var 13) .nil))))) (.cons (.ret (.bl false)) .nil) .nil) (.cons (.ife (.cmp .ne (.call 54 (.cons (.call 33 (.cons (.var 4) (.cons (.var 5) (.cons (.var 13) .nil)))) (.cons (.var 8) (.cons (.var 9) .nil)))) (.var 14)) (.cons (.ret (.bl false)) .nil) .nil) .nil)) .nil) .nil)) (.cons (.ife (.and (.cons (.call 40 (.cons (.var 4) (.cons (.var 5) .nil))) (.cons (.cmp .eq (.var 10) (.str [115, 111, 109, 101, 116, 105, 109, 101, 115])) .nil))) (.cons (.ret (.bl false)) .nil) .nil) (.cons (.ife (.and (.cons (.cmp .ne (.var 10) (.str [110, 101, 118, 101, 114])) (.cons (.not (.call 54 (.cons (.call 42 (.cons (.var 4) (.cons (.var 5) .nil))) (.cons (.var 8) (.cons (.var 9) .nil))))) .nil))) (.cons (.ret (.bl false)) .nil) .nil) (.cons (.ife (.not (.call 55 (.cons (.var 4) (.cons (.var 5) (.cons (.var 8) (.cons (.var 9) .nil)))))) (.cons (.ret (.bl false)) .nil) .nil) .nil))))))))))))))))) (.cons (.ret (.bl true)) .nil)))⟩
/-- is_within -/
def f57 : Fn := ⟨3, 2, true, (.cons (.ret (.bi .all (.lc [2] (.nm 2) (.val (.var 0)) .nil (.cmp .isin (.var 2) (.var 1))))) .nil)⟩
/-- least_of -/
def f58 : Fn := ⟨3, 1, true, (.cons (.ret (.lc [1] (.nm 1) (.val (.idx (.var 0) (.int 0))) (.cons (.not (.bi .any (.lc [2] (.nm 2) (.val (.idx (.var 0) (.int 0))) .nil (.and (.cons (.cmp .ne (.var 2) (.var 1)) (.cons (.call 57 (.cons (.var 2) (.cons (.var 1) .nil))) .nil)))))) .nil) (.var 1))) .nil)⟩
/-- least_keys -/
def f59 : Fn := ⟨1, 1, true, (.cons (.ex (.call 7 (.cons (.var 0) .nil))) (.cons (.ret (.bi .tuple (.call 58 (.cons (.var 0) .nil)))) .nil))⟩
/-- check_two -/
def f60 : Fn := ⟨2, 2, true, (.cons (.ex (.call 7 (.cons (.var 0) .nil))) (.cons (.ex (.call 7 (.cons (.var 1) .nil))) .nil))⟩
/-- check_alike -/
def f61 : Fn := ⟨2, 2, true, (.cons (.ex (.call 60 (.cons (.var 0) (.cons (.var 1) .nil)))) (.cons (.ife (.cmp .ne (.bi .len (.idx (.var 0) (.int 1))) (.bi .len (.idx (.var 1) (.int 1)))) (.cons (.raise 2) .nil) .nil) .nil))⟩
/-- are_equal -/
def f62 : Fn := ⟨2, 2, true, (.cons (.ex (.call 60 (.cons (.var 0) (.cons (.var 1) .nil)))) (.cons (.ret (.and (.cons (.cmp .eq (.bi .len (.idx (.var 0) (.int 1))) (.bi .len (.idx (.var 1) (.int 1)))) (.cons (.cmp .eq (.call 58 (.cons (.var 0) .nil)) (.call 58 (.cons (.var 1) .nil))) .nil)))) .nil))⟩
/-- agreeing_on -/
def f63 : Fn := ⟨4, 2, true, (.cons (.set 2 (.bi .tuple (.lc [3] (.nm 3) (.rng (.var 0)) .nil (.ife (.cmp .isin (.var 3) (.var 1)) (.int 0) .non)))) (.cons (.ret (.tup (.cons (.var 2) (.cons (.var 2) .nil)))) .nil))⟩
/-- example -/
def f64 : Fn := ⟨6, 2, true, (.cons (.ex (.call 61 (.cons (.var 0) (.cons (.var 1) .nil)))) (.cons (.for (.tp [2, 3]) (.val (.tup (.cons (.tup (.cons (.var 0) (.cons (.var 1) .nil))) (.cons (.tup (.cons (.var 1) (.cons (.var 0) .nil))) .nil)))) (.cons (.for (.nm 4) (.val (.call 58 (.cons (.var 2) .nil))) (.cons (.ife (.not (.bi .any (.lc [5] (.nm 5) (.val (.idx (.var 3) (.int 0))) .nil (.call 57 (.cons (.var 5) (.cons (.var 4) .nil)))))) (.cons (.ret (.call 63 (.cons (.bi .len (.idx (.var 0) (.int 1))) (.cons (.var 4) .nil)))) .nil) .nil) .nil)) .nil)) (.cons (.ret .non) .nil)))⟩
/-- is_example -/
def f65 : Fn := ⟨3, 3, true, (.cons (.ex (.call 61 (.cons (.var 0) (.cons (.var 1) .nil)))) (.cons (.ife (.or (.cons (.not (.call 3 (.cons (.var 2) .nil))) (.cons (.cmp .ne (.bi .len (.var 2)) (.int 2)) (.cons (.cmp .ne (.bi .len (.idx (.var 2) (.int 0))) (.bi .len (.idx (.var 0) (.int 1)))) .nil)))) (.cons (.ret (.bl false)) .nil) .nil) (.cons (.ret (.cmp .ne (.cmp .eq (.call 15 (.cons (.var 2) (.cons (.var 0) (.cons (.tup (.cons (.int 0) .nil)) (.cons (.tup (.cons (.int 1) .nil)) .nil))))) (.lst .nil)) (.cmp .eq (.call 15 (.cons (.var 2) (.cons (.var 1) (.cons (.tup (.cons (.int 0) .nil)) (.cons (.tup (.cons (.int 1) .nil)) .nil))))) (.lst .nil)))) .nil)))⟩
/-- risky_of -/
def f66 : Fn := ⟨7, 1, true, (.cons (.par [1, 2] (.cons (.call 58 (.cons (.var 0) .nil)) (.cons (.newL .nil) .nil))) (.cons (.for (.tp [3, 4]) (.enum (.idx (.var 0) (.int 1))) (.cons (.set 5 (.lc [6] (.nm 6) (.val (.var 1)) .nil (.cmp .isin (.var 3) (.var 6)))) (.cons (.ife (.and (.cons (.cmp .ne (.var 4) (.str [97, 108, 108])) (.cons (.bi .any (.var 5)) (.cons (.not (.bi .all (.var 5))) .nil)))) (.cons (.ex (.meth .append (.var 2) (.cons (.var 3) .nil))) .nil) .nil) .nil))) (.cons (.ret (.var 2)) .nil)))⟩
/-- is_safe -/
def f67 : Fn := ⟨1, 1, true, (.cons (.ex (.call 7 (.cons (.var 0) .nil))) (.cons (.ret (.cmp .eq (.call 66 (.cons (.var 0) .nil)) (.lst .nil))) .nil))⟩
/-- risky_fields -/
def f68 : Fn := ⟨1, 1, true, (.cons (.ex (.call 7 (.cons (.var 0) .nil))) (.cons (.ret (.bi .tuple (.call 66 (.cons (.var 0) .nil)))) .nil))⟩
/-- parting_records -/
def f69 : Fn := ⟨12, 1, true, (.cons (.ex (.call 7 (.cons (.var 0) .nil))) (.cons (.set 1 (.call 66 (.cons (.var 0) .nil))) (.cons (.ife (.cmp .eq (.var 1) (.lst .nil)) (.cons (.ret .non) .nil) .nil) (.cons (.par [2, 3] (.cons (.idx (.var 1) (.int 0)) (.cons (.call 58 (.cons (.var 0) .nil)) .nil))) (.cons (.set 4 (.idx (.lc [10] (.nm 10) (.val (.var 3)) (.cons (.cmp .isin (.var 2) (.var 10)) .nil) (.var 10)) (.int 0))) (.cons (.set 5 (.idx (.lc [10] (.nm 10) (.val (.var 3)) (.cons (.cmp .notin (.var 2) (.var 10)) .nil) (.var 10)) (.int 0))) (.cons (.set 6 (.lstR (.rng (.bi .len (.idx (.var 0) (.int 1)))))) (.cons (.set 7 (.bi .tuple (.lc [11] (.nm 11) (.val (.var 6)) .nil (.ife (.cmp .eq (.var 11) (.var 2)) (.int 1) (.ife (.cmp .isin (.var 11) (.var 5)) (.int 0) .non))))) (.cons (.set 8 (.bi .tuple (.lc [11] (.nm 11) (.val (.var 6)) .nil (.ife (.or (.cons (.cmp .isin (.var 11) (.var 4)) (.cons (.cmp .isin (.var 11) (.var 5)) .nil))) (.int 0) .non)))) (.cons (.set 9 (.bi .tuple (.lc [11] (.nm 11) (.val (.var 6)) .nil (.ife (.cmp .isin (.var 11) (.var 4)) (.int 0) .non)))) (.cons (.ret (.ife (.cmp .eq (.idx (.idx (.var 0) (.int 1)) (.var 2)) (.str [102, 105, 114, 115, 116])) (.tup (.cons (.var 7) (.cons (.var 8) (.cons (.var 9) .nil)))) (.tup (.cons (.var 9) (.cons (.var 8) (.cons (.var 7) .nil)))))) .nil)))))))))))⟩
/-- _law_pairs_fit -/
def f70 : Fn := ⟨8, 4, true, (.cons (.for (.nm 4) (.val (.var 0)) (.cons (.for (.nm 5) (.val (.var 0)) (.cons (.set 6 (.cmp .eq (.call 16 (.cons (.tup (.cons (.var 4) (.cons (.var 5) .nil))) (.cons (.var 1) (.cons (.tup (.cons (.int 0) .nil)) (.cons (.tup (.cons (.int 1) .nil)) .nil))))) (.tup .nil))) (.cons (.set 7 (.cmp .eq (.call 16 (.cons (.tup (.cons (.var 4) (.cons (.var 5) .nil))) (.cons (.var 2) (.cons (.tup (.cons (.int 0) .nil)) (.cons (.tup (.cons (.int 1) .nil)) .nil))))) (.tup .nil))) (.cons (.ife (.and (.cons (.cmp .ne (.var 6) (.var 7)) (.cons (.or (.cons (.var 3) (.cons (.not (.call 65 (.cons (.var 1) (.cons (.var 2) (.cons (.tup (.cons (.var 4) (.cons (.var 5) .nil))) .nil))))) .nil))) .nil))) (.cons (.ret (.bl false)) .nil) .nil) .nil)))) .nil)) (.cons (.ret (.bl true)) .nil))⟩
/-- law -/
def f71 : Fn := ⟨11, 1, false, (.cons (.set 1 (.call 18 .nil)) (.cons (.for (.nm 2) (.rng (.int 5)) (.cons (.set 3 (.bin .add (.int 1) (.call 17 (.cons (.var 0) (.cons (.var 1) (.cons (.int 3) .nil)))))) (.cons (.par [4, 5] (.cons (.call 19 (.cons (.var 0) (.cons (.var 1) (.cons (.var 3) .nil)))) (.cons (.call 19 (.cons (.var 0) (.cons (.var 1) (.cons (.var 3) .nil)))) .nil))) (.cons (.set 6 (.call 20 (.cons (.var 0) (.cons (.var 1) (.cons (.var 3) (.cons (.int 6) .nil)))))) (.cons (.ife (.or (.cons (.and (.cons (.call 67 (.cons (.var 4) .nil)) (.cons (.not (.call 40 (.cons (.var 6) (.cons (.var 4) .nil)))) .nil))) (.cons (.cmp .ne (.call 67 (.cons (.var 4) .nil)) (.cmp .eq (.call 68 (.cons (.var 4) .nil)) (.tup .nil))) .nil))) (.cons (.ret (.bl false)) .nil) .nil) (.cons (.set 7 (.call 69 (.cons (.var 4) .nil))) (.cons (.ife (.or (.cons (.cmp .ne (.isN (.var 7)) (.call 67 (.cons (.var 4) .nil))) (.cons (.and (.cons (.notN (.var 7)) (.cons (.call 40 (.cons (.var 7) (.cons (.var 4) .nil))) .nil))) .nil))) (.cons (.ret (.bl false)) .nil) .nil) (.cons (.set 8 (.tup (.cons (.call 59 (.cons (.var 4) .nil)) (.cons (.idx (.var 4) (.int 1)) .nil)))) (.cons (.ife (.not (.call 62 (.cons (.var 4) (.cons (.var 8) .nil)))) (.cons (.ret (.bl false)) .nil) .nil) (.cons (.ife (.cmp .ne (.call 35 (.cons (.var 6) (.cons (.var 8) .nil))) (.call 35 (.cons (.var 6) (.cons (.var 4) .nil)))) (.cons (.ret (.bl false)) .nil) .nil) (.cons (.ife (.cmp .ne (.call 59 (.cons (.var 8) .nil)) (.idx (.var 8) (.int 0))) (.cons (.ret (.bl false)) .nil) .nil) (.cons (.ife (.cmp .ne (.call 67 (.cons (.var 8) .nil)) (.call 67 (.cons (.var 4) .nil))) (.cons (.ret (.bl false)) .nil) .nil) (.cons (.ife (.not (.call 67 (.cons (.tup (.cons (.idx (.var 4) (.int 0)) (.cons (.bin .mul (.tup (.cons (.str [97, 108, 108]) .nil)) (.var 3)) .nil))) .nil))) (.cons (.ret (.bl false)) .nil) .nil) (.cons (.ife (.not (.call 67 (.cons (.tup (.cons (.sl (.idx (.var 4) (.int 0)) .no (.some (.int 1))) (.cons (.idx (.var 4) (.int 1)) .nil))) .nil))) (.cons (.ret (.bl false)) .nil) .nil) (.cons (.par [9, 10] (.cons (.call 62 (.cons (.var 4) (.cons (.var 5) .nil))) (.cons (.call 64 (.cons (.var 4) (.cons (.var 5) .nil))) .nil))) (.cons (.ife (.cmp .ne (.var 9) (.call 62 (.cons (.var 5) (.cons (.var 4) .nil)))) (.cons (.ret (.bl false)) .nil) .nil) (.cons (.ife (.cmp .ne (.isN (.var 10)) (.var 9)) (.cons (.ret (.bl false)) .nil) .nil) (.cons (.ife (.not (.call 70 (.cons (.var 6) (.cons (.var 4) (.cons (.var 5) (.cons (.var 9) .nil)))))) (.cons (.ret (.bl false)) .nil) .nil) (.cons (.ife (.notN (.var 10)) (.cons (.ife (.or (.cons (.not (.call 65 (.cons (.var 4) (.cons (.var 5) (.cons (.var 10) .nil))))) (.cons (.not (.call 65 (.cons (.var 5) (.cons (.var 4) (.cons (.var 10) .nil))))) .nil))) (.cons (.ret (.bl false)) .nil) .nil) .nil) .nil) (.cons (.ife (.and (.cons (.var 9) (.cons (.cmp .ne (.call 35 (.cons (.var 6) (.cons (.tup (.cons (.idx (.var 4) (.int 0)) (.cons (.idx (.var 5) (.int 1)) .nil))) .nil))) (.call 35 (.cons (.var 6) (.cons (.var 5) .nil)))) .nil))) (.cons (.ret (.bl false)) .nil) .nil) .nil)))))))))))))))))))) (.cons (.ret (.bl true)) .nil)))⟩
/-- _law_order -/
def f72 : Fn := ⟨7, 3, false, (.cons (.par [3, 4] (.cons (.lstR (.rng (.var 2))) (.cons (.newL .nil) .nil))) (.cons (.for (.nm 5) (.rng (.var 2)) (.cons (.set 6 (.call 17 (.cons (.var 0) (.cons (.var 1) (.cons (.bi .len (.var 3)) .nil))))) (.cons (.ex (.meth .append (.var 4) (.cons (.idx (.var 3) (.var 6)) .nil))) (.cons (.set 3 (.bin .add (.sl (.var 3) .no (.some (.var 6))) (.sl (.var 3) (.some (.bin .add (.var 6) (.int 1))) .no))) .nil)))) (.cons (.ret (.var 4)) .nil)))⟩
/-- _law_renamed -/
def f73 : Fn := ⟨6, 3, false, (.cons (.set 3 (.newL .nil)) (.cons (.for (.nm 4) (.rng (.bi .len (.var 0))) (.cons (.set 5 (.idx (.var 0) (.meth .index (.var 1) (.cons (.var 4) .nil)))) (.cons (.ex (.meth .append (.var 3) (.cons (.ife (.isN (.var 5)) .non (.bin .add (.var 5) (.var 2))) .nil))) .nil))) (.cons (.ret (.bi .tuple (.var 3))) .nil)))⟩
/-- law -/
def f74 : Fn := ⟨19, 1, false, (.cons (.set 1 (.call 18 .nil)) (.cons (.for (.nm 2) (.rng (.int 5)) (.cons (.set 3 (.bin .add (.int 1) (.call 17 (.cons (.var 0) (.cons (.var 1) (.cons (.int 4) .nil)))))) (.cons (.par [4, 5] (.cons (.call 20 (.cons (.var 0) (.cons (.var 1) (.cons (.var 3) (.cons (.int 5) .nil))))) (.cons (.call 19 (.cons (.var 0) (.cons (.var 1) (.cons (.var 3) .nil)))) .nil))) (.cons (.par [6, 7] (.cons (.call 72 (.cons (.var 0) (.cons (.var 1) (.cons (.var 3) .nil)))) (.cons (.call 17 (.cons (.var 0) (.cons (.var 1) (.cons (.int 7) .nil)))) .nil))) (.cons (.set 8 (.bi .tuple (.lc [17] (.nm 17) (.val (.var 4)) .nil (.call 73 (.cons (.var 17) (.cons (.var 6) (.cons (.var 7) .nil))))))) (.cons (.set 9 (.bi .tuple (.bi .sorted (.lc [16] (.nm 16) (.val (.idx (.var 5) (.int 0))) .nil (.bi .tuple (.bi .sorted (.lc [15] (.nm 15) (.val (.var 16)) .nil (.idx (.var 6) (.var 15))))))))) (.cons (.set 10 (.tup (.cons (.var 9) (.cons (.bi .tuple (.lc [15] (.nm 15) (.rng (.var 3)) .nil (.idx (.idx (.var 5) (.int 1)) (.meth .index (.var 6) (.cons (.var 15) .nil))))) .nil)))) (.cons (.ife (.or (.cons (.not (.call 3 (.cons (.var 8) .nil))) (.cons (.not (.call 5 (.cons (.var 10) .nil))) .nil))) (.cons (.ret (.bl false)) .nil) .nil) (.cons (.ife (.or (.cons (.cmp .ne (.call 35 (.cons (.var 8) (.cons (.var 10) .nil))) (.call 35 (.cons (.var 4) (.cons (.var 5) .nil)))) (.cons (.cmp .ne (.call 39 (.cons (.var 8) (.cons (.var 10) .nil))) (.call 39 (.cons (.var 4) (.cons (.var 5) .nil)))) .nil))) (.cons (.ret (.bl false)) .nil) .nil) (.cons (.ife (.or (.cons (.cmp .ne (.call 42 (.cons (.var 8) (.cons (.var 10) .nil))) (.call 42 (.cons (.var 4) (.cons (.var 5) .nil)))) (.cons (.cmp .ne (.call 67 (.cons (.var 10) .nil)) (.call 67 (.cons (.var 5) .nil))) .nil))) (.cons (.ret (.bl false)) .nil) .nil) (.cons (.ife (.cmp .ne (.call 68 (.cons (.var 10) .nil)) (.bi .tuple (.bi .sorted (.lc [15] (.nm 15) (.val (.call 68 (.cons (.var 5) .nil))) .nil (.idx (.var 6) (.var 15)))))) (.cons (.ret (.bl false)) .nil) .nil) (.cons (.set 11 (.lc [16] (.nm 16) (.val (.call 59 (.cons (.var 5) .nil))) .nil (.bi .tuple (.bi .sorted (.lc [15] (.nm 15) (.val (.var 16)) .nil (.idx (.var 6) (.var 15))))))) (.cons (.ife (.cmp .ne (.call 59 (.cons (.var 10) .nil)) (.bi .tuple (.bi .sorted (.var 11)))) (.cons (.ret (.bl false)) .nil) .nil) (.cons (.set 12 (.tupR (.rng (.bi .len (.var 4))))) (.cons (.par [13, 14] (.cons (.call 13 (.cons (.var 4) (.cons (.var 5) (.cons (.var 12) .nil)))) (.cons (.call 13 (.cons (.var 8) (.cons (.var 10) (.cons (.var 12) .nil)))) .nil))) (.cons (.for (.nm 15) (.rng (.var 3)) (.cons (.ife (.cmp .ne (.idx (.var 14) (.idx (.var 6) (.var 15))) (.bi .tuple (.lc [18] (.nm 18) (.val (.idx (.var 13) (.var 15))) .nil (.bin .add (.var 18) (.var 7))))) (.cons (.ret (.bl false)) .nil) .nil) .nil)) (.cons (.ife (.and (.cons (.cmp .gt (.bi .len (.var 4)) (.int 1)) (.cons (.cmp .ne (.call 48 (.cons (.var 8) (.cons (.var 10) (.cons (.int 0) (.cons (.int 1) .nil))))) (.call 48 (.cons (.var 4) (.cons (.var 5) (.cons (.int 0) (.cons (.int 1) .nil)))))) .nil))) (.cons (.ret (.bl false)) .nil) .nil) .nil))))))))))))))))) (.cons (.ret (.bl true)) .nil)))⟩
/-- _law_mirrored -/
def f75 : Fn := ⟨4, 2, true, (.cons (.ret (.bi .tuple (.bi .sorted (.lc [2] (.nm 2) (.val (.var 0)) .nil (.bi .tuple (.bi .sorted (.lc [3] (.nm 3) (.val (.var 2)) .nil (.bin .sub (.bin .sub (.var 1) (.int 1)) (.var 3))))))))) .nil)⟩
/-- _law_halves -/
def f76 : Fn := ⟨11, 3, true, (.cons (.par [3, 4] (.cons (.bi .len (.var 0)) (.cons (.rev (.var 0)) .nil))) (.cons (.for (.nm 5) (.rng2 (.int 1) (.var 3)) (.cons (.par [6, 7] (.cons (.tupR (.rng (.var 5))) (.cons (.tupR (.rng2 (.var 5) (.var 3))) .nil))) (.cons (.set 8 (.rev (.bi .tuple (.lc [10] (.nm 10) (.val (.var 6)) .nil (.bin .sub (.bin .sub (.var 3) (.int 1)) (.var 10)))))) (.cons (.set 9 (.rev (.bi .tuple (.lc [10] (.nm 10) (.val (.var 7)) .nil (.bin .sub (.bin .sub (.var 3) (.int 1)) (.var 10)))))) (.cons (.ife (.cmp .ne (.call 13 (.cons (.var 4) (.cons (.var 2) (.cons (.var 8) .nil)))) (.call 13 (.cons (.var 0) (.cons (.var 1) (.cons (.var 6) .nil))))) (.cons (.ret (.bl false)) .nil) .nil) (.cons (.ife (.cmp .ne (.call 16 (.cons (.var 4) (.cons (.var 2) (.cons (.var 8) (.cons (.var 9) .nil))))) (.call 16 (.cons (.var 0) (.cons (.var 1) (.cons (.var 6) (.cons (.var 7) .nil)))))) (.cons (.ret (.bl false)) .nil) .nil) .nil)))))) (.cons (.ret (.bl true)) .nil)))⟩
/-- law -/
def f77 : Fn := ⟨14, 1, false, (.cons (.set 1 (.call 18 .nil)) (.cons (.set 2 (.newS [97, 108, 108] [97, 108, 108] [102, 105, 114, 115, 116] [108, 97, 115, 116] [108, 97, 115, 116] [102, 105, 114, 115, 116])) (.cons (.for (.nm 3) (.rng (.int 5)) (.cons (.set 4 (.bin .add (.int 1) (.call 17 (.cons (.var 0) (.cons (.var 1) (.cons (.int 3) .nil)))))) (.cons (.par [5, 6] (.cons (.call 20 (.cons (.var 0) (.cons (.var 1) (.cons (.var 4) (.cons (.int 6) .nil))))) (.cons (.call 19 (.cons (.var 0) (.cons (.var 1) (.cons (.var 4) .nil)))) .nil))) (.cons (.par [7, 8] (.cons (.bi .len (.var 5)) (.cons (.rev (.var 5)) .nil))) (.cons (.set 9 (.tup (.cons (.idx (.var 6) (.int 0)) (.cons (.bi .tuple (.lc [13] (.nm 13) (.val (.idx (.var 6) (.int 1))) .nil (.idx (.var 2) (.var 13)))) .nil)))) (.cons (.set 10 (.bi .sorted (.lc [12] (.nm 12) (.val (.call 35 (.cons (.var 5) (.cons (.var 6) .nil)))) .nil (.call 75 (.cons (.var 12) (.cons (.var 7) .nil)))))) (.cons (.ife (.or (.cons (.cmp .ne (.call 35 (.cons (.var 8) (.cons (.var 9) .nil))) (.bi .tuple (.var 10))) (.cons (.cmp .ne (.call 39 (.cons (.var 8) (.cons (.var 9) .nil))) (.call 39 (.cons (.var 5) (.cons (.var 6) .nil)))) .nil))) (.cons (.ret (.bl false)) .nil) .nil) (.cons (.ife (.cmp .ne (.call 42 (.cons (.var 8) (.cons (.var 9) .nil))) (.call 75 (.cons (.call 42 (.cons (.var 5) (.cons (.var 6) .nil))) (.cons (.var 7) .nil)))) (.cons (.ret (.bl false)) .nil) .nil) (.cons (.ife (.cmp .ne (.call 40 (.cons (.var 8) (.cons (.var 9) .nil))) (.call 40 (.cons (.var 5) (.cons (.var 6) .nil)))) (.cons (.ret (.bl false)) .nil) .nil) (.cons (.ife (.cmp .ne (.call 53 (.cons (.var 8) (.cons (.var 9) .nil))) (.call 53 (.cons (.var 5) (.cons (.var 6) .nil)))) (.cons (.ret (.bl false)) .nil) .nil) (.cons (.ife (.or (.cons (.cmp .ne (.call 67 (.cons (.var 9) .nil)) (.call 67 (.cons (.var 6) .nil))) (.cons (.cmp .ne (.call 68 (.cons (.var 9) .nil)) (.call 68 (.cons (.var 6) .nil))) .nil))) (.cons (.ret (.bl false)) .nil) .nil) (.cons (.set 11 (.call 69 (.cons (.var 6) .nil))) (.cons (.ife (.and (.cons (.notN (.var 11)) (.cons (.call 40 (.cons (.rev (.var 11)) (.cons (.var 9) .nil))) .nil))) (.cons (.ret (.bl false)) .nil) .nil) (.cons (.ife (.not (.call 76 (.cons (.var 5) (.cons (.var 6) (.cons (.var 9) .nil))))) (.cons (.ret (.bl false)) .nil) .nil) (.cons (.ife (.cmp .gt (.var 7) (.int 1)) (.cons (.ife (.cmp .ne (.call 48 (.cons (.var 8) (.cons (.var 9) (.cons (.int 0) (.cons (.bin .sub (.var 7) (.int 1)) .nil))))) (.call 48 (.cons (.var 5) (.cons (.var 6) (.cons (.int 0) (.cons (.bin .sub (.var 7) (.int 1)) .nil)))))) (.cons (.ret (.bl false)) .nil) .nil) (.cons (.ife (.cmp .ne (.call 52 (.cons (.var 8) (.cons (.var 9) (.cons (.bin .sub (.var 7) (.int 1)) (.cons (.int 0) .nil))))) (.call 52 (.cons (.var 5) (.cons (.var 6) (.cons (.int 0) (.cons (.bin .sub (.var 7) (.int 1)) .nil)))))) (.cons (.ret (.bl false)) .nil) .nil) .nil)) .nil) .nil))))))))))))))) (.cons (.ret (.bl true)) .nil))))⟩
/-- _law_lone -/
def f78 : Fn := ⟨9, 3, true, (.cons (.for (.tp [3, 4]) (.enum (.var 0)) (.cons (.set 5 (.lc [6] (.nm 6) (.rng (.var 2)) (.cons (.isN (.idx (.var 4) (.var 6))) .nil) (.var 6))) (.cons (.ife (.cmp .eq (.lc [7] (.nm 7) (.val (.idx (.var 1) (.int 0))) (.cons (.cmp .eq (.lc [6] (.nm 6) (.val (.var 7)) (.cons (.cmp .isin (.var 6) (.var 5)) .nil) (.var 6)) (.lst .nil)) .nil) (.var 7)) (.lst .nil)) (.cons (.ife (.cmp .ne (.lc [8] (.nm 8) (.val (.call 35 (.cons (.var 0) (.cons (.var 1) .nil)))) (.cons (.cmp .notin (.tup (.cons (.var 3) .nil)) (.var 8)) .nil) (.var 8)) (.lst .nil)) (.cons (.ret (.bl false)) .nil) .nil) .nil) .nil) .nil))) (.cons (.ret (.bl true)) .nil))⟩
/-- _law_twins -/
def f79 : Fn := ⟨6, 3, true, (.cons (.par [3, 4] (.cons (.bin .mul (.tup (.cons (.bin .mul (.tup (.cons (.var 2) .nil)) (.var 1)) .nil)) (.int 2)) (.cons (.tup (.cons (.tupR (.rng (.var 1))) .nil)) .nil))) (.cons (.ife (.cmp .ne (.call 35 (.cons (.var 3) (.cons (.tup (.cons (.var 4) (.cons (.idx (.var 0) (.int 1)) .nil))) .nil))) (.tup (.cons (.tup (.cons (.tup (.cons (.int 0) (.cons (.int 1) .nil))) .nil)) .nil))) (.cons (.ret (.bl false)) .nil) .nil) (.cons (.ife (.cmp .ne (.call 48 (.cons (.var 3) (.cons (.tup (.cons (.var 4) (.cons (.idx (.var 0) (.int 1)) .nil))) (.cons (.int 0) (.cons (.int 1) .nil))))) (.str [97, 108, 119, 97, 121, 115])) (.cons (.ret (.bl false)) .nil) .nil) (.cons (.ife (.cmp .ne (.call 13 (.cons (.var 3) (.cons (.var 0) (.cons (.tup (.cons (.int 0) (.cons (.int 1) .nil))) .nil)))) (.bi .tuple (.lc [5] (.nm 5) (.val (.idx (.var 3) (.int 0))) .nil (.tup (.cons (.var 5) .nil))))) (.cons (.ret (.bl false)) .nil) .nil) (.cons (.ife (.not (.call 67 (.cons (.tup (.cons (.var 4) (.cons (.idx (.var 0) (.int 1)) .nil))) .nil))) (.cons (.ret (.bl false)) .nil) .nil) (.cons (.ife (.cmp .ne (.call 59 (.cons (.tup (.cons (.var 4) (.cons (.idx (.var 0) (.int 1)) .nil))) .nil)) (.var 4)) (.cons (.ret (.bl false)) .nil) .nil) (.cons (.ret (.bl true)) .nil)))))))⟩
/-- law -/
def f80 : Fn := ⟨15, 1, false, (.cons (.set 1 (.call 18 .nil)) (.cons (.for (.nm 2) (.rng (.int 5)) (.cons (.set 3 (.bin .add (.int 1) (.call 17 (.cons (.var 0) (.cons (.var 1) (.cons (.int 3) .nil)))))) (.cons (.par [4, 5] (.cons (.call 20 (.cons (.var 0) (.cons (.var 1) (.cons (.var 3) (.cons (.int 5) .nil))))) (.cons (.call 19 (.cons (.var 0) (.cons (.var 1) (.cons (.var 3) .nil)))) .nil))) (.cons (.par [6, 7] (.cons (.tup (.cons (.idx (.var 5) (.int 0)) (.cons (.bin .mul (.tup (.cons (.str [97, 108, 108]) .nil)) (.var 3)) .nil))) (.cons (.call 42 (.cons (.var 4) (.cons (.var 5) .nil))) .nil))) (.cons (.ife (.cmp .lt (.bi .len (.idx (.var 5) (.int 0))) (.int 5)) (.cons (.set 13 (.bi .tuple (.sset (.bin .add (.idx (.var 5) (.int 0)) (.tup (.cons (.tup (.cons (.call 17 (.cons (.var 0) (.cons (.var 1) (.cons (.var 3) .nil)))) .nil)) .nil)))))) (.cons (.ife (.not (.call 44 (.cons (.var 7) (.cons (.call 42 (.cons (.var 4) (.cons (.tup (.cons (.var 13) (.cons (.idx (.var 5) (.int 1)) .nil))) .nil))) .nil)))) (.cons (.ret (.bl false)) .nil) .nil) .nil)) .nil) (.cons (.par [8, 9] (.cons (.call 17 (.cons (.var 0) (.cons (.var 1) (.cons (.bi .len (.var 4)) .nil)))) (.cons (.call 17 (.cons (.var 0) (.cons (.var 1) (.cons (.var 3) .nil)))) .nil))) (.cons (.set 10 (.bin .add (.bin .add (.sl (.idx (.var 4) (.var 8)) .no (.some (.var 9))) (.tup (.cons (.call 17 (.cons (.var 0) (.cons (.var 1) (.cons (.int 3) .nil)))) .nil))) (.sl (.idx (.var 4) (.var 8)) (.some (.bin .add (.var 9) (.int 1))) .no))) (.cons (.set 11 (.bin .add (.bin .add (.sl (.var 4) .no (.some (.var 8))) (.tup (.cons (.var 10) .nil))) (.sl (.var 4) (.some (.bin .add (.var 8) (.int 1))) .no))) (.cons (.ife (.and (.cons (.isN (.idx (.idx (.var 4) (.var 8)) (.var 9))) (.cons (.not (.call 44 (.cons (.var 7) (.cons (.call 42 (.cons (.var 11) (.cons (.var 5) .nil))) .nil)))) .nil))) (.cons (.ret (.bl false)) .nil) .nil) (.cons (.set 12 (.bin .add (.var 4) (.call 20 (.cons (.var 0) (.cons (.var 1) (.cons (.var 3) (.cons (.int 1) .nil))))))) (.cons (.ife (.not (.call 44 (.cons (.var 7) (.cons (.call 42 (.cons (.var 12) (.cons (.var 5) .nil))) .nil)))) (.cons (.ret (.bl false)) .nil) .nil) (.cons (.ife (.cmp .ne (.call 42 (.cons (.var 4) (.cons (.tup (.cons (.tup .nil) (.cons (.idx (.var 5) (.int 1)) .nil))) .nil))) (.bi .tuple (.lc [14] (.nm 14) (.rng (.bi .len (.var 4))) .nil (.tup (.cons (.var 14) .nil))))) (.cons (.ret (.bl false)) .nil) .nil) (.cons (.ife (.or (.cons (.not (.call 79 (.cons (.var 5) (.cons (.var 3) (.cons (.call 17 (.cons (.var 0) (.cons (.var 1) (.cons (.int 9) .nil)))) .nil))))) (.cons (.not (.call 40 (.cons (.var 4) (.cons (.var 6) .nil)))) .nil))) (.cons (.ret (.bl false)) .nil) .nil) (.cons (.ife (.not (.call 78 (.cons (.var 4) (.cons (.var 5) (.cons (.var 3) .nil))))) (.cons (.ret (.bl false)) .nil) .nil) .nil)))))))))))))) (.cons (.ret (.bl true)) .nil)))⟩
/-- _law_same -/
def f81 : Fn := ⟨3, 1, true, (.cons (.par [1, 2] (.cons (.bin .mul (.tup (.cons (.tup (.cons (.int 3) (.cons .non .nil))) .nil)) (.var 0)) (.cons (.tup (.cons (.tup (.cons (.tup (.cons (.int 0) .nil)) (.cons (.tup (.cons (.int 1) .nil)) .nil))) (.cons (.tup (.cons (.str [102, 105, 114, 115, 116]) (.cons (.str [108, 97, 115, 116]) .nil))) .nil))) .nil))) (.cons (.ife (.cmp .ne (.call 35 (.cons (.var 1) (.cons (.var 2) .nil))) (.tup (.cons (.tup (.cons (.tupR (.rng (.var 0))) .nil)) .nil))) (.cons (.ret (.bl false)) .nil) .nil) (.cons (.ife (.not (.call 40 (.cons (.var 1) (.cons (.var 2) .nil)))) (.cons (.ret (.bl false)) .nil) .nil) (.cons (.ife (.notN (.call 41 (.cons (.var 1) (.cons (.var 2) .nil)))) (.cons (.ret (.bl false)) .nil) .nil) (.cons (.ife (.cmp .ne (.call 39 (.cons (.var 1) (.cons (.var 2) .nil))) (.idx (.tup (.cons (.int 1) (.cons (.int 1) (.cons (.int 3) (.cons (.int 18) (.cons (.int 180) .nil)))))) (.bin .sub (.var 0) (.int 1)))) (.cons (.ret (.bl false)) .nil) .nil) (.cons (.ife (.cmp .ne (.call 53 (.cons (.var 1) (.cons (.var 2) .nil))) (.ife (.cmp .lt (.var 0) (.int 2)) (.tup (.cons (.int 0) (.cons (.int 1) .nil))) (.tup (.cons (.int 1) .nil)))) (.cons (.ret (.bl false)) .nil) .nil) (.cons (.ret (.cmp .eq (.call 13 (.cons (.var 1) (.cons (.var 2) (.cons (.tupR (.rng (.var 0))) .nil)))) (.tup (.cons (.tup (.cons (.int 3) .nil)) (.cons (.tup .nil) .nil))))) .nil)))))))⟩
/-- _law_row -/
def f82 : Fn := ⟨5, 1, true, (.cons (.set 1 (.bi .tuple (.lc [4] (.nm 4) (.rng (.var 0)) .nil (.tup (.cons (.bin .fdiv (.var 4) (.int 2)) (.cons (.bin .fdiv (.bin .add (.var 4) (.int 1)) (.int 2)) .nil)))))) (.cons (.par [2, 3] (.cons (.tup (.cons (.tup (.cons (.tup (.cons (.int 0) .nil)) (.cons (.tup (.cons (.int 1) .nil)) .nil))) (.cons (.tup (.cons (.str [97, 108, 108]) (.cons (.str [97, 108, 108]) .nil))) .nil))) (.cons (.tup (.cons (.tup (.cons (.tup (.cons (.int 0) .nil)) (.cons (.tup (.cons (.int 1) .nil)) .nil))) (.cons (.tup (.cons (.str [102, 105, 114, 115, 116]) (.cons (.str [97, 108, 108]) .nil))) .nil))) .nil))) (.cons (.ife (.or (.cons (.cmp .ne (.call 35 (.cons (.var 1) (.cons (.var 2) .nil))) (.tup (.cons (.tup (.cons (.tupR (.rng (.var 0))) .nil)) .nil))) (.cons (.cmp .ne (.call 42 (.cons (.var 1) (.cons (.var 3) .nil))) (.tup (.cons (.tupR (.rng (.var 0))) .nil))) .nil))) (.cons (.ret (.bl false)) .nil) .nil) (.cons (.ife (.or (.cons (.cmp .ne (.call 48 (.cons (.var 1) (.cons (.var 2) (.cons (.int 0) (.cons (.bin .sub (.var 0) (.int 1)) .nil))))) (.str [97, 108, 119, 97, 121, 115])) (.cons (.cmp .ne (.call 52 (.cons (.var 1) (.cons (.var 2) (.cons (.int 0) (.cons (.int 1) .nil))))) (.tup (.cons (.int 0) .nil))) .nil))) (.cons (.ret (.bl false)) .nil) .nil) (.cons (.ret (.and (.cons (.cmp .eq (.call 16 (.cons (.var 1) (.cons (.var 2) (.cons (.tup (.cons (.int 0) .nil)) (.cons (.tup (.cons (.int 1) .nil)) .nil))))) (.tup (.cons (.int 0) .nil))) (.cons (.cmp .eq (.call 16 (.cons (.var 1) (.cons (.var 2) (.cons (.tup (.cons (.int 1) .nil)) (.cons (.tup (.cons (.int 2) .nil)) .nil))))) (.tup (.cons (.int 1) .nil))) .nil)))) .nil)))))⟩
/-- _law_part -/
def f83 : Fn := ⟨4, 0, true, (.cons (.par [0, 1] (.cons (.tup (.cons (.tup (.cons (.int 1) (.cons (.int 5) .nil))) (.cons (.tup (.cons (.int 2) (.cons (.int 5) .nil))) (.cons (.tup (.cons (.int 2) (.cons .non .nil))) .nil)))) (.cons (.tup (.cons (.tup (.cons (.tup (.cons (.int 0) .nil)) (.cons (.tup (.cons (.int 1) .nil)) .nil))) (.cons (.tup (.cons (.str [102, 105, 114, 115, 116]) (.cons (.str [97, 108, 108]) .nil))) .nil))) .nil))) (.cons (.ife (.cmp .ne (.call 35 (.cons (.var 0) (.cons (.var 1) .nil))) (.tup (.cons (.tup (.cons (.tup (.cons (.int 0) (.cons (.int 1) .nil))) (.cons (.tup (.cons (.int 2) .nil)) .nil))) (.cons (.tup (.cons (.tup (.cons (.int 0) (.cons (.int 1) (.cons (.int 2) .nil)))) .nil)) .nil)))) (.cons (.ret (.bl false)) .nil) .nil) (.cons (.ife (.call 40 (.cons (.var 0) (.cons (.var 1) .nil))) (.cons (.ret (.bl false)) .nil) .nil) (.cons (.ife (.cmp .ne (.call 39 (.cons (.var 0) (.cons (.var 1) .nil))) (.int 2)) (.cons (.ret (.bl false)) .nil) .nil) (.cons (.ife (.or (.cons (.cmp .ne (.call 48 (.cons (.var 0) (.cons (.var 1) (.cons (.int 0) (.cons (.int 2) .nil))))) (.str [115, 111, 109, 101, 116, 105, 109, 101, 115])) (.cons (.cmp .ne (.call 48 (.cons (.var 0) (.cons (.var 1) (.cons (.int 0) (.cons (.int 1) .nil))))) (.str [97, 108, 119, 97, 121, 115])) .nil))) (.cons (.ret (.bl false)) .nil) .nil) (.cons (.ife (.cmp .ne (.call 49 (.cons (.var 0) (.cons (.var 1) (.cons (.int 0) (.cons (.int 2) .nil))))) (.tup (.cons (.tup (.cons (.tup (.cons (.int 1) .nil)) (.cons (.tup (.cons (.int 2) .nil)) .nil))) (.cons (.tup (.cons (.tup (.cons (.int 0) .nil)) (.cons (.tup (.cons (.int 1) (.cons (.int 2) .nil))) .nil))) .nil)))) (.cons (.ret (.bl false)) .nil) .nil) (.cons (.ife (.cmp .ne (.call 50 (.cons (.var 0) (.cons (.var 1) (.cons (.int 0) (.cons (.int 2) .nil))))) (.tup (.cons (.tup (.cons (.tup (.cons (.int 0) .nil)) (.cons (.tup (.cons (.int 1) .nil)) .nil))) .nil))) (.cons (.ret (.bl false)) .nil) .nil) (.cons (.unp [2, 3] (.call 41 (.cons (.var 0) (.cons (.var 1) .nil)))) (.cons (.ife (.cmp .eq (.call 33 (.cons (.var 0) (.cons (.var 1) (.cons (.var 2) .nil)))) (.call 33 (.cons (.var 0) (.cons (.var 1) (.cons (.var 3) .nil))))) (.cons (.ret (.bl false)) .nil) .nil) (.cons (.ife (.cmp .ne (.call 68 (.cons (.var 1) .nil)) (.tup (.cons (.int 0) .nil))) (.cons (.ret (.bl false)) .nil) .nil) (.cons (.ife (.call 67 (.cons (.var 1) .nil)) (.cons (.ret (.bl false)) .nil) .nil) (.cons (.ife (.cmp .ne (.call 35 (.cons (.var 0) (.cons (.tup (.cons (.tup (.cons (.tup (.cons (.int 0) .nil)) (.cons (.tup (.cons (.int 1) .nil)) .nil))) (.cons (.tup (.cons (.str [108, 97, 115, 116]) (.cons (.str [97, 108, 108]) .nil))) .nil))) .nil))) (.tup (.cons (.tup (.cons (.tup (.cons (.int 0) (.cons (.int 1) (.cons (.int 2) .nil)))) .nil)) .nil))) (.cons (.ret (.bl false)) .nil) .nil) (.cons (.ife (.cmp .ne (.call 52 (.cons (.var 0) (.cons (.var 1) (.cons (.int 1) (.cons (.int 2) .nil))))) (.tup (.cons (.int 0) .nil))) (.cons (.ret (.bl false)) .nil) .nil) (.cons (.ret (.and (.cons (.cmp .eq (.bi .len (.call 69 (.cons (.var 1) .nil))) (.int 3)) (.cons (.cmp .eq (.call 42 (.cons (.var 0) (.cons (.var 1) .nil))) (.tup (.cons (.tup (.cons (.int 0) (.cons (.int 1) (.cons (.int 2) .nil)))) .nil))) .nil)))) .nil))))))))))))))⟩
/-- _law_rules_by_hand -/
def f84 : Fn := ⟨3, 0, true, (.cons (.par [0, 1] (.cons (.tup (.cons (.tup (.cons (.tup (.cons (.int 0) .nil)) (.cons (.tup (.cons (.int 0) (.cons (.int 1) .nil))) .nil))) (.cons (.tup (.cons (.str [102, 105, 114, 115, 116]) (.cons (.str [108, 97, 115, 116]) .nil))) .nil))) (.cons (.tup (.cons (.tup (.cons (.tup (.cons (.int 0) .nil)) .nil)) (.cons (.tup (.cons (.str [97, 108, 108]) (.cons (.str [97, 108, 108]) .nil))) .nil))) .nil))) (.cons (.ife (.not (.call 62 (.cons (.var 0) (.cons (.var 1) .nil)))) (.cons (.ret (.bl false)) .nil) .nil) (.cons (.ife (.notN (.call 64 (.cons (.var 0) (.cons (.var 1) .nil)))) (.cons (.ret (.bl false)) .nil) .nil) (.cons (.ife (.cmp .ne (.call 59 (.cons (.var 0) .nil)) (.tup (.cons (.tup (.cons (.int 0) .nil)) .nil))) (.cons (.ret (.bl false)) .nil) .nil) (.cons (.ife (.not (.call 67 (.cons (.var 0) .nil))) (.cons (.ret (.bl false)) .nil) .nil) (.cons (.set 2 (.tup (.cons (.tup (.cons (.tup (.cons (.int 0) (.cons (.int 1) .nil))) .nil)) (.cons (.tup (.cons (.str [97, 108, 108]) (.cons (.str [97, 108, 108]) .nil))) .nil)))) (.cons (.ife (.or (.cons (.call 62 (.cons (.var 0) (.cons (.var 2) .nil))) (.cons (.cmp .ne (.bi .len (.call 64 (.cons (.var 0) (.cons (.var 2) .nil)))) (.int 2)) .nil))) (.cons (.ret (.bl false)) .nil) .nil) (.cons (.ret (.cmp .eq (.call 68 (.cons (.tup (.cons (.tup (.cons (.tup (.cons (.int 0) (.cons (.int 1) .nil))) (.cons (.tup (.cons (.int 1) (.cons (.int 2) .nil))) .nil))) (.cons (.bin .mul (.tup (.cons (.str [102, 105, 114, 115, 116]) .nil)) (.int 3)) .nil))) .nil)) (.tup (.cons (.int 0) (.cons (.int 2) .nil))))) .nil))))))))⟩
/-- law -/
def f85 : Fn := ⟨2, 1, false, (.cons (.set 1 (.call 18 .nil)) (.cons (.ife (.or (.cons (.not (.call 81 (.cons (.bin .add (.int 1) (.call 17 (.cons (.var 0) (.cons (.var 1) (.cons (.int 5) .nil))))) .nil))) (.cons (.not (.call 82 (.cons (.bin .add (.int 3) (.call 17 (.cons (.var 0) (.cons (.var 1) (.cons (.int 4) .nil))))) .nil))) .nil))) (.cons (.ret (.bl false)) .nil) .nil) (.cons (.ret (.and (.cons (.call 83 .nil) (.cons (.call 84 .nil) .nil)))) .nil)))⟩
/-- _law_moved -/
def f86 : Fn := ⟨4, 2, true, (.cons (.ret (.bi .tuple (.lc [2] (.nm 2) (.val (.var 0)) .nil (.bi .tuple (.lc [3] (.nm 3) (.val (.var 2)) .nil (.bin .add (.var 3) (.var 1))))))) .nil)⟩
/-- _law_ways -/
def f87 : Fn := ⟨4, 2, true, (.cons (.set 2 (.int 1)) (.cons (.for (.nm 3) (.rng (.var 0)) (.cons (.set 2 (.bin .fdiv (.bin .mul (.var 2) (.bin .add (.bin .add (.var 1) (.var 3)) (.int 1))) (.bin .add (.var 3) (.int 1)))) .nil)) (.cons (.ret (.var 2)) .nil)))⟩
/-- _law_counted -/
def f88 : Fn := ⟨6, 4, true, (.cons (.ife (.cmp .ne (.call 40 (.cons (.var 2) (.cons (.var 3) .nil))) (.and (.cons (.call 40 (.cons (.var 0) (.cons (.var 3) .nil))) (.cons (.call 40 (.cons (.var 1) (.cons (.var 3) .nil))) .nil)))) (.cons (.ret (.bl false)) .nil) .nil) (.cons (.ife (.not (.call 40 (.cons (.var 2) (.cons (.var 3) .nil)))) (.cons (.ret (.bl true)) .nil) .nil) (.cons (.par [4, 5] (.cons (.bin .sub (.bi .len (.var 0)) (.bi .len (.idx (.call 35 (.cons (.var 0) (.cons (.var 3) .nil))) (.int 0)))) (.cons (.bin .sub (.bi .len (.var 1)) (.bi .len (.idx (.call 35 (.cons (.var 1) (.cons (.var 3) .nil))) (.int 0)))) .nil))) (.cons (.ret (.cmp .eq (.call 39 (.cons (.var 2) (.cons (.var 3) .nil))) (.bin .mul (.bin .mul (.call 39 (.cons (.var 0) (.cons (.var 3) .nil))) (.call 39 (.cons (.var 1) (.cons (.var 3) .nil)))) (.call 87 (.cons (.var 4) (.cons (.var 5) .nil)))))) .nil))))⟩
/-- law -/
def f89 : Fn := ⟨15, 1, false, (.cons (.set 1 (.call 18 .nil)) (.cons (.for (.nm 2) (.rng (.int 5)) (.cons (.set 3 (.bin .add (.int 1) (.call 17 (.cons (.var 0) (.cons (.var 1) (.cons (.int 3) .nil)))))) (.cons (.par [4, 5] (.cons (.call 20 (.cons (.var 0) (.cons (.var 1) (.cons (.var 3) (.cons (.int 3) .nil))))) (.cons (.call 19 (.cons (.var 0) (.cons (.var 1) (.cons (.var 3) .nil)))) .nil))) (.cons (.set 6 (.call 20 (.cons (.var 0) (.cons (.var 1) (.cons (.var 3) (.cons (.int 3) .nil)))))) (.cons (.set 7 (.bi .tuple (.lc [12] (.nm 12) (.val (.var 6)) .nil (.bi .tuple (.lc [14] (.nm 14) (.val (.var 12)) .nil (.ife (.isN (.var 14)) .non (.bin .add (.var 14) (.int 5)))))))) (.cons (.par [8, 9] (.cons (.bin .add (.var 4) (.var 7)) (.cons (.bi .len (.var 4)) .nil))) (.cons (.ife (.or (.cons (.not (.call 3 (.cons (.var 8) .nil))) (.cons (.not (.call 88 (.cons (.var 4) (.cons (.var 6) (.cons (.var 8) (.cons (.var 5) .nil)))))) .nil))) (.cons (.ret (.bl false)) .nil) .nil) (.cons (.set 10 (.newL .nil)) (.cons (.for (.nm 11) (.val (.call 35 (.cons (.var 4) (.cons (.var 5) .nil)))) (.cons (.ex (.meth .extend (.var 10) (.cons (.lc [13] (.nm 13) (.val (.call 35 (.cons (.var 7) (.cons (.var 5) .nil)))) .nil (.bin .add (.var 11) (.call 86 (.cons (.var 13) (.cons (.var 9) .nil))))) .nil))) .nil)) (.cons (.ife (.cmp .ne (.call 35 (.cons (.var 8) (.cons (.var 5) .nil))) (.bi .tuple (.bi .sorted (.var 10)))) (.cons (.ret (.bl false)) .nil) .nil) (.cons (.ife (.cmp .ne (.call 42 (.cons (.var 8) (.cons (.var 5) .nil))) (.bin .add (.call 42 (.cons (.var 4) (.cons (.var 5) .nil))) (.call 86 (.cons (.call 42 (.cons (.var 7) (.cons (.var 5) .nil))) (.cons (.var 9) .nil))))) (.cons (.ret (.bl false)) .nil) .nil) (.cons (.ife (.or (.cons (.cmp .ne (.call 48 (.cons (.var 8) (.cons (.var 5) (.cons (.int 0) (.cons (.var 9) .nil))))) (.str [110, 101, 118, 101, 114])) (.cons (.notN (.call 49 (.cons (.var 8) (.cons (.var 5) (.cons (.var 9) (.cons (.int 0) .nil)))))) .nil))) (.cons (.ret (.bl false)) .nil) .nil) (.cons (.ife (.isN (.call 50 (.cons (.var 8) (.cons (.var 5) (.cons (.int 0) (.cons (.var 9) .nil)))))) (.cons (.ret (.bl false)) .nil) .nil) (.cons (.ife (.cmp .gt (.var 9) (.int 1)) (.cons (.ife (.cmp .ne (.call 48 (.cons (.var 8) (.cons (.var 5) (.cons (.int 0) (.cons (.bin .sub (.var 9) (.int 1)) .nil))))) (.call 48 (.cons (.var 4) (.cons (.var 5) (.cons (.int 0) (.cons (.bin .sub (.var 9) (.int 1)) .nil)))))) (.cons (.ret (.bl false)) .nil) .nil) .nil) .nil) (.cons (.ife (.cmp .gt (.bi .len (.var 6)) (.int 1)) (.cons (.ife (.cmp .ne (.call 48 (.cons (.var 8) (.cons (.var 5) (.cons (.var 9) (.cons (.bin .add (.var 9) (.int 1)) .nil))))) (.call 48 (.cons (.var 6) (.cons (.var 5) (.cons (.int 0) (.cons (.int 1) .nil)))))) (.cons (.ret (.bl false)) .nil) .nil) .nil) .nil) .nil))))))))))))))) (.cons (.ret (.bl true)) .nil)))⟩
end G11

/-! more defs of the laws, as codes; printed by gen.py com -/
namespace G11
/-- _law_is -/
def f101 : Fn := ⟨2, 2, true, (.cons (.ret (.and (.cons (.bi (.isi .bool) (.var 0)) (.cons (.cmp .eq (.var 0) (.var 1)) .nil)))) .nil)⟩
/-- _law_rules -/
def f104 : Fn := ⟨9, 3, false, (.cons (.set 3 (.newL .nil)) (.cons (.for (.nm 4) (.rng (.bin .add (.call 17 (.cons (.var 0) (.cons (.var 1) (.cons (.int 4) .nil)))) (.ife (.cmp .eq (.call 17 (.cons (.var 0) (.cons (.var 1) (.cons (.int 8) .nil)))) (.int 0)) (.int 0) (.int 1)))) (.cons (.par [6, 7] (.cons (.call 17 (.cons (.var 0) (.cons (.var 1) (.cons (.var 2) .nil)))) (.cons (.call 17 (.cons (.var 0) (.cons (.var 1) (.cons (.var 2) .nil)))) .nil))) (.cons (.ex (.meth .append (.var 3) (.cons (.ife (.cmp .eq (.call 17 (.cons (.var 0) (.cons (.var 1) (.cons (.int 3) .nil)))) (.int 0)) (.bi .tuple (.sset (.lst (.cons (.var 6) (.cons (.var 7) .nil))))) (.tup (.cons (.var 6) .nil))) .nil))) .nil))) (.cons (.set 5 (.lc [8] (.nm 8) (.rng (.var 2)) .nil (.idx (.tup (.cons (.str [97, 108, 108]) (.cons (.str [102, 105, 114, 115, 116]) (.cons (.str [108, 97, 115, 116]) (.cons (.str [102, 105, 114, 115, 116]) (.cons (.str [108, 97, 115, 116]) .nil)))))) (.call 17 (.cons (.var 0) (.cons (.var 1) (.cons (.int 5) .nil))))))) (.cons (.ret (.tup (.cons (.bi .tuple (.sset (.var 3))) (.cons (.bi .tuple (.var 5)) .nil)))) .nil))))⟩
/-- _law_values -/
def f105 : Fn := ⟨8, 3, true, (.cons (.set 3 (.tup .nil)) (.cons (.for (.tp [4, 5]) (.enum (.var 1)) (.cons (.set 6 (.newL .nil)) (.cons (.for (.nm 7) (.val (.var 2)) (.cons (.ife (.notN (.idx (.idx (.var 0) (.var 7)) (.var 4))) (.cons (.ex (.meth .append (.var 6) (.cons (.idx (.idx (.var 0) (.var 7)) (.var 4)) .nil))) .nil) .nil) .nil)) (.cons (.ife (.cmp .eq (.var 5) (.str [97, 108, 108])) (.cons (.set 6 (.sset (.var 6))) .nil) (.cons (.ife (.cmp .ne (.var 6) (.lst .nil)) (.cons (.set 6 (.newL (.cons (.ife (.cmp .eq (.var 5) (.str [102, 105, 114, 115, 116])) (.idx (.var 6) (.int 0)) (.idx (.var 6) (.bin .sub (.bi .len (.var 6)) (.int 1)))) .nil))) .nil) .nil) .nil)) (.cons (.set 3 (.bin .add (.var 3) (.tup (.cons (.bi .tuple (.var 6)) .nil)))) .nil))))) (.cons (.ret (.var 3)) .nil)))⟩
/-- _law_keys -/
def f106 : Fn := ⟨12, 4, true, (.cons (.set 4 (.call 105 (.cons (.var 0) (.cons (.idx (.var 1) (.int 1)) (.cons (.var 2) .nil))))) (.cons (.set 5 (.call 105 (.cons (.var 0) (.cons (.idx (.var 1) (.int 1)) (.cons (.var 3) .nil))))) (.cons (.set 6 (.lst .nil)) (.cons (.for (.tp [7, 8]) (.enum (.idx (.var 1) (.int 0))) (.cons (.set 9 (.lc [10] (.nm 10) (.val (.var 8)) (.cons (.cmp .eq (.lc [11] (.nm 11) (.val (.idx (.var 4) (.var 10))) (.cons (.cmp .isin (.var 11) (.idx (.var 5) (.var 10))) .nil) (.var 11)) (.lst .nil)) .nil) (.var 10))) (.cons (.set 6 (.bin .add (.var 6) (.ife (.cmp .eq (.var 9) (.lst .nil)) (.lst (.cons (.var 7) .nil)) (.lst .nil)))) .nil))) (.cons (.ret (.var 6)) .nil)))))⟩
/-- law -/
def f107 : Fn := ⟨17, 1, false, (.cons (.set 1 (.call 18 .nil)) (.cons (.for (.nm 2) (.rng (.int 5)) (.cons (.set 3 (.bin .add (.int 1) (.call 17 (.cons (.var 0) (.cons (.var 1) (.cons (.int 4) .nil)))))) (.cons (.par [4, 5] (.cons (.call 20 (.cons (.var 0) (.cons (.var 1) (.cons (.var 3) (.cons (.int 6) .nil))))) (.cons (.call 104 (.cons (.var 0) (.cons (.var 1) (.cons (.var 3) .nil)))) .nil))) (.cons (.set 6 (.bi .len (.var 4))) (.cons (.for (.nm 7) (.rng (.int 4)) (.cons (.set 10 (.lc [16] (.nm 16) (.rng (.var 6)) .nil (.call 17 (.cons (.var 0) (.cons (.var 1) (.cons (.int 3) .nil)))))) (.cons (.set 11 (.bi .tuple (.lc [16] (.nm 16) (.rng (.var 6)) (.cons (.cmp .gt (.idx (.var 10) (.var 16)) (.int 0)) .nil) (.var 16)))) (.cons (.ife (.cmp .ne (.var 11) (.tup .nil)) (.cons (.set 14 (.call 105 (.cons (.var 4) (.cons (.idx (.var 5) (.int 1)) (.cons (.var 11) .nil))))) (.cons (.ife (.cmp .ne (.callK 13 .nil (.cons (.var 4) (.cons (.var 5) (.cons (.var 11) .nil)))) (.var 14)) (.cons (.ret (.bl false)) .nil) .nil) .nil)) .nil) (.cons (.set 12 (.bi .tuple (.lc [16] (.nm 16) (.rng (.var 6)) (.cons (.cmp .eq (.idx (.var 10) (.var 16)) (.int 1)) .nil) (.var 16)))) (.cons (.set 13 (.bi .tuple (.lc [16] (.nm 16) (.rng (.var 6)) (.cons (.cmp .eq (.idx (.var 10) (.var 16)) (.int 2)) .nil) (.var 16)))) (.cons (.ife (.and (.cons (.cmp .ne (.var 12) (.tup .nil)) (.cons (.cmp .ne (.var 13) (.tup .nil)) .nil))) (.cons (.set 14 (.call 106 (.cons (.var 4) (.cons (.var 5) (.cons (.var 12) (.cons (.var 13) .nil)))))) (.cons (.set 15 (.callK 16 (.cons (.var 4) (.cons (.var 5) .nil)) (.cons (.var 12) (.cons (.var 13) .nil)))) (.cons (.ife (.cmp .ne (.var 15) (.bi .tuple (.var 14))) (.cons (.ret (.bl false)) .nil) .nil) .nil))) .nil) .nil))))))) (.cons (.for (.nm 8) (.val (.tup (.cons .non (.cons (.tup .nil) (.cons (.tup (.cons (.int 0) (.cons (.int 0) .nil))) (.cons (.tup (.cons (.var 6) .nil)) (.cons (.tup (.cons (.neg (.int 1)) .nil)) (.cons (.lst (.cons (.int 0) .nil)) (.cons (.tup (.cons (.bl false) .nil)) (.cons (.int 0) .nil)))))))))) (.cons (.set 9 (.newL (.cons (.call 100013 (.cons (.var 4) (.cons (.var 5) (.cons (.var 8) .nil)))) .nil))) (.cons (.ex (.meth .append (.var 9) (.cons (.call 100016 (.cons (.var 4) (.cons (.var 5) (.cons (.var 8) (.cons .non .nil))))) .nil))) (.cons (.ife (.cmp .ne (.cat (.var 9) (.lst (.cons (.call 100016 (.cons (.var 4) (.cons (.var 5) (.cons (.tup (.cons (.int 0) .nil)) (.cons (.var 8) .nil))))) .nil))) (.bin .mul (.lst (.cons (.tup (.cons (.str [103, 114, 111, 117, 112]) .nil)) .nil)) (.int 3))) (.cons (.ret (.bl false)) .nil) .nil) .nil)))) (.cons (.set 9 (.newL (.cons (.call 100013 (.cons .non (.cons .non (.cons .non .nil)))) .nil))) (.cons (.ex (.meth .append (.var 9) (.cons (.call 100013 (.cons (.var 4) (.cons (.tup .nil) (.cons .non .nil)))) .nil))) (.cons (.ex (.meth .append (.var 9) (.cons (.call 100016 (.cons (.var 4) (.cons (.var 5) (.cons (.tup (.cons (.int 0) .nil)) (.cons (.tup (.cons (.int 0) .nil)) .nil))))) .nil))) (.cons (.ex (.meth .append (.var 9) (.cons (.call 100016 (.cons (.tup .nil) (.cons .non (.cons (.tup (.cons (.int 0) .nil)) (.cons (.tup (.cons (.int 1) .nil)) .nil))))) .nil))) (.cons (.ife (.cmp .ne (.var 9) (.lst (.cons (.tup (.cons (.str [114, 101, 99, 111, 114, 100, 115]) .nil)) (.cons (.tup (.cons (.str [114, 117, 108, 101, 115]) .nil)) (.cons (.tup (.cons (.str [103, 114, 111, 117, 112]) .nil)) (.cons (.tup (.cons (.str [114, 101, 99, 111, 114, 100, 115]) .nil)) .nil)))))) (.cons (.ret (.bl false)) .nil) .nil) .nil))))))))))) (.cons (.ret (.bl true)) .nil)))⟩
/-- _law_values -/
def f108 : Fn := ⟨8, 3, true, (.cons (.set 3 (.tup .nil)) (.cons (.for (.tp [4, 5]) (.enum (.var 1)) (.cons (.set 6 (.newL .nil)) (.cons (.for (.nm 7) (.val (.var 2)) (.cons (.ife (.notN (.idx (.idx (.var 0) (.var 7)) (.var 4))) (.cons (.ex (.meth .append (.var 6) (.cons (.idx (.idx (.var 0) (.var 7)) (.var 4)) .nil))) .nil) .nil) .nil)) (.cons (.ife (.cmp .eq (.var 5) (.str [97, 108, 108])) (.cons (.set 6 (.sset (.var 6))) .nil) (.cons (.ife (.cmp .ne (.var 6) (.lst .nil)) (.cons (.set 6 (.newL (.cons (.ife (.cmp .eq (.var 5) (.str [102, 105, 114, 115, 116])) (.idx (.var 6) (.int 0)) (.idx (.var 6) (.bin .sub (.bi .len (.var 6)) (.int 1)))) .nil))) .nil) .nil) .nil)) (.cons (.set 3 (.bin .add (.var 3) (.tup (.cons (.bi .tuple (.var 6)) .nil)))) .nil))))) (.cons (.ret (.var 3)) .nil)))⟩
/-- _law_keys -/
def f109 : Fn := ⟨12, 4, true, (.cons (.par [4, 5] (.cons (.call 108 (.cons (.var 0) (.cons (.idx (.var 1) (.int 1)) (.cons (.var 2) .nil)))) (.cons (.call 108 (.cons (.var 0) (.cons (.idx (.var 1) (.int 1)) (.cons (.var 3) .nil)))) .nil))) (.cons (.set 6 (.lst .nil)) (.cons (.for (.tp [7, 8]) (.enum (.idx (.var 1) (.int 0))) (.cons (.set 9 (.lc [10] (.nm 10) (.val (.var 8)) (.cons (.cmp .eq (.lc [11] (.nm 11) (.val (.idx (.var 4) (.var 10))) (.cons (.cmp .isin (.var 11) (.idx (.var 5) (.var 10))) .nil) (.var 11)) (.lst .nil)) .nil) (.var 10))) (.cons (.set 6 (.bin .add (.var 6) (.ife (.cmp .eq (.var 9) (.lst .nil)) (.lst (.cons (.var 7) .nil)) (.lst .nil)))) .nil))) (.cons (.ret (.var 6)) .nil))))⟩
/-- _law_pairs -/
def f110 : Fn := ⟨6, 3, true, (.cons (.set 3 (.newL .nil)) (.cons (.for (.nm 4) (.val (.var 2)) (.cons (.for (.nm 5) (.val (.var 2)) (.cons (.ife (.and (.cons (.cmp .lt (.var 4) (.var 5)) (.cons (.cmp .ne (.call 109 (.cons (.var 0) (.cons (.var 1) (.cons (.var 4) (.cons (.var 5) .nil))))) (.lst .nil)) .nil))) (.cons (.ex (.meth .append (.var 3) (.cons (.tup (.cons (.var 4) (.cons (.var 5) .nil))) .nil))) .nil) .nil) .nil)) .nil)) (.cons (.ret (.bi .sorted (.var 3))) .nil)))⟩
/-- _law_joined -/
def f111 : Fn := ⟨5, 3, true, (.cons (.set 3 (.lc [4] (.nm 4) (.val (.var 0)) (.cons (.and (.cons (.cmp .ne (.var 4) (.var 1)) (.cons (.cmp .ne (.var 4) (.var 2)) .nil))) .nil) (.var 4))) (.cons (.ret (.bi .tuple (.bi .sorted (.bin .add (.var 3) (.lst (.cons (.bi .tuple (.bi .sorted (.bin .add (.bi .list (.var 1)) (.bi .list (.var 2))))) .nil)))))) .nil))⟩
/-- _law_walk -/
def f112 : Fn := ⟨9, 4, false, (.cons (.par [4, 5] (.cons (.bi .tuple (.lc [8] (.nm 8) (.rng (.bi .len (.var 2))) .nil (.tup (.cons (.var 8) .nil)))) (.cons (.tup .nil) .nil))) (.cons (.set 6 (.call 110 (.cons (.var 2) (.cons (.var 3) (.cons (.var 4) .nil))))) (.cons (.whl (.cmp .ne (.var 6) (.lst .nil)) (.cons (.set 7 (.idx (.var 6) (.call 17 (.cons (.var 0) (.cons (.var 1) (.cons (.bi .len (.var 6)) .nil)))))) (.cons (.par [4, 5] (.cons (.call 111 (.cons (.var 4) (.cons (.idx (.var 7) (.int 0)) (.cons (.idx (.var 7) (.int 1)) .nil)))) (.cons (.bin .add (.var 5) (.tup (.cons (.var 7) .nil))) .nil))) (.cons (.set 6 (.call 110 (.cons (.var 2) (.cons (.var 3) (.cons (.var 4) .nil))))) .nil)))) (.cons (.ret (.var 5)) .nil))))⟩
/-- _law_end -/
def f113 : Fn := ⟨6, 3, true, (.cons (.set 3 (.bi .tuple (.lc [5] (.nm 5) (.rng (.bi .len (.var 0))) .nil (.tup (.cons (.var 5) .nil))))) (.cons (.ife (.not (.bi (.isi .tuple) (.var 2))) (.cons (.ret .non) .nil) .nil) (.cons (.for (.nm 4) (.val (.var 2)) (.cons (.ife (.or (.cons (.cmp .notin (.var 4) (.call 110 (.cons (.var 0) (.cons (.var 1) (.cons (.var 3) .nil))))) (.cons (.bi (.isi .bool) (.idx (.idx (.var 4) (.int 0)) (.int 0))) .nil))) (.cons (.ret .non) .nil) .nil) (.cons (.set 3 (.call 111 (.cons (.var 3) (.cons (.idx (.var 4) (.int 0)) (.cons (.idx (.var 4) (.int 1)) .nil))))) .nil))) (.cons (.ret (.ife (.cmp .eq (.call 110 (.cons (.var 0) (.cons (.var 1) (.cons (.var 3) .nil)))) (.lst .nil)) (.var 3) .non)) .nil))))⟩
/-- law -/
def f114 : Fn := ⟨13, 1, false, (.cons (.set 1 (.call 18 .nil)) (.cons (.for (.nm 2) (.rng (.int 5)) (.cons (.set 3 (.bin .add (.int 1) (.call 17 (.cons (.var 0) (.cons (.var 1) (.cons (.int 3) .nil)))))) (.cons (.par [4, 5] (.cons (.call 20 (.cons (.var 0) (.cons (.var 1) (.cons (.var 3) (.cons (.int 6) .nil))))) (.cons (.call 19 (.cons (.var 0) (.cons (.var 1) (.cons (.var 3) .nil)))) .nil))) (.cons (.set 6 (.call 112 (.cons (.var 0) (.cons (.var 1) (.cons (.var 4) (.cons (.var 5) .nil)))))) (.cons (.set 7 (.call 112 (.cons (.var 0) (.cons (.var 1) (.cons (.var 4) (.cons (.var 5) .nil)))))) (.cons (.set 8 (.lst (.cons (.var 6) (.cons (.var 7) (.cons (.sl (.var 6) .no (.some (.neg (.int 1)))) (.cons (.sl (.var 6) (.some (.int 1)) .no) (.cons (.bin .add (.var 6) (.sl (.var 7) .no (.some (.int 1)))) (.cons (.rev (.var 6)) .nil)))))))) (.cons (.set 8 (.bin .add (.var 8) (.lst (.cons (.tup .nil) (.cons (.tup (.cons .non .nil)) (.cons (.tup (.cons (.tup (.cons (.tup (.cons (.int 0) .nil)) .nil)) .nil)) .nil)))))) (.cons (.set 8 (.bin .add (.var 8) (.lst (.cons (.tup (.cons (.tup (.cons (.tup (.cons (.int 1) .nil)) (.cons (.tup (.cons (.int 0) .nil)) .nil))) .nil)) (.cons (.tup (.cons (.tup (.cons (.tup (.cons (.int 0) .nil)) (.cons (.tup (.cons (.int 0) .nil)) .nil))) .nil)) (.cons (.tup (.cons (.tup (.cons (.tup (.cons (.bl false) .nil)) (.cons (.tup (.cons (.int 1) .nil)) .nil))) .nil)) (.cons (.bi .list (.var 6)) (.cons .non .nil)))))))) (.cons (.set 8 (.bin .add (.var 8) (.lst (.cons (.str [114, 117, 110]) (.cons (.int 0) (.cons (.tup (.cons (.tup (.cons (.tup (.cons (.int 0) .nil)) (.cons (.tup (.cons (.int 9) .nil)) .nil))) .nil)) .nil)))))) (.cons (.for (.nm 9) (.val (.var 8)) (.cons (.set 11 (.call 113 (.cons (.var 4) (.cons (.var 5) (.cons (.var 9) .nil))))) (.cons (.ife (.not (.call 101 (.cons (.callK 32 (.cons (.var 4) (.cons (.var 5) .nil)) (.cons (.var 9) .nil)) (.cons (.notN (.var 11)) .nil)))) (.cons (.ret (.bl false)) .nil) .nil) (.cons (.set 12 (.callK 100033 (.cons (.var 4) (.cons (.var 5) .nil)) (.cons (.var 9) .nil))) (.cons (.ife (.cmp .ne (.var 12) (.ife (.notN (.var 11)) (.tup (.cons (.str [114, 101, 116, 117, 114, 110, 115]) (.cons (.var 11) .nil))) (.tup (.cons (.str [114, 117, 110]) .nil)))) (.cons (.ret (.bl false)) .nil) .nil) .nil))))) (.cons (.set 10 (.newL (.cons (.call 100032 (.cons .non (.cons .non (.cons .non .nil)))) .nil))) (.cons (.ex (.meth .append (.var 10) (.cons (.call 100033 (.cons .non (.cons .non (.cons .non .nil)))) .nil))) (.cons (.ex (.meth .append (.var 10) (.cons (.call 100032 (.cons (.var 4) (.cons .non (.cons .non .nil)))) .nil))) (.cons (.ife (.cmp .ne (.cat (.var 10) (.lst (.cons (.call 100033 (.cons (.var 4) (.cons (.tup .nil) (.cons .non .nil)))) .nil))) (.bin .add (.bin .mul (.lst (.cons (.tup (.cons (.str [114, 101, 99, 111, 114, 100, 115]) .nil)) .nil)) (.int 2)) (.bin .mul (.lst (.cons (.tup (.cons (.str [114, 117, 108, 101, 115]) .nil)) .nil)) (.int 2)))) (.cons (.ret (.bl false)) .nil) .nil) .nil)))))))))))))) (.cons (.ret (.bl true)) .nil)))⟩
end G11

/-! the defs of law_k02_groups, as codes; printed by gen.py -/
namespace K02
open G11

def T : Nat → Option G11.Fn
  | 0 => some f0
  | 1 => some f1
  | 2 => some f2
  | 3 => some f3
  | 4 => some f4
  | 5 => some f5
  | 6 => some f6
  | 7 => some f7
  | 8 => some f8
  | 9 => some f9
  | 10 => some f10
  | 11 => some f11
  | 12 => some f12
  | 13 => some f13
  | 14 => some f14
  | 15 => some f15
  | 16 => some f16
  | 17 => some f17
  | 18 => some f18
  | 104 => some f104
  | 20 => some f20
  | 105 => some f105
  | 106 => some f106
  | 107 => some f107
  | _ => none
def G : List G11.D := [(.tup [(.str [97, 108, 108]), (.str [102, 105, 114, 115, 116]), (.str [108, 97, 115, 116])]), (.int 6)]
end K02

/-! the end of law_k02_groups, printed by gen.py -/
namespace K02
open G11 PySem PySem.Spec PyProof.Rows L2
def topS (i : Nat) : Stmt := PySem.Challenge.pw_onerecords_k02_groups.main.body.getD i (.Pass ⟨0, 0, 0, 0⟩)
def F : List Str := [("is_between" : Str), ("is_ascending" : Str), ("is_record" : Str), ("is_records" : Str), ("is_key" : Str), ("is_rules" : Str), ("check_records" : Str), ("check_rules" : Str), ("check_both" : Str), ("is_group" : Str), ("check_group" : Str), ("taken" : Str), ("values_for" : Str), ("values_of" : Str), ("do_agree" : Str), ("keys_for" : Str), ("matching_keys" : Str), ("_law_draw" : Str), ("_law_begun" : Str), ("__debug__" : Str), ("_law_records" : Str), ("__debug__" : Str), ("__debug__" : Str), ("__debug__" : Str), ("__debug__" : Str), ("__debug__" : Str), ("__debug__" : Str), ("__debug__" : Str), ("__debug__" : Str), ("__debug__" : Str), ("__debug__" : Str), ("__debug__" : Str), ("__debug__" : Str), ("__debug__" : Str), ("__debug__" : Str), ("__debug__" : Str), ("__debug__" : Str), ("__debug__" : Str), ("__debug__" : Str), ("__debug__" : Str), ("__debug__" : Str), ("__debug__" : Str), ("__debug__" : Str), ("__debug__" : Str), ("__debug__" : Str), ("__debug__" : Str), ("__debug__" : Str), ("__debug__" : Str), ("__debug__" : Str), ("__debug__" : Str), ("__debug__" : Str), ("__debug__" : Str), ("__debug__" : Str), ("__debug__" : Str), ("__debug__" : Str), ("__debug__" : Str), ("__debug__" : Str), ("__debug__" : Str), ("__debug__" : Str), ("__debug__" : Str), ("__debug__" : Str), ("__debug__" : Str), ("__debug__" : Str), ("__debug__" : Str), ("__debug__" : Str), ("__debug__" : Str), ("__debug__" : Str), ("__debug__" : Str), ("__debug__" : Str), ("__debug__" : Str), ("__debug__" : Str), ("__debug__" : Str), ("__debug__" : Str), ("__debug__" : Str), ("__debug__" : Str), ("__debug__" : Str), ("__debug__" : Str), ("__debug__" : Str), ("__debug__" : Str), ("__debug__" : Str), ("__debug__" : Str), ("__debug__" : Str), ("__debug__" : Str), ("__debug__" : Str), ("__debug__" : Str), ("__debug__" : Str), ("__debug__" : Str), ("__debug__" : Str), ("__debug__" : Str), ("__debug__" : Str), ("__debug__" : Str), ("__debug__" : Str), ("__debug__" : Str), ("__debug__" : Str), ("__debug__" : Str), ("__debug__" : Str), ("__debug__" : Str), ("__debug__" : Str), ("__debug__" : Str), ("__debug__" : Str), ("__debug__" : Str), ("__debug__" : Str), ("__debug__" : Str), ("__debug__" : Str), ("_law_rules" : Str), ("_law_values" : Str), ("_law_keys" : Str), ("law" : Str)]
def Gn : GN := ⟨["TAKES", "MOST"], [(16, 2, ["one", "other"]), (13, 0, ["records", "rules", "group"])], true, false⟩
def Cn : List Str := ["RecordError", "InvalidRecords", "InvalidRules", "InvalidGroup", "InvalidRun", "InvalidPartition", "InvalidNumber", "InvalidRecord", "InvalidText", "NoMatch", "TooMany", "Alone", "NothingToUndo"]
abbrev s0 : Stmt := topS 17
def N0 : List Str := ["value", "low", "high"]
def P0 : List Str := ["value", "low", "high"]
theorem sc0 : FnScope N0 P0 (defScope s0) := ⟨rfl, rfl, rfl, by decide +kernel, rfl, by decide +kernel, by decide +kernel⟩
theorem tr0 : trSts N0 F { Gn with lam := false } Cn (defScope s0) f0.body (defBody s0) = true := by decide +kernel
abbrev s1 : Stmt := topS 18
def N1 : List Str := ["values", "one", "other"]
def P1 : List Str := ["values"]
theorem sc1 : FnScope N1 P1 (defScope s1) := ⟨rfl, rfl, rfl, by decide +kernel, rfl, by decide +kernel, by decide +kernel⟩
theorem tr1 : trSts N1 F { Gn with lam := false } Cn (defScope s1) f1.body (defBody s1) = true := by decide +kernel
abbrev s2 : Stmt := topS 19
def N2 : List Str := ["fields", "value", "one"]
def P2 : List Str := ["fields", "value"]
theorem sc2 : FnScope N2 P2 (defScope s2) := ⟨rfl, rfl, rfl, by decide +kernel, rfl, by decide +kernel, by decide +kernel⟩
theorem tr2 : trSts N2 F { Gn with lam := false } Cn (defScope s2) f2.body (defBody s2) = true := by decide +kernel
abbrev s3 : Stmt := topS 20
def N3 : List Str := ["value", "fields", "one"]
def P3 : List Str := ["value"]
theorem sc3 : FnScope N3 P3 (defScope s3) := ⟨rfl, rfl, rfl, by decide +kernel, rfl, by decide +kernel, by decide +kernel⟩
theorem tr3 : trSts N3 F { Gn with lam := false } Cn (defScope s3) f3.body (defBody s3) = true := by decide +kernel
abbrev s4 : Stmt := topS 21
def N4 : List Str := ["fields", "value", "one"]
def P4 : List Str := ["fields", "value"]
theorem sc4 : FnScope N4 P4 (defScope s4) := ⟨rfl, rfl, rfl, by decide +kernel, rfl, by decide +kernel, by decide +kernel⟩
theorem tr4 : trSts N4 F { Gn with lam := false } Cn (defScope s4) f4.body (defBody s4) = true := by decide +kernel
abbrev s5 : Stmt := topS 22
def N5 : List Str := ["value", "keys", "takes", "key", "one"]
def P5 : List Str := ["value"]
theorem sc5 : FnScope N5 P5 (defScope s5) := ⟨rfl, rfl, rfl, by decide +kernel, rfl, by decide +kernel, by decide +kernel⟩
theorem tr5 : trSts N5 F { Gn with lam := false } Cn (defScope s5) f5.body (defBody s5) = true := by decide +kernel
abbrev s6 : Stmt := topS 23
def N6 : List Str := ["records"]
def P6 : List Str := ["records"]
theorem sc6 : FnScope N6 P6 (defScope s6) := ⟨rfl, rfl, rfl, by decide +kernel, rfl, by decide +kernel, by decide +kernel⟩
theorem tr6 : trSts N6 F { Gn with lam := false } Cn (defScope s6) f6.body (defBody s6) = true := by decide +kernel
abbrev s7 : Stmt := topS 24
def N7 : List Str := ["rules"]
def P7 : List Str := ["rules"]
theorem sc7 : FnScope N7 P7 (defScope s7) := ⟨rfl, rfl, rfl, by decide +kernel, rfl, by decide +kernel, by decide +kernel⟩
theorem tr7 : trSts N7 F { Gn with lam := false } Cn (defScope s7) f7.body (defBody s7) = true := by decide +kernel
abbrev s8 : Stmt := topS 25
def N8 : List Str := ["records", "rules"]
def P8 : List Str := ["records", "rules"]
theorem sc8 : FnScope N8 P8 (defScope s8) := ⟨rfl, rfl, rfl, by decide +kernel, rfl, by decide +kernel, by decide +kernel⟩
theorem tr8 : trSts N8 F { Gn with lam := false } Cn (defScope s8) f8.body (defBody s8) = true := by decide +kernel
abbrev s9 : Stmt := topS 27
def N9 : List Str := ["many", "value", "one"]
def P9 : List Str := ["many", "value"]
theorem sc9 : FnScope N9 P9 (defScope s9) := ⟨rfl, rfl, rfl, by decide +kernel, rfl, by decide +kernel, by decide +kernel⟩
theorem tr9 : trSts N9 F { Gn with lam := false } Cn (defScope s9) f9.body (defBody s9) = true := by decide +kernel
abbrev s10 : Stmt := topS 28
def N10 : List Str := ["records", "group"]
def P10 : List Str := ["records", "group"]
theorem sc10 : FnScope N10 P10 (defScope s10) := ⟨rfl, rfl, rfl, by decide +kernel, rfl, by decide +kernel, by decide +kernel⟩
theorem tr10 : trSts N10 F { Gn with lam := false } Cn (defScope s10) f10.body (defBody s10) = true := by decide +kernel
abbrev s11 : Stmt := topS 29
def N11 : List Str := ["records", "take", "field", "group", "some", "one"]
def P11 : List Str := ["records", "take", "field", "group"]
theorem sc11 : FnScope N11 P11 (defScope s11) := ⟨rfl, rfl, rfl, by decide +kernel, rfl, by decide +kernel, by decide +kernel⟩
theorem tr11 : trSts N11 F { Gn with lam := false } Cn (defScope s11) f11.body (defBody s11) = true := by decide +kernel
abbrev s12 : Stmt := topS 30
def N12 : List Str := ["records", "takes", "group", "field", "take"]
def P12 : List Str := ["records", "takes", "group"]
theorem sc12 : FnScope N12 P12 (defScope s12) := ⟨rfl, rfl, rfl, by decide +kernel, rfl, by decide +kernel, by decide +kernel⟩
theorem tr12 : trSts N12 F { Gn with lam := false } Cn (defScope s12) f12.body (defBody s12) = true := by decide +kernel
abbrev s13 : Stmt := topS 31
def N13 : List Str := ["records", "rules", "group"]
def P13 : List Str := ["records", "rules", "group"]
theorem sc13 : FnScope N13 P13 (defScope s13) := ⟨rfl, rfl, rfl, by decide +kernel, rfl, by decide +kernel, by decide +kernel⟩
theorem tr13 : trSts N13 F { Gn with lam := false } Cn (defScope s13) f13.body (defBody s13) = true := by decide +kernel
abbrev s14 : Stmt := topS 32
def N14 : List Str := ["one", "other", "key", "field", "value"]
def P14 : List Str := ["one", "other", "key"]
theorem sc14 : FnScope N14 P14 (defScope s14) := ⟨rfl, rfl, rfl, by decide +kernel, rfl, by decide +kernel, by decide +kernel⟩
theorem tr14 : trSts N14 F { Gn with lam := false } Cn (defScope s14) f14.body (defBody s14) = true := by decide +kernel
abbrev s15 : Stmt := topS 33
def N15 : List Str := ["records", "rules", "one", "other", "mine", "yours", "at", "key"]
def P15 : List Str := ["records", "rules", "one", "other"]
theorem sc15 : FnScope N15 P15 (defScope s15) := ⟨rfl, rfl, rfl, by decide +kernel, rfl, by decide +kernel, by decide +kernel⟩
theorem tr15 : trSts N15 F { Gn with lam := false } Cn (defScope s15) f15.body (defBody s15) = true := by decide +kernel
abbrev s16 : Stmt := topS 34
def N16 : List Str := ["records", "rules", "one", "other", "number"]
def P16 : List Str := ["records", "rules", "one", "other"]
theorem sc16 : FnScope N16 P16 (defScope s16) := ⟨rfl, rfl, rfl, by decide +kernel, rfl, by decide +kernel, by decide +kernel⟩
theorem tr16 : trSts N16 F { Gn with lam := false } Cn (defScope s16) f16.body (defBody s16) = true := by decide +kernel
abbrev s17 : Stmt := topS 37
def N17 : List Str := ["script", "town", "many", "at", "rest", "number"]
def P17 : List Str := ["script", "town", "many"]
theorem sc17 : FnScope N17 P17 (defScope s17) := ⟨rfl, rfl, rfl, by decide +kernel, rfl, by decide +kernel, by decide +kernel⟩
theorem tr17 : trSts N17 F { Gn with lam := false } Cn (defScope s17) f17.body (defBody s17) = true := by decide +kernel
abbrev s18 : Stmt := topS 38
def N18 : List Str := []
def P18 : List Str := []
theorem sc18 : FnScope N18 P18 (defScope s18) := ⟨rfl, rfl, rfl, by decide +kernel, rfl, by decide +kernel, by decide +kernel⟩
theorem tr18 : trSts N18 F { Gn with lam := false } Cn (defScope s18) f18.body (defBody s18) = true := by decide +kernel
abbrev s104 : Stmt := topS 39
def N104 : List Str := ["script", "town", "fields", "found", "k", "takes", "one_here", "other_here", "field"]
def P104 : List Str := ["script", "town", "fields"]
theorem sc104 : FnScope N104 P104 (defScope s104) := ⟨rfl, rfl, rfl, by decide +kernel, rfl, by decide +kernel, by decide +kernel⟩
theorem tr104 : trSts N104 F { Gn with lam := false } Cn (defScope s104) f104.body (defBody s104) = true := by decide +kernel
abbrev s20 : Stmt := topS 40
def N20 : List Str := ["script", "town", "fields", "most", "found", "number", "field"]
def P20 : List Str := ["script", "town", "fields", "most"]
theorem sc20 : FnScope N20 P20 (defScope s20) := ⟨rfl, rfl, rfl, by decide +kernel, rfl, by decide +kernel, by decide +kernel⟩
theorem tr20 : trSts N20 F { Gn with lam := false } Cn (defScope s20) f20.body (defBody s20) = true := by decide +kernel
abbrev s105 : Stmt := topS 41
def N105 : List Str := ["records_here", "takes", "group_here", "found", "field", "take", "some", "one_here"]
def P105 : List Str := ["records_here", "takes", "group_here"]
theorem sc105 : FnScope N105 P105 (defScope s105) := ⟨rfl, rfl, rfl, by decide +kernel, rfl, by decide +kernel, by decide +kernel⟩
theorem tr105 : trSts N105 F { Gn with lam := false } Cn (defScope s105) f105.body (defBody s105) = true := by decide +kernel
abbrev s106 : Stmt := topS 42
def N106 : List Str := ["records_here", "rules_here", "one_here", "other_here", "mine", "yours", "found", "at", "key", "bad", "field", "value"]
def P106 : List Str := ["records_here", "rules_here", "one_here", "other_here"]
theorem sc106 : FnScope N106 P106 (defScope s106) := ⟨rfl, rfl, rfl, by decide +kernel, rfl, by decide +kernel, by decide +kernel⟩
theorem tr106 : trSts N106 F { Gn with lam := false } Cn (defScope s106) f106.body (defBody s106) = true := by decide +kernel
abbrev s107 : Stmt := topS 43
def N107 : List Str := ["script", "town", "k", "fields", "records_here", "rules_here", "many", "j", "odd", "answers", "sides", "group_here", "one_here", "other_here", "due", "found", "number"]
def P107 : List Str := ["script"]
theorem sc107 : FnScope N107 P107 (defScope s107) := ⟨rfl, rfl, rfl, by decide +kernel, rfl, by decide +kernel, by decide +kernel⟩
theorem tr107 : trSts N107 F { Gn with lam := true } Cn (defScope s107) f107.body (defBody s107) = true := by decide +kernel
abbrev sR : Stmt := topS 36
theorem scR : FnScope Nr ["call"] (defScope sR) := ⟨rfl, rfl, rfl, by decide +kernel, rfl, by decide +kernel, by decide +kernel⟩
theorem isR : resIs (defScope sR) (defBody sR) = true := by decide +kernel
def cx (cl : List Addr) : G11.Ctx := ⟨T, G, F, Gn, Cn, cl⟩
theorem stat_mk {K : PySem.W.Frag} {h : Heap} {mg : Str → Option Value} {ga0 : Addr} {gn0 : Nat} {gt0_0 : Tok} {gt0_1 : Tok} {gt0_2 : Tok} {gd0 : Option Addr} {gs0 : Array (Option Value)} {tk1 : Tok} {e0 : Addr} {e1 : Addr} {e2 : Addr} {e3 : Addr} {e4 : Addr} {e5 : Addr} {e6 : Addr} {e7 : Addr} {e8 : Addr} {e9 : Addr} {e10 : Addr} {e11 : Addr} {e12 : Addr} [Fns] (X : K.In h) (Gx : h.Ns mainGlobals mg) (m0 : PySem.W.nsIn K mainGlobals "TAKES" = some (some (.ref ga0))) (n0 : K.lookup ga0 = some ⟨.type "tuple", gd0, .seq (List.toArray [.str "all" gt0_0, .str "first" gt0_1, .str "last" gt0_2]) gn0, gs0⟩) (m1 : PySem.W.nsIn K mainGlobals "MOST" = some (some (.int 6 tk1))) (x0 : PySem.W.nsIn K mainGlobals "RecordError" = some (some (.ref e0))) (y0 : PySem.W.excIn K e0 [.type "ValueError", .type "Exception", .type "BaseException", .type "object"] "ValueError.__new__" = true) (z0 : PySem.W.keepIn K (.ref e0) = true) (u0 : PySem.W.subIn K (.ref e0) (.type "BaseException") = some true) (v0 : PySem.W.typeIn K (.ref e0) = some (.type "type")) (x1 : PySem.W.nsIn K mainGlobals "InvalidRecords" = some (some (.ref e1))) (y1 : PySem.W.excIn K e1 [.type "ValueError", .type "Exception", .type "BaseException", .type "object"] "ValueError.__new__" = true) (z1 : PySem.W.keepIn K (.ref e1) = true) (u1 : PySem.W.subIn K (.ref e1) (.type "BaseException") = some true) (v1 : PySem.W.typeIn K (.ref e1) = some (.type "type")) (x2 : PySem.W.nsIn K mainGlobals "InvalidRules" = some (some (.ref e2))) (y2 : PySem.W.excIn K e2 [.type "ValueError", .type "Exception", .type "BaseException", .type "object"] "ValueError.__new__" = true) (z2 : PySem.W.keepIn K (.ref e2) = true) (u2 : PySem.W.subIn K (.ref e2) (.type "BaseException") = some true) (v2 : PySem.W.typeIn K (.ref e2) = some (.type "type")) (x3 : PySem.W.nsIn K mainGlobals "InvalidGroup" = some (some (.ref e3))) (y3 : PySem.W.excIn K e3 [.type "ValueError", .type "Exception", .type "BaseException", .type "object"] "ValueError.__new__" = true) (z3 : PySem.W.keepIn K (.ref e3) = true) (u3 : PySem.W.subIn K (.ref e3) (.type "BaseException") = some true) (v3 : PySem.W.typeIn K (.ref e3) = some (.type "type")) (x4 : PySem.W.nsIn K mainGlobals "InvalidRun" = some (some (.ref e4))) (y4 : PySem.W.excIn K e4 [.type "ValueError", .type "Exception", .type "BaseException", .type "object"] "ValueError.__new__" = true) (z4 : PySem.W.keepIn K (.ref e4) = true) (u4 : PySem.W.subIn K (.ref e4) (.type "BaseException") = some true) (v4 : PySem.W.typeIn K (.ref e4) = some (.type "type")) (x5 : PySem.W.nsIn K mainGlobals "InvalidPartition" = some (some (.ref e5))) (y5 : PySem.W.excIn K e5 [.type "ValueError", .type "Exception", .type "BaseException", .type "object"] "ValueError.__new__" = true) (z5 : PySem.W.keepIn K (.ref e5) = true) (u5 : PySem.W.subIn K (.ref e5) (.type "BaseException") = some true) (v5 : PySem.W.typeIn K (.ref e5) = some (.type "type")) (x6 : PySem.W.nsIn K mainGlobals "InvalidNumber" = some (some (.ref e6))) (y6 : PySem.W.excIn K e6 [.type "ValueError", .type "Exception", .type "BaseException", .type "object"] "ValueError.__new__" = true) (z6 : PySem.W.keepIn K (.ref e6) = true) (u6 : PySem.W.subIn K (.ref e6) (.type "BaseException") = some true) (v6 : PySem.W.typeIn K (.ref e6) = some (.type "type")) (x7 : PySem.W.nsIn K mainGlobals "InvalidRecord" = some (some (.ref e7))) (y7 : PySem.W.excIn K e7 [.type "ValueError", .type "Exception", .type "BaseException", .type "object"] "ValueError.__new__" = true) (z7 : PySem.W.keepIn K (.ref e7) = true) (u7 : PySem.W.subIn K (.ref e7) (.type "BaseException") = some true) (v7 : PySem.W.typeIn K (.ref e7) = some (.type "type")) (x8 : PySem.W.nsIn K mainGlobals "InvalidText" = some (some (.ref e8))) (y8 : PySem.W.excIn K e8 [.type "ValueError", .type "Exception", .type "BaseException", .type "object"] "ValueError.__new__" = true) (z8 : PySem.W.keepIn K (.ref e8) = true) (u8 : PySem.W.subIn K (.ref e8) (.type "BaseException") = some true) (v8 : PySem.W.typeIn K (.ref e8) = some (.type "type")) (x9 : PySem.W.nsIn K mainGlobals "NoMatch" = some (some (.ref e9))) (y9 : PySem.W.excIn K e9 [.type "ValueError", .type "Exception", .type "BaseException", .type "object"] "ValueError.__new__" = true) (z9 : PySem.W.keepIn K (.ref e9) = true) (u9 : PySem.W.subIn K (.ref e9) (.type "BaseException") = some true) (v9 : PySem.W.typeIn K (.ref e9) = some (.type "type")) (x10 : PySem.W.nsIn K mainGlobals "TooMany" = some (some (.ref e10))) (y10 : PySem.W.excIn K e10 [.type "ValueError", .type "Exception", .type "BaseException", .type "object"] "ValueError.__new__" = true) (z10 : PySem.W.keepIn K (.ref e10) = true) (u10 : PySem.W.subIn K (.ref e10) (.type "BaseException") = some true) (v10 : PySem.W.typeIn K (.ref e10) = some (.type "type")) (x11 : PySem.W.nsIn K mainGlobals "Alone" = some (some (.ref e11))) (y11 : PySem.W.excIn K e11 [.type "ValueError", .type "Exception", .type "BaseException", .type "object"] "ValueError.__new__" = true) (z11 : PySem.W.keepIn K (.ref e11) = true) (u11 : PySem.W.subIn K (.ref e11) (.type "BaseException") = some true) (v11 : PySem.W.typeIn K (.ref e11) = some (.type "type")) (x12 : PySem.W.nsIn K mainGlobals "NothingToUndo" = some (some (.ref e12))) (y12 : PySem.W.excIn K e12 [.type "ValueError", .type "Exception", .type "BaseException", .type "object"] "ValueError.__new__" = true) (z12 : PySem.W.keepIn K (.ref e12) = true) (u12 : PySem.W.subIn K (.ref e12) (.type "BaseException") = some true) (v12 : PySem.W.typeIn K (.ref e12) = some (.type "type")) (b0 : PySem.W.nsIn K mainGlobals "len" = some none) (b1 : PySem.W.nsIn K mainGlobals "all" = some none) (b2 : PySem.W.nsIn K mainGlobals "any" = some none) (b3 : PySem.W.nsIn K mainGlobals "sorted" = some none) (b4 : PySem.W.nsIn K mainGlobals "tuple" = some none) (b5 : PySem.W.nsIn K mainGlobals "list" = some none) (b6 : PySem.W.nsIn K mainGlobals "isinstance" = some none) (b7 : PySem.W.nsIn K mainGlobals "set" = some none) (b8 : PySem.W.nsIn K mainGlobals "range" = some none) (b9 : PySem.W.nsIn K mainGlobals "enumerate" = some none) (b10 : PySem.W.nsIn K mainGlobals "zip" = some none) (b11 : PySem.W.nsIn K mainGlobals "int" = some none) (b12 : PySem.W.nsIn K mainGlobals "bool" = some none) (b13 : PySem.W.nsIn K mainGlobals "str" = some none) (rs : Gn.lam = true → ResS (cx [e0, e1, e2, e3, e4, e5, e6, e7, e8, e9, e10, e11, e12]) K mg) (fc : ∀ f a, Fns.fa f = some a → ∃ fn x, T f = some fn ∧ F[f]? = some x ∧ nmOk x = true ∧ mg x = some (.ref a)) (fs : Gn.fns = true → ∀ (f : Nat) (x : Str), F[f]? = some x → nmOk x = true → ∃ a, Fns.fa f = some a ∧ mg x = some (.ref a)) : Stat (cx [e0, e1, e2, e3, e4, e5, e6, e7, e8, e9, e10, e11, e12]) K mg := by
  refine ⟨fun f x h1 h2 => ?_, fun x hx => ?_, fun j d x h1 h2 _ => ?_, fun j x h1 h2 => ?_, fun f fn h1 => ?_, rs, fc, fs⟩
  · have hF : ∀ f, f < 108 → nmOk (F.getD f "__debug__") = true → (T f).isSome = true := by decide +kernel
    have hl : f < F.length := (List.getElem?_eq_some_iff.mp h1).1
    have h1 : F[f]? = some x := h1
    exact Option.isSome_iff_exists.mp (hF f hl (by rw [List.getD_eq_getElem?_getD, h1]; exact h2))
  · simp only [bnames, List.mem_cons, List.not_mem_nil, or_false] at hx
    rcases hx with rfl | rfl | rfl | rfl | rfl | rfl | rfl | rfl | rfl | rfl | rfl | rfl | rfl | rfl
    · exact PySem.W.mg_none_of X Gx b0
    · exact PySem.W.mg_none_of X Gx b1
    · exact PySem.W.mg_none_of X Gx b2
    · exact PySem.W.mg_none_of X Gx b3
    · exact PySem.W.mg_none_of X Gx b4
    · exact PySem.W.mg_none_of X Gx b5
    · exact PySem.W.mg_none_of X Gx b6
    · exact PySem.W.mg_none_of X Gx b7
    · exact PySem.W.mg_none_of X Gx b8
    · exact PySem.W.mg_none_of X Gx b9
    · exact PySem.W.mg_none_of X Gx b10
    · exact PySem.W.mg_none_of X Gx b11
    · exact PySem.W.mg_none_of X Gx b12
    · exact PySem.W.mg_none_of X Gx b13
  · match j with
    | 0 =>
      cases (Option.some.inj h1); cases (Option.some.inj h2)
      refine ⟨_, .ref ga0, PySem.W.mg_of X Gx m0, rfl, fun H m => ?_⟩
      simp only [RD]
      refine ⟨ga0, [.str ⟨([97, 108, 108] : List Nat).toArray⟩, .str ⟨([102, 105, 114, 115, 116] : List Nat).toArray⟩, .str ⟨([108, 97, 115, 116] : List Nat).toArray⟩], rfl, .inr ⟨_, _, _, n0, rfl, rfl, by show 3 ≤ sizeLine; decide, ?_⟩, ?_, by decide⟩
      · exact .cons ⟨_, rfl⟩ (.cons ⟨_, rfl⟩ (.cons ⟨_, rfl⟩ (.nil)))
      · simp only [RDs, RD]; exact ⟨_, _, rfl, rfl, ⟨_, _, rfl, rfl, ⟨_, _, rfl, rfl, rfl⟩⟩⟩
    | 1 =>
      cases (Option.some.inj h1); cases (Option.some.inj h2)
      exact ⟨_, .int 6, PySem.W.mg_of X Gx m1, ⟨_, rfl⟩, fun H m => by simp only [RD]⟩
    | j + 2 => simp [cx, G] at h1
  · match j with
    | 0 => cases (Option.some.inj h1); exact ⟨e0, rfl, PySem.W.mg_of X Gx x0, y0, z0, u0, v0⟩
    | 1 => cases (Option.some.inj h1); exact ⟨e1, rfl, PySem.W.mg_of X Gx x1, y1, z1, u1, v1⟩
    | 2 => cases (Option.some.inj h1); exact ⟨e2, rfl, PySem.W.mg_of X Gx x2, y2, z2, u2, v2⟩
    | 3 => cases (Option.some.inj h1); exact ⟨e3, rfl, PySem.W.mg_of X Gx x3, y3, z3, u3, v3⟩
    | 4 => cases (Option.some.inj h1); exact ⟨e4, rfl, PySem.W.mg_of X Gx x4, y4, z4, u4, v4⟩
    | 5 => cases (Option.some.inj h1); exact ⟨e5, rfl, PySem.W.mg_of X Gx x5, y5, z5, u5, v5⟩
    | 6 => cases (Option.some.inj h1); exact ⟨e6, rfl, PySem.W.mg_of X Gx x6, y6, z6, u6, v6⟩
    | 7 => cases (Option.some.inj h1); exact ⟨e7, rfl, PySem.W.mg_of X Gx x7, y7, z7, u7, v7⟩
    | 8 => cases (Option.some.inj h1); exact ⟨e8, rfl, PySem.W.mg_of X Gx x8, y8, z8, u8, v8⟩
    | 9 => cases (Option.some.inj h1); exact ⟨e9, rfl, PySem.W.mg_of X Gx x9, y9, z9, u9, v9⟩
    | 10 => cases (Option.some.inj h1); exact ⟨e10, rfl, PySem.W.mg_of X Gx x10, y10, z10, u10, v10⟩
    | 11 => cases (Option.some.inj h1); exact ⟨e11, rfl, PySem.W.mg_of X Gx x11, y11, z11, u11, v11⟩
    | 12 => cases (Option.some.inj h1); exact ⟨e12, rfl, PySem.W.mg_of X Gx x12, y12, z12, u12, v12⟩
    | j + 13 => simp [cx, Cn] at h1
  · have h1 : T f = some fn := h1
    unfold T at h1
    split at h1
    · decide
    · decide
    · decide
    · decide
    · decide
    · decide
    · decide
    · decide
    · decide
    · decide
    · decide
    · decide
    · decide
    · decide
    · decide
    · decide
    · decide
    · decide
    · decide
    · decide
    · decide
    · decide
    · decide
    · decide
    · cases h1
theorem res_mk {K : PySem.W.Frag} {h : Heap} {mg : Str → Option Value} {e0 : Addr} {e1 : Addr} {e2 : Addr} {e3 : Addr} {e4 : Addr} {e5 : Addr} {e6 : Addr} {e7 : Addr} {e8 : Addr} {e9 : Addr} {e10 : Addr} {e11 : Addr} {e12 : Addr} {aR : Addr} {odR anR : Option Addr} {slR : Array (Option Value)} {ocR kVR dcR pmR cdR ctR : Value} (X : K.In h) (Gx : h.Ns mainGlobals mg) (x0 : PySem.W.nsIn K mainGlobals "RecordError" = some (some (.ref e0))) (y0 : PySem.W.excIn K e0 [.type "ValueError", .type "Exception", .type "BaseException", .type "object"] "ValueError.__new__" = true) (z0 : PySem.W.keepIn K (.ref e0) = true) (u0 : PySem.W.subIn K (.ref e0) (.type "BaseException") = some true) (v0 : PySem.W.typeIn K (.ref e0) = some (.type "type")) (x1 : PySem.W.nsIn K mainGlobals "InvalidRecords" = some (some (.ref e1))) (y1 : PySem.W.excIn K e1 [.type "ValueError", .type "Exception", .type "BaseException", .type "object"] "ValueError.__new__" = true) (z1 : PySem.W.keepIn K (.ref e1) = true) (u1 : PySem.W.subIn K (.ref e1) (.type "BaseException") = some true) (v1 : PySem.W.typeIn K (.ref e1) = some (.type "type")) (x2 : PySem.W.nsIn K mainGlobals "InvalidRules" = some (some (.ref e2))) (y2 : PySem.W.excIn K e2 [.type "ValueError", .type "Exception", .type "BaseException", .type "object"] "ValueError.__new__" = true) (z2 : PySem.W.keepIn K (.ref e2) = true) (u2 : PySem.W.subIn K (.ref e2) (.type "BaseException") = some true) (v2 : PySem.W.typeIn K (.ref e2) = some (.type "type")) (x3 : PySem.W.nsIn K mainGlobals "InvalidGroup" = some (some (.ref e3))) (y3 : PySem.W.excIn K e3 [.type "ValueError", .type "Exception", .type "BaseException", .type "object"] "ValueError.__new__" = true) (z3 : PySem.W.keepIn K (.ref e3) = true) (u3 : PySem.W.subIn K (.ref e3) (.type "BaseException") = some true) (v3 : PySem.W.typeIn K (.ref e3) = some (.type "type")) (x4 : PySem.W.nsIn K mainGlobals "InvalidRun" = some (some (.ref e4))) (y4 : PySem.W.excIn K e4 [.type "ValueError", .type "Exception", .type "BaseException", .type "object"] "ValueError.__new__" = true) (z4 : PySem.W.keepIn K (.ref e4) = true) (u4 : PySem.W.subIn K (.ref e4) (.type "BaseException") = some true) (v4 : PySem.W.typeIn K (.ref e4) = some (.type "type")) (x5 : PySem.W.nsIn K mainGlobals "InvalidPartition" = some (some (.ref e5))) (y5 : PySem.W.excIn K e5 [.type "ValueError", .type "Exception", .type "BaseException", .type "object"] "ValueError.__new__" = true) (z5 : PySem.W.keepIn K (.ref e5) = true) (u5 : PySem.W.subIn K (.ref e5) (.type "BaseException") = some true) (v5 : PySem.W.typeIn K (.ref e5) = some (.type "type")) (x6 : PySem.W.nsIn K mainGlobals "InvalidNumber" = some (some (.ref e6))) (y6 : PySem.W.excIn K e6 [.type "ValueError", .type "Exception", .type "BaseException", .type "object"] "ValueError.__new__" = true) (z6 : PySem.W.keepIn K (.ref e6) = true) (u6 : PySem.W.subIn K (.ref e6) (.type "BaseException") = some true) (v6 : PySem.W.typeIn K (.ref e6) = some (.type "type")) (x7 : PySem.W.nsIn K mainGlobals "InvalidRecord" = some (some (.ref e7))) (y7 : PySem.W.excIn K e7 [.type "ValueError", .type "Exception", .type "BaseException", .type "object"] "ValueError.__new__" = true) (z7 : PySem.W.keepIn K (.ref e7) = true) (u7 : PySem.W.subIn K (.ref e7) (.type "BaseException") = some true) (v7 : PySem.W.typeIn K (.ref e7) = some (.type "type")) (x8 : PySem.W.nsIn K mainGlobals "InvalidText" = some (some (.ref e8))) (y8 : PySem.W.excIn K e8 [.type "ValueError", .type "Exception", .type "BaseException", .type "object"] "ValueError.__new__" = true) (z8 : PySem.W.keepIn K (.ref e8) = true) (u8 : PySem.W.subIn K (.ref e8) (.type "BaseException") = some true) (v8 : PySem.W.typeIn K (.ref e8) = some (.type "type")) (x9 : PySem.W.nsIn K mainGlobals "NoMatch" = some (some (.ref e9))) (y9 : PySem.W.excIn K e9 [.type "ValueError", .type "Exception", .type "BaseException", .type "object"] "ValueError.__new__" = true) (z9 : PySem.W.keepIn K (.ref e9) = true) (u9 : PySem.W.subIn K (.ref e9) (.type "BaseException") = some true) (v9 : PySem.W.typeIn K (.ref e9) = some (.type "type")) (x10 : PySem.W.nsIn K mainGlobals "TooMany" = some (some (.ref e10))) (y10 : PySem.W.excIn K e10 [.type "ValueError", .type "Exception", .type "BaseException", .type "object"] "ValueError.__new__" = true) (z10 : PySem.W.keepIn K (.ref e10) = true) (u10 : PySem.W.subIn K (.ref e10) (.type "BaseException") = some true) (v10 : PySem.W.typeIn K (.ref e10) = some (.type "type")) (x11 : PySem.W.nsIn K mainGlobals "Alone" = some (some (.ref e11))) (y11 : PySem.W.excIn K e11 [.type "ValueError", .type "Exception", .type "BaseException", .type "object"] "ValueError.__new__" = true) (z11 : PySem.W.keepIn K (.ref e11) = true) (u11 : PySem.W.subIn K (.ref e11) (.type "BaseException") = some true) (v11 : PySem.W.typeIn K (.ref e11) = some (.type "type")) (x12 : PySem.W.nsIn K mainGlobals "NothingToUndo" = some (some (.ref e12))) (y12 : PySem.W.excIn K e12 [.type "ValueError", .type "Exception", .type "BaseException", .type "object"] "ValueError.__new__" = true) (z12 : PySem.W.keepIn K (.ref e12) = true) (u12 : PySem.W.subIn K (.ref e12) (.type "BaseException") = some true) (v12 : PySem.W.typeIn K (.ref e12) = some (.type "type")) (b6 : PySem.W.nsIn K mainGlobals "isinstance" = some none) (b0 : PySem.W.nsIn K mainGlobals "len" = some none) (gR : PySem.W.nsIn K mainGlobals "_law_result" = some (some (.ref aR))) (lR : K.lookup aR = some ⟨ocR, odR, .func (PySem.W.fnOf "_law_result" "_law_result" (defArgs sR) (defBody sR) (defScope sR) .none kVR dcR pmR anR cdR ctR), slR⟩) (cR : PySem.W.codeIn K cdR "_law_result" = true) (kR : PySem.W.keepIn K (.ref aR) = true) (bV : PySem.W.nsIn K mainGlobals "ValueError" = some none) (hnR : PySem.W.specialIn K (.builtin "object.__class__") "__get__" = some (some (.builtin "getset_descriptor.__get__"))) (htR : PySem.W.takesIn K (.builtin "object.__class__") = some true) (xa1 : PySem.W.findIn K (.ref e1) "__getattribute__" = some (some (.builtin "BaseException.__getattribute__"))) (xb1 : PySem.W.findIn K (.ref e1) "__getattr__" = some none) (xd1 : PySem.W.hasDictIn K e1 = true) (xe1 : PySem.W.findIn K (.ref e1) "__class__" = some (some (.builtin "object.__class__"))) (xm1 : PySem.W.mroIn K e1 (.type "object") = some true) (xt1 : PySem.W.exmOne K (.ref e1) (.ref e0) = some true) (xv1 : PySem.W.kitOne K (.ref e1) (.type "ValueError") = some true) (xi1_1 : PySem.W.kitOne K (.ref e1) (.ref e1) = some true) (xi1_2 : PySem.W.kitOne K (.ref e1) (.ref e2) = some false) (xi1_3 : PySem.W.kitOne K (.ref e1) (.ref e3) = some false) (xi1_4 : PySem.W.kitOne K (.ref e1) (.ref e4) = some false) (xi1_5 : PySem.W.kitOne K (.ref e1) (.ref e5) = some false) (xi1_6 : PySem.W.kitOne K (.ref e1) (.ref e6) = some false) (xi1_7 : PySem.W.kitOne K (.ref e1) (.ref e7) = some false) (xi1_8 : PySem.W.kitOne K (.ref e1) (.ref e8) = some false) (xi1_9 : PySem.W.kitOne K (.ref e1) (.ref e9) = some false) (xi1_10 : PySem.W.kitOne K (.ref e1) (.ref e10) = some false) (xi1_11 : PySem.W.kitOne K (.ref e1) (.ref e11) = some false) (xi1_12 : PySem.W.kitOne K (.ref e1) (.ref e12) = some false) (xa2 : PySem.W.findIn K (.ref e2) "__getattribute__" = some (some (.builtin "BaseException.__getattribute__"))) (xb2 : PySem.W.findIn K (.ref e2) "__getattr__" = some none) (xd2 : PySem.W.hasDictIn K e2 = true) (xe2 : PySem.W.findIn K (.ref e2) "__class__" = some (some (.builtin "object.__class__"))) (xm2 : PySem.W.mroIn K e2 (.type "object") = some true) (xt2 : PySem.W.exmOne K (.ref e2) (.ref e0) = some true) (xv2 : PySem.W.kitOne K (.ref e2) (.type "ValueError") = some true) (xi2_1 : PySem.W.kitOne K (.ref e2) (.ref e1) = some false) (xi2_2 : PySem.W.kitOne K (.ref e2) (.ref e2) = some true) (xi2_3 : PySem.W.kitOne K (.ref e2) (.ref e3) = some false) (xi2_4 : PySem.W.kitOne K (.ref e2) (.ref e4) = some false) (xi2_5 : PySem.W.kitOne K (.ref e2) (.ref e5) = some false) (xi2_6 : PySem.W.kitOne K (.ref e2) (.ref e6) = some false) (xi2_7 : PySem.W.kitOne K (.ref e2) (.ref e7) = some false) (xi2_8 : PySem.W.kitOne K (.ref e2) (.ref e8) = some false) (xi2_9 : PySem.W.kitOne K (.ref e2) (.ref e9) = some false) (xi2_10 : PySem.W.kitOne K (.ref e2) (.ref e10) = some false) (xi2_11 : PySem.W.kitOne K (.ref e2) (.ref e11) = some false) (xi2_12 : PySem.W.kitOne K (.ref e2) (.ref e12) = some false) (xa3 : PySem.W.findIn K (.ref e3) "__getattribute__" = some (some (.builtin "BaseException.__getattribute__"))) (xb3 : PySem.W.findIn K (.ref e3) "__getattr__" = some none) (xd3 : PySem.W.hasDictIn K e3 = true) (xe3 : PySem.W.findIn K (.ref e3) "__class__" = some (some (.builtin "object.__class__"))) (xm3 : PySem.W.mroIn K e3 (.type "object") = some true) (xt3 : PySem.W.exmOne K (.ref e3) (.ref e0) = some true) (xv3 : PySem.W.kitOne K (.ref e3) (.type "ValueError") = some true) (xi3_1 : PySem.W.kitOne K (.ref e3) (.ref e1) = some false) (xi3_2 : PySem.W.kitOne K (.ref e3) (.ref e2) = some false) (xi3_3 : PySem.W.kitOne K (.ref e3) (.ref e3) = some true) (xi3_4 : PySem.W.kitOne K (.ref e3) (.ref e4) = some false) (xi3_5 : PySem.W.kitOne K (.ref e3) (.ref e5) = some false) (xi3_6 : PySem.W.kitOne K (.ref e3) (.ref e6) = some false) (xi3_7 : PySem.W.kitOne K (.ref e3) (.ref e7) = some false) (xi3_8 : PySem.W.kitOne K (.ref e3) (.ref e8) = some false) (xi3_9 : PySem.W.kitOne K (.ref e3) (.ref e9) = some false) (xi3_10 : PySem.W.kitOne K (.ref e3) (.ref e10) = some false) (xi3_11 : PySem.W.kitOne K (.ref e3) (.ref e11) = some false) (xi3_12 : PySem.W.kitOne K (.ref e3) (.ref e12) = some false) (xa4 : PySem.W.findIn K (.ref e4) "__getattribute__" = some (some (.builtin "BaseException.__getattribute__"))) (xb4 : PySem.W.findIn K (.ref e4) "__getattr__" = some none) (xd4 : PySem.W.hasDictIn K e4 = true) (xe4 : PySem.W.findIn K (.ref e4) "__class__" = some (some (.builtin "object.__class__"))) (xm4 : PySem.W.mroIn K e4 (.type "object") = some true) (xt4 : PySem.W.exmOne K (.ref e4) (.ref e0) = some true) (xv4 : PySem.W.kitOne K (.ref e4) (.type "ValueError") = some true) (xi4_1 : PySem.W.kitOne K (.ref e4) (.ref e1) = some false) (xi4_2 : PySem.W.kitOne K (.ref e4) (.ref e2) = some false) (xi4_3 : PySem.W.kitOne K (.ref e4) (.ref e3) = some false) (xi4_4 : PySem.W.kitOne K (.ref e4) (.ref e4) = some true) (xi4_5 : PySem.W.kitOne K (.ref e4) (.ref e5) = some false) (xi4_6 : PySem.W.kitOne K (.ref e4) (.ref e6) = some false) (xi4_7 : PySem.W.kitOne K (.ref e4) (.ref e7) = some false) (xi4_8 : PySem.W.kitOne K (.ref e4) (.ref e8) = some false) (xi4_9 : PySem.W.kitOne K (.ref e4) (.ref e9) = some false) (xi4_10 : PySem.W.kitOne K (.ref e4) (.ref e10) = some false) (xi4_11 : PySem.W.kitOne K (.ref e4) (.ref e11) = some false) (xi4_12 : PySem.W.kitOne K (.ref e4) (.ref e12) = some false) (xa5 : PySem.W.findIn K (.ref e5) "__getattribute__" = some (some (.builtin "BaseException.__getattribute__"))) (xb5 : PySem.W.findIn K (.ref e5) "__getattr__" = some none) (xd5 : PySem.W.hasDictIn K e5 = true) (xe5 : PySem.W.findIn K (.ref e5) "__class__" = some (some (.builtin "object.__class__"))) (xm5 : PySem.W.mroIn K e5 (.type "object") = some true) (xt5 : PySem.W.exmOne K (.ref e5) (.ref e0) = some true) (xv5 : PySem.W.kitOne K (.ref e5) (.type "ValueError") = some true) (xi5_1 : PySem.W.kitOne K (.ref e5) (.ref e1) = some false) (xi5_2 : PySem.W.kitOne K (.ref e5) (.ref e2) = some false) (xi5_3 : PySem.W.kitOne K (.ref e5) (.ref e3) = some false) (xi5_4 : PySem.W.kitOne K (.ref e5) (.ref e4) = some false) (xi5_5 : PySem.W.kitOne K (.ref e5) (.ref e5) = some true) (xi5_6 : PySem.W.kitOne K (.ref e5) (.ref e6) = some false) (xi5_7 : PySem.W.kitOne K (.ref e5) (.ref e7) = some false) (xi5_8 : PySem.W.kitOne K (.ref e5) (.ref e8) = some false) (xi5_9 : PySem.W.kitOne K (.ref e5) (.ref e9) = some false) (xi5_10 : PySem.W.kitOne K (.ref e5) (.ref e10) = some false) (xi5_11 : PySem.W.kitOne K (.ref e5) (.ref e11) = some false) (xi5_12 : PySem.W.kitOne K (.ref e5) (.ref e12) = some false) (xa6 : PySem.W.findIn K (.ref e6) "__getattribute__" = some (some (.builtin "BaseException.__getattribute__"))) (xb6 : PySem.W.findIn K (.ref e6) "__getattr__" = some none) (xd6 : PySem.W.hasDictIn K e6 = true) (xe6 : PySem.W.findIn K (.ref e6) "__class__" = some (some (.builtin "object.__class__"))) (xm6 : PySem.W.mroIn K e6 (.type "object") = some true) (xt6 : PySem.W.exmOne K (.ref e6) (.ref e0) = some true) (xv6 : PySem.W.kitOne K (.ref e6) (.type "ValueError") = some true) (xi6_1 : PySem.W.kitOne K (.ref e6) (.ref e1) = some false) (xi6_2 : PySem.W.kitOne K (.ref e6) (.ref e2) = some false) (xi6_3 : PySem.W.kitOne K (.ref e6) (.ref e3) = some false) (xi6_4 : PySem.W.kitOne K (.ref e6) (.ref e4) = some false) (xi6_5 : PySem.W.kitOne K (.ref e6) (.ref e5) = some false) (xi6_6 : PySem.W.kitOne K (.ref e6) (.ref e6) = some true) (xi6_7 : PySem.W.kitOne K (.ref e6) (.ref e7) = some false) (xi6_8 : PySem.W.kitOne K (.ref e6) (.ref e8) = some false) (xi6_9 : PySem.W.kitOne K (.ref e6) (.ref e9) = some false) (xi6_10 : PySem.W.kitOne K (.ref e6) (.ref e10) = some false) (xi6_11 : PySem.W.kitOne K (.ref e6) (.ref e11) = some false) (xi6_12 : PySem.W.kitOne K (.ref e6) (.ref e12) = some false) (xa7 : PySem.W.findIn K (.ref e7) "__getattribute__" = some (some (.builtin "BaseException.__getattribute__"))) (xb7 : PySem.W.findIn K (.ref e7) "__getattr__" = some none) (xd7 : PySem.W.hasDictIn K e7 = true) (xe7 : PySem.W.findIn K (.ref e7) "__class__" = some (some (.builtin "object.__class__"))) (xm7 : PySem.W.mroIn K e7 (.type "object") = some true) (xt7 : PySem.W.exmOne K (.ref e7) (.ref e0) = some true) (xv7 : PySem.W.kitOne K (.ref e7) (.type "ValueError") = some true) (xi7_1 : PySem.W.kitOne K (.ref e7) (.ref e1) = some false) (xi7_2 : PySem.W.kitOne K (.ref e7) (.ref e2) = some false) (xi7_3 : PySem.W.kitOne K (.ref e7) (.ref e3) = some false) (xi7_4 : PySem.W.kitOne K (.ref e7) (.ref e4) = some false) (xi7_5 : PySem.W.kitOne K (.ref e7) (.ref e5) = some false) (xi7_6 : PySem.W.kitOne K (.ref e7) (.ref e6) = some false) (xi7_7 : PySem.W.kitOne K (.ref e7) (.ref e7) = some true) (xi7_8 : PySem.W.kitOne K (.ref e7) (.ref e8) = some false) (xi7_9 : PySem.W.kitOne K (.ref e7) (.ref e9) = some false) (xi7_10 : PySem.W.kitOne K (.ref e7) (.ref e10) = some false) (xi7_11 : PySem.W.kitOne K (.ref e7) (.ref e11) = some false) (xi7_12 : PySem.W.kitOne K (.ref e7) (.ref e12) = some false) (xa8 : PySem.W.findIn K (.ref e8) "__getattribute__" = some (some (.builtin "BaseException.__getattribute__"))) (xb8 : PySem.W.findIn K (.ref e8) "__getattr__" = some none) (xd8 : PySem.W.hasDictIn K e8 = true) (xe8 : PySem.W.findIn K (.ref e8) "__class__" = some (some (.builtin "object.__class__"))) (xm8 : PySem.W.mroIn K e8 (.type "object") = some true) (xt8 : PySem.W.exmOne K (.ref e8) (.ref e0) = some true) (xv8 : PySem.W.kitOne K (.ref e8) (.type "ValueError") = some true) (xi8_1 : PySem.W.kitOne K (.ref e8) (.ref e1) = some false) (xi8_2 : PySem.W.kitOne K (.ref e8) (.ref e2) = some false) (xi8_3 : PySem.W.kitOne K (.ref e8) (.ref e3) = some false) (xi8_4 : PySem.W.kitOne K (.ref e8) (.ref e4) = some false) (xi8_5 : PySem.W.kitOne K (.ref e8) (.ref e5) = some false) (xi8_6 : PySem.W.kitOne K (.ref e8) (.ref e6) = some false) (xi8_7 : PySem.W.kitOne K (.ref e8) (.ref e7) = some false) (xi8_8 : PySem.W.kitOne K (.ref e8) (.ref e8) = some true) (xi8_9 : PySem.W.kitOne K (.ref e8) (.ref e9) = some false) (xi8_10 : PySem.W.kitOne K (.ref e8) (.ref e10) = some false) (xi8_11 : PySem.W.kitOne K (.ref e8) (.ref e11) = some false) (xi8_12 : PySem.W.kitOne K (.ref e8) (.ref e12) = some false) (xa9 : PySem.W.findIn K (.ref e9) "__getattribute__" = some (some (.builtin "BaseException.__getattribute__"))) (xb9 : PySem.W.findIn K (.ref e9) "__getattr__" = some none) (xd9 : PySem.W.hasDictIn K e9 = true) (xe9 : PySem.W.findIn K (.ref e9) "__class__" = some (some (.builtin "object.__class__"))) (xm9 : PySem.W.mroIn K e9 (.type "object") = some true) (xt9 : PySem.W.exmOne K (.ref e9) (.ref e0) = some true) (xv9 : PySem.W.kitOne K (.ref e9) (.type "ValueError") = some true) (xi9_1 : PySem.W.kitOne K (.ref e9) (.ref e1) = some false) (xi9_2 : PySem.W.kitOne K (.ref e9) (.ref e2) = some false) (xi9_3 : PySem.W.kitOne K (.ref e9) (.ref e3) = some false) (xi9_4 : PySem.W.kitOne K (.ref e9) (.ref e4) = some false) (xi9_5 : PySem.W.kitOne K (.ref e9) (.ref e5) = some false) (xi9_6 : PySem.W.kitOne K (.ref e9) (.ref e6) = some false) (xi9_7 : PySem.W.kitOne K (.ref e9) (.ref e7) = some false) (xi9_8 : PySem.W.kitOne K (.ref e9) (.ref e8) = some false) (xi9_9 : PySem.W.kitOne K (.ref e9) (.ref e9) = some true) (xi9_10 : PySem.W.kitOne K (.ref e9) (.ref e10) = some false) (xi9_11 : PySem.W.kitOne K (.ref e9) (.ref e11) = some false) (xi9_12 : PySem.W.kitOne K (.ref e9) (.ref e12) = some false) (xa10 : PySem.W.findIn K (.ref e10) "__getattribute__" = some (some (.builtin "BaseException.__getattribute__"))) (xb10 : PySem.W.findIn K (.ref e10) "__getattr__" = some none) (xd10 : PySem.W.hasDictIn K e10 = true) (xe10 : PySem.W.findIn K (.ref e10) "__class__" = some (some (.builtin "object.__class__"))) (xm10 : PySem.W.mroIn K e10 (.type "object") = some true) (xt10 : PySem.W.exmOne K (.ref e10) (.ref e0) = some true) (xv10 : PySem.W.kitOne K (.ref e10) (.type "ValueError") = some true) (xi10_1 : PySem.W.kitOne K (.ref e10) (.ref e1) = some false) (xi10_2 : PySem.W.kitOne K (.ref e10) (.ref e2) = some false) (xi10_3 : PySem.W.kitOne K (.ref e10) (.ref e3) = some false) (xi10_4 : PySem.W.kitOne K (.ref e10) (.ref e4) = some false) (xi10_5 : PySem.W.kitOne K (.ref e10) (.ref e5) = some false) (xi10_6 : PySem.W.kitOne K (.ref e10) (.ref e6) = some false) (xi10_7 : PySem.W.kitOne K (.ref e10) (.ref e7) = some false) (xi10_8 : PySem.W.kitOne K (.ref e10) (.ref e8) = some false) (xi10_9 : PySem.W.kitOne K (.ref e10) (.ref e9) = some false) (xi10_10 : PySem.W.kitOne K (.ref e10) (.ref e10) = some true) (xi10_11 : PySem.W.kitOne K (.ref e10) (.ref e11) = some false) (xi10_12 : PySem.W.kitOne K (.ref e10) (.ref e12) = some false) (xa11 : PySem.W.findIn K (.ref e11) "__getattribute__" = some (some (.builtin "BaseException.__getattribute__"))) (xb11 : PySem.W.findIn K (.ref e11) "__getattr__" = some none) (xd11 : PySem.W.hasDictIn K e11 = true) (xe11 : PySem.W.findIn K (.ref e11) "__class__" = some (some (.builtin "object.__class__"))) (xm11 : PySem.W.mroIn K e11 (.type "object") = some true) (xt11 : PySem.W.exmOne K (.ref e11) (.ref e0) = some true) (xv11 : PySem.W.kitOne K (.ref e11) (.type "ValueError") = some true) (xi11_1 : PySem.W.kitOne K (.ref e11) (.ref e1) = some false) (xi11_2 : PySem.W.kitOne K (.ref e11) (.ref e2) = some false) (xi11_3 : PySem.W.kitOne K (.ref e11) (.ref e3) = some false) (xi11_4 : PySem.W.kitOne K (.ref e11) (.ref e4) = some false) (xi11_5 : PySem.W.kitOne K (.ref e11) (.ref e5) = some false) (xi11_6 : PySem.W.kitOne K (.ref e11) (.ref e6) = some false) (xi11_7 : PySem.W.kitOne K (.ref e11) (.ref e7) = some false) (xi11_8 : PySem.W.kitOne K (.ref e11) (.ref e8) = some false) (xi11_9 : PySem.W.kitOne K (.ref e11) (.ref e9) = some false) (xi11_10 : PySem.W.kitOne K (.ref e11) (.ref e10) = some false) (xi11_11 : PySem.W.kitOne K (.ref e11) (.ref e11) = some true) (xi11_12 : PySem.W.kitOne K (.ref e11) (.ref e12) = some false) (xa12 : PySem.W.findIn K (.ref e12) "__getattribute__" = some (some (.builtin "BaseException.__getattribute__"))) (xb12 : PySem.W.findIn K (.ref e12) "__getattr__" = some none) (xd12 : PySem.W.hasDictIn K e12 = true) (xe12 : PySem.W.findIn K (.ref e12) "__class__" = some (some (.builtin "object.__class__"))) (xm12 : PySem.W.mroIn K e12 (.type "object") = some true) (xt12 : PySem.W.exmOne K (.ref e12) (.ref e0) = some true) (xv12 : PySem.W.kitOne K (.ref e12) (.type "ValueError") = some true) (xi12_1 : PySem.W.kitOne K (.ref e12) (.ref e1) = some false) (xi12_2 : PySem.W.kitOne K (.ref e12) (.ref e2) = some false) (xi12_3 : PySem.W.kitOne K (.ref e12) (.ref e3) = some false) (xi12_4 : PySem.W.kitOne K (.ref e12) (.ref e4) = some false) (xi12_5 : PySem.W.kitOne K (.ref e12) (.ref e5) = some false) (xi12_6 : PySem.W.kitOne K (.ref e12) (.ref e6) = some false) (xi12_7 : PySem.W.kitOne K (.ref e12) (.ref e7) = some false) (xi12_8 : PySem.W.kitOne K (.ref e12) (.ref e8) = some false) (xi12_9 : PySem.W.kitOne K (.ref e12) (.ref e9) = some false) (xi12_10 : PySem.W.kitOne K (.ref e12) (.ref e10) = some false) (xi12_11 : PySem.W.kitOne K (.ref e12) (.ref e11) = some false) (xi12_12 : PySem.W.kitOne K (.ref e12) (.ref e12) = some true) : ResS (cx [e0, e1, e2, e3, e4, e5, e6, e7, e8, e9, e10, e11, e12]) K mg := by
  have FR := fun_mk (st := sR) lR cR kR
  refine ⟨aR, e0, [e1, e2, e3, e4, e5, e6, e7, e8, e9, e10, e11, e12], _, _, _, _, _, _, _, _, _, _, _, _, _, PySem.W.mg_of X Gx gR, kR, lR, cR, FR.binds (ps := ["call"]) (fun _ _ _ _ _ _ us hl => match us, hl with | [_], _ => rfl), scR, isR, ?_, rfl⟩
  refine ⟨rfl, PySem.W.mg_of X Gx x0, fun i x c h1 h2 => ?_, fun i c h => ?_, fun i c h => ?_, fun i j c d h1 h2 => ?_, fun i c h => ?_, ⟨PySem.W.mg_none_of X Gx b6, PySem.W.mg_none_of X Gx b0, PySem.W.mg_none_of X Gx bV⟩, by decide +kernel, by decide +kernel, by decide +kernel⟩
  · match i with
    | 0 => cases (Option.some.inj h1); cases (Option.some.inj h2); exact PySem.W.mg_of X Gx x1
    | 1 => cases (Option.some.inj h1); cases (Option.some.inj h2); exact PySem.W.mg_of X Gx x2
    | 2 => cases (Option.some.inj h1); cases (Option.some.inj h2); exact PySem.W.mg_of X Gx x3
    | 3 => cases (Option.some.inj h1); cases (Option.some.inj h2); exact PySem.W.mg_of X Gx x4
    | 4 => cases (Option.some.inj h1); cases (Option.some.inj h2); exact PySem.W.mg_of X Gx x5
    | 5 => cases (Option.some.inj h1); cases (Option.some.inj h2); exact PySem.W.mg_of X Gx x6
    | 6 => cases (Option.some.inj h1); cases (Option.some.inj h2); exact PySem.W.mg_of X Gx x7
    | 7 => cases (Option.some.inj h1); cases (Option.some.inj h2); exact PySem.W.mg_of X Gx x8
    | 8 => cases (Option.some.inj h1); cases (Option.some.inj h2); exact PySem.W.mg_of X Gx x9
    | 9 => cases (Option.some.inj h1); cases (Option.some.inj h2); exact PySem.W.mg_of X Gx x10
    | 10 => cases (Option.some.inj h1); cases (Option.some.inj h2); exact PySem.W.mg_of X Gx x11
    | 11 => cases (Option.some.inj h1); cases (Option.some.inj h2); exact PySem.W.mg_of X Gx x12
    | i + 12 => simp at h2
  · match i with
    | 0 => cases (Option.some.inj h); exact ⟨xa1, xb1, u1, xd1, xe1, hnR, htR, xm1⟩
    | 1 => cases (Option.some.inj h); exact ⟨xa2, xb2, u2, xd2, xe2, hnR, htR, xm2⟩
    | 2 => cases (Option.some.inj h); exact ⟨xa3, xb3, u3, xd3, xe3, hnR, htR, xm3⟩
    | 3 => cases (Option.some.inj h); exact ⟨xa4, xb4, u4, xd4, xe4, hnR, htR, xm4⟩
    | 4 => cases (Option.some.inj h); exact ⟨xa5, xb5, u5, xd5, xe5, hnR, htR, xm5⟩
    | 5 => cases (Option.some.inj h); exact ⟨xa6, xb6, u6, xd6, xe6, hnR, htR, xm6⟩
    | 6 => cases (Option.some.inj h); exact ⟨xa7, xb7, u7, xd7, xe7, hnR, htR, xm7⟩
    | 7 => cases (Option.some.inj h); exact ⟨xa8, xb8, u8, xd8, xe8, hnR, htR, xm8⟩
    | 8 => cases (Option.some.inj h); exact ⟨xa9, xb9, u9, xd9, xe9, hnR, htR, xm9⟩
    | 9 => cases (Option.some.inj h); exact ⟨xa10, xb10, u10, xd10, xe10, hnR, htR, xm10⟩
    | 10 => cases (Option.some.inj h); exact ⟨xa11, xb11, u11, xd11, xe11, hnR, htR, xm11⟩
    | 11 => cases (Option.some.inj h); exact ⟨xa12, xb12, u12, xd12, xe12, hnR, htR, xm12⟩
    | i + 12 => simp at h
  · match i with
    | 0 => cases (Option.some.inj h); exact xt1
    | 1 => cases (Option.some.inj h); exact xt2
    | 2 => cases (Option.some.inj h); exact xt3
    | 3 => cases (Option.some.inj h); exact xt4
    | 4 => cases (Option.some.inj h); exact xt5
    | 5 => cases (Option.some.inj h); exact xt6
    | 6 => cases (Option.some.inj h); exact xt7
    | 7 => cases (Option.some.inj h); exact xt8
    | 8 => cases (Option.some.inj h); exact xt9
    | 9 => cases (Option.some.inj h); exact xt10
    | 10 => cases (Option.some.inj h); exact xt11
    | 11 => cases (Option.some.inj h); exact xt12
    | i + 12 => simp at h
  · match i with
    | 0 =>
      cases (Option.some.inj h1)
      match j with
      | 0 => cases (Option.some.inj h2); exact xi1_1
      | 1 => cases (Option.some.inj h2); exact xi1_2
      | 2 => cases (Option.some.inj h2); exact xi1_3
      | 3 => cases (Option.some.inj h2); exact xi1_4
      | 4 => cases (Option.some.inj h2); exact xi1_5
      | 5 => cases (Option.some.inj h2); exact xi1_6
      | 6 => cases (Option.some.inj h2); exact xi1_7
      | 7 => cases (Option.some.inj h2); exact xi1_8
      | 8 => cases (Option.some.inj h2); exact xi1_9
      | 9 => cases (Option.some.inj h2); exact xi1_10
      | 10 => cases (Option.some.inj h2); exact xi1_11
      | 11 => cases (Option.some.inj h2); exact xi1_12
      | j + 12 => simp at h2
    | 1 =>
      cases (Option.some.inj h1)
      match j with
      | 0 => cases (Option.some.inj h2); exact xi2_1
      | 1 => cases (Option.some.inj h2); exact xi2_2
      | 2 => cases (Option.some.inj h2); exact xi2_3
      | 3 => cases (Option.some.inj h2); exact xi2_4
      | 4 => cases (Option.some.inj h2); exact xi2_5
      | 5 => cases (Option.some.inj h2); exact xi2_6
      | 6 => cases (Option.some.inj h2); exact xi2_7
      | 7 => cases (Option.some.inj h2); exact xi2_8
      | 8 => cases (Option.some.inj h2); exact xi2_9
      | 9 => cases (Option.some.inj h2); exact xi2_10
      | 10 => cases (Option.some.inj h2); exact xi2_11
      | 11 => cases (Option.some.inj h2); exact xi2_12
      | j + 12 => simp at h2
    | 2 =>
      cases (Option.some.inj h1)
      match j with
      | 0 => cases (Option.some.inj h2); exact xi3_1
      | 1 => cases (Option.some.inj h2); exact xi3_2
      | 2 => cases (Option.some.inj h2); exact xi3_3
      | 3 => cases (Option.some.inj h2); exact xi3_4
      | 4 => cases (Option.some.inj h2); exact xi3_5
      | 5 => cases (Option.some.inj h2); exact xi3_6
      | 6 => cases (Option.some.inj h2); exact xi3_7
      | 7 => cases (Option.some.inj h2); exact xi3_8
      | 8 => cases (Option.some.inj h2); exact xi3_9
      | 9 => cases (Option.some.inj h2); exact xi3_10
      | 10 => cases (Option.some.inj h2); exact xi3_11
      | 11 => cases (Option.some.inj h2); exact xi3_12
      | j + 12 => simp at h2
    | 3 =>
      cases (Option.some.inj h1)
      match j with
      | 0 => cases (Option.some.inj h2); exact xi4_1
      | 1 => cases (Option.some.inj h2); exact xi4_2
      | 2 => cases (Option.some.inj h2); exact xi4_3
      | 3 => cases (Option.some.inj h2); exact xi4_4
      | 4 => cases (Option.some.inj h2); exact xi4_5
      | 5 => cases (Option.some.inj h2); exact xi4_6
      | 6 => cases (Option.some.inj h2); exact xi4_7
      | 7 => cases (Option.some.inj h2); exact xi4_8
      | 8 => cases (Option.some.inj h2); exact xi4_9
      | 9 => cases (Option.some.inj h2); exact xi4_10
      | 10 => cases (Option.some.inj h2); exact xi4_11
      | 11 => cases (Option.some.inj h2); exact xi4_12
      | j + 12 => simp at h2
    | 4 =>
      cases (Option.some.inj h1)
      match j with
      | 0 => cases (Option.some.inj h2); exact xi5_1
      | 1 => cases (Option.some.inj h2); exact xi5_2
      | 2 => cases (Option.some.inj h2); exact xi5_3
      | 3 => cases (Option.some.inj h2); exact xi5_4
      | 4 => cases (Option.some.inj h2); exact xi5_5
      | 5 => cases (Option.some.inj h2); exact xi5_6
      | 6 => cases (Option.some.inj h2); exact xi5_7
      | 7 => cases (Option.some.inj h2); exact xi5_8
      | 8 => cases (Option.some.inj h2); exact xi5_9
      | 9 => cases (Option.some.inj h2); exact xi5_10
      | 10 => cases (Option.some.inj h2); exact xi5_11
      | 11 => cases (Option.some.inj h2); exact xi5_12
      | j + 12 => simp at h2
    | 5 =>
      cases (Option.some.inj h1)
      match j with
      | 0 => cases (Option.some.inj h2); exact xi6_1
      | 1 => cases (Option.some.inj h2); exact xi6_2
      | 2 => cases (Option.some.inj h2); exact xi6_3
      | 3 => cases (Option.some.inj h2); exact xi6_4
      | 4 => cases (Option.some.inj h2); exact xi6_5
      | 5 => cases (Option.some.inj h2); exact xi6_6
      | 6 => cases (Option.some.inj h2); exact xi6_7
      | 7 => cases (Option.some.inj h2); exact xi6_8
      | 8 => cases (Option.some.inj h2); exact xi6_9
      | 9 => cases (Option.some.inj h2); exact xi6_10
      | 10 => cases (Option.some.inj h2); exact xi6_11
      | 11 => cases (Option.some.inj h2); exact xi6_12
      | j + 12 => simp at h2
    | 6 =>
      cases (Option.some.inj h1)
      match j with
      | 0 => cases (Option.some.inj h2); exact xi7_1
      | 1 => cases (Option.some.inj h2); exact xi7_2
      | 2 => cases (Option.some.inj h2); exact xi7_3
      | 3 => cases (Option.some.inj h2); exact xi7_4
      | 4 => cases (Option.some.inj h2); exact xi7_5
      | 5 => cases (Option.some.inj h2); exact xi7_6
      | 6 => cases (Option.some.inj h2); exact xi7_7
      | 7 => cases (Option.some.inj h2); exact xi7_8
      | 8 => cases (Option.some.inj h2); exact xi7_9
      | 9 => cases (Option.some.inj h2); exact xi7_10
      | 10 => cases (Option.some.inj h2); exact xi7_11
      | 11 => cases (Option.some.inj h2); exact xi7_12
      | j + 12 => simp at h2
    | 7 =>
      cases (Option.some.inj h1)
      match j with
      | 0 => cases (Option.some.inj h2); exact xi8_1
      | 1 => cases (Option.some.inj h2); exact xi8_2
      | 2 => cases (Option.some.inj h2); exact xi8_3
      | 3 => cases (Option.some.inj h2); exact xi8_4
      | 4 => cases (Option.some.inj h2); exact xi8_5
      | 5 => cases (Option.some.inj h2); exact xi8_6
      | 6 => cases (Option.some.inj h2); exact xi8_7
      | 7 => cases (Option.some.inj h2); exact xi8_8
      | 8 => cases (Option.some.inj h2); exact xi8_9
      | 9 => cases (Option.some.inj h2); exact xi8_10
      | 10 => cases (Option.some.inj h2); exact xi8_11
      | 11 => cases (Option.some.inj h2); exact xi8_12
      | j + 12 => simp at h2
    | 8 =>
      cases (Option.some.inj h1)
      match j with
      | 0 => cases (Option.some.inj h2); exact xi9_1
      | 1 => cases (Option.some.inj h2); exact xi9_2
      | 2 => cases (Option.some.inj h2); exact xi9_3
      | 3 => cases (Option.some.inj h2); exact xi9_4
      | 4 => cases (Option.some.inj h2); exact xi9_5
      | 5 => cases (Option.some.inj h2); exact xi9_6
      | 6 => cases (Option.some.inj h2); exact xi9_7
      | 7 => cases (Option.some.inj h2); exact xi9_8
      | 8 => cases (Option.some.inj h2); exact xi9_9
      | 9 => cases (Option.some.inj h2); exact xi9_10
      | 10 => cases (Option.some.inj h2); exact xi9_11
      | 11 => cases (Option.some.inj h2); exact xi9_12
      | j + 12 => simp at h2
    | 9 =>
      cases (Option.some.inj h1)
      match j with
      | 0 => cases (Option.some.inj h2); exact xi10_1
      | 1 => cases (Option.some.inj h2); exact xi10_2
      | 2 => cases (Option.some.inj h2); exact xi10_3
      | 3 => cases (Option.some.inj h2); exact xi10_4
      | 4 => cases (Option.some.inj h2); exact xi10_5
      | 5 => cases (Option.some.inj h2); exact xi10_6
      | 6 => cases (Option.some.inj h2); exact xi10_7
      | 7 => cases (Option.some.inj h2); exact xi10_8
      | 8 => cases (Option.some.inj h2); exact xi10_9
      | 9 => cases (Option.some.inj h2); exact xi10_10
      | 10 => cases (Option.some.inj h2); exact xi10_11
      | 11 => cases (Option.some.inj h2); exact xi10_12
      | j + 12 => simp at h2
    | 10 =>
      cases (Option.some.inj h1)
      match j with
      | 0 => cases (Option.some.inj h2); exact xi11_1
      | 1 => cases (Option.some.inj h2); exact xi11_2
      | 2 => cases (Option.some.inj h2); exact xi11_3
      | 3 => cases (Option.some.inj h2); exact xi11_4
      | 4 => cases (Option.some.inj h2); exact xi11_5
      | 5 => cases (Option.some.inj h2); exact xi11_6
      | 6 => cases (Option.some.inj h2); exact xi11_7
      | 7 => cases (Option.some.inj h2); exact xi11_8
      | 8 => cases (Option.some.inj h2); exact xi11_9
      | 9 => cases (Option.some.inj h2); exact xi11_10
      | 10 => cases (Option.some.inj h2); exact xi11_11
      | 11 => cases (Option.some.inj h2); exact xi11_12
      | j + 12 => simp at h2
    | 11 =>
      cases (Option.some.inj h1)
      match j with
      | 0 => cases (Option.some.inj h2); exact xi12_1
      | 1 => cases (Option.some.inj h2); exact xi12_2
      | 2 => cases (Option.some.inj h2); exact xi12_3
      | 3 => cases (Option.some.inj h2); exact xi12_4
      | 4 => cases (Option.some.inj h2); exact xi12_5
      | 5 => cases (Option.some.inj h2); exact xi12_6
      | 6 => cases (Option.some.inj h2); exact xi12_7
      | 7 => cases (Option.some.inj h2); exact xi12_8
      | 8 => cases (Option.some.inj h2); exact xi12_9
      | 9 => cases (Option.some.inj h2); exact xi12_10
      | 10 => cases (Option.some.inj h2); exact xi12_11
      | 11 => cases (Option.some.inj h2); exact xi12_12
      | j + 12 => simp at h2
    | i + 12 => simp at h1
  · match i with
    | 0 => cases (Option.some.inj h); exact xv1
    | 1 => cases (Option.some.inj h); exact xv2
    | 2 => cases (Option.some.inj h); exact xv3
    | 3 => cases (Option.some.inj h); exact xv4
    | 4 => cases (Option.some.inj h); exact xv5
    | 5 => cases (Option.some.inj h); exact xv6
    | 6 => cases (Option.some.inj h); exact xv7
    | 7 => cases (Option.some.inj h); exact xv8
    | 8 => cases (Option.some.inj h); exact xv9
    | 9 => cases (Option.some.inj h); exact xv10
    | 10 => cases (Option.some.inj h); exact xv11
    | 11 => cases (Option.some.inj h); exact xv12
    | i + 12 => simp at h
theorem all_mk {qq : Program} {l : PySem.W.OpenLaw} {w : World} {K : PySem.W.Frag} {h : Heap} {mg : Str → Option Value} {fa : Addr} {a0 : Addr} {od0 an0 : Option Addr} {sl0 : Array (Option Value)} {oc0 kV0 dc0 pm0 cd0 ct0 : Value} {a1 : Addr} {od1 an1 : Option Addr} {sl1 : Array (Option Value)} {oc1 kV1 dc1 pm1 cd1 ct1 : Value} {a2 : Addr} {od2 an2 : Option Addr} {sl2 : Array (Option Value)} {oc2 kV2 dc2 pm2 cd2 ct2 : Value} {a3 : Addr} {od3 an3 : Option Addr} {sl3 : Array (Option Value)} {oc3 kV3 dc3 pm3 cd3 ct3 : Value} {a4 : Addr} {od4 an4 : Option Addr} {sl4 : Array (Option Value)} {oc4 kV4 dc4 pm4 cd4 ct4 : Value} {a5 : Addr} {od5 an5 : Option Addr} {sl5 : Array (Option Value)} {oc5 kV5 dc5 pm5 cd5 ct5 : Value} {a6 : Addr} {od6 an6 : Option Addr} {sl6 : Array (Option Value)} {oc6 kV6 dc6 pm6 cd6 ct6 : Value} {a7 : Addr} {od7 an7 : Option Addr} {sl7 : Array (Option Value)} {oc7 kV7 dc7 pm7 cd7 ct7 : Value} {a8 : Addr} {od8 an8 : Option Addr} {sl8 : Array (Option Value)} {oc8 kV8 dc8 pm8 cd8 ct8 : Value} {a9 : Addr} {od9 an9 : Option Addr} {sl9 : Array (Option Value)} {oc9 kV9 dc9 pm9 cd9 ct9 : Value} {a10 : Addr} {od10 an10 : Option Addr} {sl10 : Array (Option Value)} {oc10 kV10 dc10 pm10 cd10 ct10 : Value} {a11 : Addr} {od11 an11 : Option Addr} {sl11 : Array (Option Value)} {oc11 kV11 dc11 pm11 cd11 ct11 : Value} {a12 : Addr} {od12 an12 : Option Addr} {sl12 : Array (Option Value)} {oc12 kV12 dc12 pm12 cd12 ct12 : Value} {a13 : Addr} {od13 an13 : Option Addr} {sl13 : Array (Option Value)} {oc13 kV13 dc13 pm13 cd13 ct13 : Value} {a14 : Addr} {od14 an14 : Option Addr} {sl14 : Array (Option Value)} {oc14 kV14 dc14 pm14 cd14 ct14 : Value} {a15 : Addr} {od15 an15 : Option Addr} {sl15 : Array (Option Value)} {oc15 kV15 dc15 pm15 cd15 ct15 : Value} {a16 : Addr} {od16 an16 : Option Addr} {sl16 : Array (Option Value)} {oc16 kV16 dc16 pm16 cd16 ct16 : Value} {a17 : Addr} {od17 an17 : Option Addr} {sl17 : Array (Option Value)} {oc17 kV17 dc17 pm17 cd17 ct17 : Value} {a18 : Addr} {od18 an18 : Option Addr} {sl18 : Array (Option Value)} {oc18 kV18 dc18 pm18 cd18 ct18 : Value} {a104 : Addr} {od104 an104 : Option Addr} {sl104 : Array (Option Value)} {oc104 kV104 dc104 pm104 cd104 ct104 : Value} {a20 : Addr} {od20 an20 : Option Addr} {sl20 : Array (Option Value)} {oc20 kV20 dc20 pm20 cd20 ct20 : Value} {a105 : Addr} {od105 an105 : Option Addr} {sl105 : Array (Option Value)} {oc105 kV105 dc105 pm105 cd105 ct105 : Value} {a106 : Addr} {od106 an106 : Option Addr} {sl106 : Array (Option Value)} {oc106 kV106 dc106 pm106 cd106 ct106 : Value} {a107 : Addr} {od107 an107 : Option Addr} {sl107 : Array (Option Value)} {oc107 kV107 dc107 pm107  ct107 : Value} {cc107 Pt107 : Addr} {hd107 : Option Addr} {vs107 : Array Value} {hs107 : Array (Option Value)} {ga0 : Addr} {gn0 : Nat} {gt0_0 : Tok} {gt0_1 : Tok} {gt0_2 : Tok} {gd0 : Option Addr} {gs0 : Array (Option Value)} {tk1 : Tok} {e0 : Addr} {e1 : Addr} {e2 : Addr} {e3 : Addr} {e4 : Addr} {e5 : Addr} {e6 : Addr} {e7 : Addr} {e8 : Addr} {e9 : Addr} {e10 : Addr} {e11 : Addr} {e12 : Addr} {aR : Addr} {odR anR : Option Addr} {slR : Array (Option Value)} {ocR kVR dcR pmR cdR ctR : Value} (X : K.In h) (Gx : h.Ns mainGlobals mg) (hfa : mg "law" = some (.ref fa)) (own : ∀ y : Str, ((recsOf qq).any fun e => e.name == y) = true → ∀ b, mg y = some (.ref b) → LamX.OwnTab K b h) (hlaw : ∀ ns : List Int, ns.length ≤ 63 → ∃ S, callI T G 30 107 [.scl ns] [] = .ok (.bl true) S) (g0 : PySem.W.nsIn K mainGlobals "is_between" = some (some (.ref a0))) (l0 : K.lookup a0 = some ⟨oc0, od0, .func (PySem.W.fnOf "is_between" "is_between" (defArgs s0) (defBody s0) (defScope s0) .none kV0 dc0 pm0 an0 cd0 ct0), sl0⟩) (c0 : PySem.W.codeIn K cd0 "is_between" = true) (k0 : PySem.W.keepIn K (.ref a0) = true) (g1 : PySem.W.nsIn K mainGlobals "is_ascending" = some (some (.ref a1))) (l1 : K.lookup a1 = some ⟨oc1, od1, .func (PySem.W.fnOf "is_ascending" "is_ascending" (defArgs s1) (defBody s1) (defScope s1) .none kV1 dc1 pm1 an1 cd1 ct1), sl1⟩) (c1 : PySem.W.codeIn K cd1 "is_ascending" = true) (k1 : PySem.W.keepIn K (.ref a1) = true) (g2 : PySem.W.nsIn K mainGlobals "is_record" = some (some (.ref a2))) (l2 : K.lookup a2 = some ⟨oc2, od2, .func (PySem.W.fnOf "is_record" "is_record" (defArgs s2) (defBody s2) (defScope s2) .none kV2 dc2 pm2 an2 cd2 ct2), sl2⟩) (c2 : PySem.W.codeIn K cd2 "is_record" = true) (k2 : PySem.W.keepIn K (.ref a2) = true) (g3 : PySem.W.nsIn K mainGlobals "is_records" = some (some (.ref a3))) (l3 : K.lookup a3 = some ⟨oc3, od3, .func (PySem.W.fnOf "is_records" "is_records" (defArgs s3) (defBody s3) (defScope s3) .none kV3 dc3 pm3 an3 cd3 ct3), sl3⟩) (c3 : PySem.W.codeIn K cd3 "is_records" = true) (k3 : PySem.W.keepIn K (.ref a3) = true) (g4 : PySem.W.nsIn K mainGlobals "is_key" = some (some (.ref a4))) (l4 : K.lookup a4 = some ⟨oc4, od4, .func (PySem.W.fnOf "is_key" "is_key" (defArgs s4) (defBody s4) (defScope s4) .none kV4 dc4 pm4 an4 cd4 ct4), sl4⟩) (c4 : PySem.W.codeIn K cd4 "is_key" = true) (k4 : PySem.W.keepIn K (.ref a4) = true) (g5 : PySem.W.nsIn K mainGlobals "is_rules" = some (some (.ref a5))) (l5 : K.lookup a5 = some ⟨oc5, od5, .func (PySem.W.fnOf "is_rules" "is_rules" (defArgs s5) (defBody s5) (defScope s5) .none kV5 dc5 pm5 an5 cd5 ct5), sl5⟩) (c5 : PySem.W.codeIn K cd5 "is_rules" = true) (k5 : PySem.W.keepIn K (.ref a5) = true) (g6 : PySem.W.nsIn K mainGlobals "check_records" = some (some (.ref a6))) (l6 : K.lookup a6 = some ⟨oc6, od6, .func (PySem.W.fnOf "check_records" "check_records" (defArgs s6) (defBody s6) (defScope s6) .none kV6 dc6 pm6 an6 cd6 ct6), sl6⟩) (c6 : PySem.W.codeIn K cd6 "check_records" = true) (k6 : PySem.W.keepIn K (.ref a6) = true) (g7 : PySem.W.nsIn K mainGlobals "check_rules" = some (some (.ref a7))) (l7 : K.lookup a7 = some ⟨oc7, od7, .func (PySem.W.fnOf "check_rules" "check_rules" (defArgs s7) (defBody s7) (defScope s7) .none kV7 dc7 pm7 an7 cd7 ct7), sl7⟩) (c7 : PySem.W.codeIn K cd7 "check_rules" = true) (k7 : PySem.W.keepIn K (.ref a7) = true) (g8 : PySem.W.nsIn K mainGlobals "check_both" = some (some (.ref a8))) (l8 : K.lookup a8 = some ⟨oc8, od8, .func (PySem.W.fnOf "check_both" "check_both" (defArgs s8) (defBody s8) (defScope s8) .none kV8 dc8 pm8 an8 cd8 ct8), sl8⟩) (c8 : PySem.W.codeIn K cd8 "check_both" = true) (k8 : PySem.W.keepIn K (.ref a8) = true) (g9 : PySem.W.nsIn K mainGlobals "is_group" = some (some (.ref a9))) (l9 : K.lookup a9 = some ⟨oc9, od9, .func (PySem.W.fnOf "is_group" "is_group" (defArgs s9) (defBody s9) (defScope s9) .none kV9 dc9 pm9 an9 cd9 ct9), sl9⟩) (c9 : PySem.W.codeIn K cd9 "is_group" = true) (k9 : PySem.W.keepIn K (.ref a9) = true) (g10 : PySem.W.nsIn K mainGlobals "check_group" = some (some (.ref a10))) (l10 : K.lookup a10 = some ⟨oc10, od10, .func (PySem.W.fnOf "check_group" "check_group" (defArgs s10) (defBody s10) (defScope s10) .none kV10 dc10 pm10 an10 cd10 ct10), sl10⟩) (c10 : PySem.W.codeIn K cd10 "check_group" = true) (k10 : PySem.W.keepIn K (.ref a10) = true) (g11 : PySem.W.nsIn K mainGlobals "taken" = some (some (.ref a11))) (l11 : K.lookup a11 = some ⟨oc11, od11, .func (PySem.W.fnOf "taken" "taken" (defArgs s11) (defBody s11) (defScope s11) .none kV11 dc11 pm11 an11 cd11 ct11), sl11⟩) (c11 : PySem.W.codeIn K cd11 "taken" = true) (k11 : PySem.W.keepIn K (.ref a11) = true) (g12 : PySem.W.nsIn K mainGlobals "values_for" = some (some (.ref a12))) (l12 : K.lookup a12 = some ⟨oc12, od12, .func (PySem.W.fnOf "values_for" "values_for" (defArgs s12) (defBody s12) (defScope s12) .none kV12 dc12 pm12 an12 cd12 ct12), sl12⟩) (c12 : PySem.W.codeIn K cd12 "values_for" = true) (k12 : PySem.W.keepIn K (.ref a12) = true) (g13 : PySem.W.nsIn K mainGlobals "values_of" = some (some (.ref a13))) (l13 : K.lookup a13 = some ⟨oc13, od13, .func (PySem.W.fnOf "values_of" "values_of" (defArgs s13) (defBody s13) (defScope s13) .none kV13 dc13 pm13 an13 cd13 ct13), sl13⟩) (c13 : PySem.W.codeIn K cd13 "values_of" = true) (k13 : PySem.W.keepIn K (.ref a13) = true) (g14 : PySem.W.nsIn K mainGlobals "do_agree" = some (some (.ref a14))) (l14 : K.lookup a14 = some ⟨oc14, od14, .func (PySem.W.fnOf "do_agree" "do_agree" (defArgs s14) (defBody s14) (defScope s14) .none kV14 dc14 pm14 an14 cd14 ct14), sl14⟩) (c14 : PySem.W.codeIn K cd14 "do_agree" = true) (k14 : PySem.W.keepIn K (.ref a14) = true) (g15 : PySem.W.nsIn K mainGlobals "keys_for" = some (some (.ref a15))) (l15 : K.lookup a15 = some ⟨oc15, od15, .func (PySem.W.fnOf "keys_for" "keys_for" (defArgs s15) (defBody s15) (defScope s15) .none kV15 dc15 pm15 an15 cd15 ct15), sl15⟩) (c15 : PySem.W.codeIn K cd15 "keys_for" = true) (k15 : PySem.W.keepIn K (.ref a15) = true) (g16 : PySem.W.nsIn K mainGlobals "matching_keys" = some (some (.ref a16))) (l16 : K.lookup a16 = some ⟨oc16, od16, .func (PySem.W.fnOf "matching_keys" "matching_keys" (defArgs s16) (defBody s16) (defScope s16) .none kV16 dc16 pm16 an16 cd16 ct16), sl16⟩) (c16 : PySem.W.codeIn K cd16 "matching_keys" = true) (k16 : PySem.W.keepIn K (.ref a16) = true) (g17 : PySem.W.nsIn K mainGlobals "_law_draw" = some (some (.ref a17))) (l17 : K.lookup a17 = some ⟨oc17, od17, .func (PySem.W.fnOf "_law_draw" "_law_draw" (defArgs s17) (defBody s17) (defScope s17) .none kV17 dc17 pm17 an17 cd17 ct17), sl17⟩) (c17 : PySem.W.codeIn K cd17 "_law_draw" = true) (k17 : PySem.W.keepIn K (.ref a17) = true) (g18 : PySem.W.nsIn K mainGlobals "_law_begun" = some (some (.ref a18))) (l18 : K.lookup a18 = some ⟨oc18, od18, .func (PySem.W.fnOf "_law_begun" "_law_begun" (defArgs s18) (defBody s18) (defScope s18) .none kV18 dc18 pm18 an18 cd18 ct18), sl18⟩) (c18 : PySem.W.codeIn K cd18 "_law_begun" = true) (k18 : PySem.W.keepIn K (.ref a18) = true) (g104 : PySem.W.nsIn K mainGlobals "_law_rules" = some (some (.ref a104))) (l104 : K.lookup a104 = some ⟨oc104, od104, .func (PySem.W.fnOf "_law_rules" "_law_rules" (defArgs s104) (defBody s104) (defScope s104) .none kV104 dc104 pm104 an104 cd104 ct104), sl104⟩) (c104 : PySem.W.codeIn K cd104 "_law_rules" = true) (k104 : PySem.W.keepIn K (.ref a104) = true) (g20 : PySem.W.nsIn K mainGlobals "_law_records" = some (some (.ref a20))) (l20 : K.lookup a20 = some ⟨oc20, od20, .func (PySem.W.fnOf "_law_records" "_law_records" (defArgs s20) (defBody s20) (defScope s20) .none kV20 dc20 pm20 an20 cd20 ct20), sl20⟩) (c20 : PySem.W.codeIn K cd20 "_law_records" = true) (k20 : PySem.W.keepIn K (.ref a20) = true) (g105 : PySem.W.nsIn K mainGlobals "_law_values" = some (some (.ref a105))) (l105 : K.lookup a105 = some ⟨oc105, od105, .func (PySem.W.fnOf "_law_values" "_law_values" (defArgs s105) (defBody s105) (defScope s105) .none kV105 dc105 pm105 an105 cd105 ct105), sl105⟩) (c105 : PySem.W.codeIn K cd105 "_law_values" = true) (k105 : PySem.W.keepIn K (.ref a105) = true) (g106 : PySem.W.nsIn K mainGlobals "_law_keys" = some (some (.ref a106))) (l106 : K.lookup a106 = some ⟨oc106, od106, .func (PySem.W.fnOf "_law_keys" "_law_keys" (defArgs s106) (defBody s106) (defScope s106) .none kV106 dc106 pm106 an106 cd106 ct106), sl106⟩) (c106 : PySem.W.codeIn K cd106 "_law_keys" = true) (k106 : PySem.W.keepIn K (.ref a106) = true) (g107 : PySem.W.nsIn K mainGlobals "law" = some (some (.ref a107))) (l107 : K.lookup a107 = some ⟨oc107, od107, .func (PySem.W.fnOf "law" "law" (defArgs s107) (defBody s107) (defScope s107) .none kV107 dc107 pm107 an107 (.ref cc107) ct107), sl107⟩) (c107 : PySem.W.codeIn K (.ref cc107) "law" = true) (k107 : PySem.W.keepIn K (.ref a107) = true) (hc107 : K.lookup cc107 = some ⟨.type "code", hd107, .fields vs107, hs107⟩) (ho107 : hdOk cc107 vs107 Pt107) (hp107 : K.lookup Pt107 = none) (rq107 : ((recsOf qq).any fun e => e.name == ("law" : Str)) = true) (m0 : PySem.W.nsIn K mainGlobals "TAKES" = some (some (.ref ga0))) (n0 : K.lookup ga0 = some ⟨.type "tuple", gd0, .seq (List.toArray [.str "all" gt0_0, .str "first" gt0_1, .str "last" gt0_2]) gn0, gs0⟩) (m1 : PySem.W.nsIn K mainGlobals "MOST" = some (some (.int 6 tk1))) (x0 : PySem.W.nsIn K mainGlobals "RecordError" = some (some (.ref e0))) (y0 : PySem.W.excIn K e0 [.type "ValueError", .type "Exception", .type "BaseException", .type "object"] "ValueError.__new__" = true) (z0 : PySem.W.keepIn K (.ref e0) = true) (u0 : PySem.W.subIn K (.ref e0) (.type "BaseException") = some true) (v0 : PySem.W.typeIn K (.ref e0) = some (.type "type")) (x1 : PySem.W.nsIn K mainGlobals "InvalidRecords" = some (some (.ref e1))) (y1 : PySem.W.excIn K e1 [.type "ValueError", .type "Exception", .type "BaseException", .type "object"] "ValueError.__new__" = true) (z1 : PySem.W.keepIn K (.ref e1) = true) (u1 : PySem.W.subIn K (.ref e1) (.type "BaseException") = some true) (v1 : PySem.W.typeIn K (.ref e1) = some (.type "type")) (x2 : PySem.W.nsIn K mainGlobals "InvalidRules" = some (some (.ref e2))) (y2 : PySem.W.excIn K e2 [.type "ValueError", .type "Exception", .type "BaseException", .type "object"] "ValueError.__new__" = true) (z2 : PySem.W.keepIn K (.ref e2) = true) (u2 : PySem.W.subIn K (.ref e2) (.type "BaseException") = some true) (v2 : PySem.W.typeIn K (.ref e2) = some (.type "type")) (x3 : PySem.W.nsIn K mainGlobals "InvalidGroup" = some (some (.ref e3))) (y3 : PySem.W.excIn K e3 [.type "ValueError", .type "Exception", .type "BaseException", .type "object"] "ValueError.__new__" = true) (z3 : PySem.W.keepIn K (.ref e3) = true) (u3 : PySem.W.subIn K (.ref e3) (.type "BaseException") = some true) (v3 : PySem.W.typeIn K (.ref e3) = some (.type "type")) (x4 : PySem.W.nsIn K mainGlobals "InvalidRun" = some (some (.ref e4))) (y4 : PySem.W.excIn K e4 [.type "ValueError", .type "Exception", .type "BaseException", .type "object"] "ValueError.__new__" = true) (z4 : PySem.W.keepIn K (.ref e4) = true) (u4 : PySem.W.subIn K (.ref e4) (.type "BaseException") = some true) (v4 : PySem.W.typeIn K (.ref e4) = some (.type "type")) (x5 : PySem.W.nsIn K mainGlobals "InvalidPartition" = some (some (.ref e5))) (y5 : PySem.W.excIn K e5 [.type "ValueError", .type "Exception", .type "BaseException", .type "object"] "ValueError.__new__" = true) (z5 : PySem.W.keepIn K (.ref e5) = true) (u5 : PySem.W.subIn K (.ref e5) (.type "BaseException") = some true) (v5 : PySem.W.typeIn K (.ref e5) = some (.type "type")) (x6 : PySem.W.nsIn K mainGlobals "InvalidNumber" = some (some (.ref e6))) (y6 : PySem.W.excIn K e6 [.type "ValueError", .type "Exception", .type "BaseException", .type "object"] "ValueError.__new__" = true) (z6 : PySem.W.keepIn K (.ref e6) = true) (u6 : PySem.W.subIn K (.ref e6) (.type "BaseException") = some true) (v6 : PySem.W.typeIn K (.ref e6) = some (.type "type")) (x7 : PySem.W.nsIn K mainGlobals "InvalidRecord" = some (some (.ref e7))) (y7 : PySem.W.excIn K e7 [.type "ValueError", .type "Exception", .type "BaseException", .type "object"] "ValueError.__new__" = true) (z7 : PySem.W.keepIn K (.ref e7) = true) (u7 : PySem.W.subIn K (.ref e7) (.type "BaseException") = some true) (v7 : PySem.W.typeIn K (.ref e7) = some (.type "type")) (x8 : PySem.W.nsIn K mainGlobals "InvalidText" = some (some (.ref e8))) (y8 : PySem.W.excIn K e8 [.type "ValueError", .type "Exception", .type "BaseException", .type "object"] "ValueError.__new__" = true) (z8 : PySem.W.keepIn K (.ref e8) = true) (u8 : PySem.W.subIn K (.ref e8) (.type "BaseException") = some true) (v8 : PySem.W.typeIn K (.ref e8) = some (.type "type")) (x9 : PySem.W.nsIn K mainGlobals "NoMatch" = some (some (.ref e9))) (y9 : PySem.W.excIn K e9 [.type "ValueError", .type "Exception", .type "BaseException", .type "object"] "ValueError.__new__" = true) (z9 : PySem.W.keepIn K (.ref e9) = true) (u9 : PySem.W.subIn K (.ref e9) (.type "BaseException") = some true) (v9 : PySem.W.typeIn K (.ref e9) = some (.type "type")) (x10 : PySem.W.nsIn K mainGlobals "TooMany" = some (some (.ref e10))) (y10 : PySem.W.excIn K e10 [.type "ValueError", .type "Exception", .type "BaseException", .type "object"] "ValueError.__new__" = true) (z10 : PySem.W.keepIn K (.ref e10) = true) (u10 : PySem.W.subIn K (.ref e10) (.type "BaseException") = some true) (v10 : PySem.W.typeIn K (.ref e10) = some (.type "type")) (x11 : PySem.W.nsIn K mainGlobals "Alone" = some (some (.ref e11))) (y11 : PySem.W.excIn K e11 [.type "ValueError", .type "Exception", .type "BaseException", .type "object"] "ValueError.__new__" = true) (z11 : PySem.W.keepIn K (.ref e11) = true) (u11 : PySem.W.subIn K (.ref e11) (.type "BaseException") = some true) (v11 : PySem.W.typeIn K (.ref e11) = some (.type "type")) (x12 : PySem.W.nsIn K mainGlobals "NothingToUndo" = some (some (.ref e12))) (y12 : PySem.W.excIn K e12 [.type "ValueError", .type "Exception", .type "BaseException", .type "object"] "ValueError.__new__" = true) (z12 : PySem.W.keepIn K (.ref e12) = true) (u12 : PySem.W.subIn K (.ref e12) (.type "BaseException") = some true) (v12 : PySem.W.typeIn K (.ref e12) = some (.type "type")) (b0 : PySem.W.nsIn K mainGlobals "len" = some none) (b1 : PySem.W.nsIn K mainGlobals "all" = some none) (b2 : PySem.W.nsIn K mainGlobals "any" = some none) (b3 : PySem.W.nsIn K mainGlobals "sorted" = some none) (b4 : PySem.W.nsIn K mainGlobals "tuple" = some none) (b5 : PySem.W.nsIn K mainGlobals "list" = some none) (b6 : PySem.W.nsIn K mainGlobals "isinstance" = some none) (b7 : PySem.W.nsIn K mainGlobals "set" = some none) (b8 : PySem.W.nsIn K mainGlobals "range" = some none) (b9 : PySem.W.nsIn K mainGlobals "enumerate" = some none) (b10 : PySem.W.nsIn K mainGlobals "zip" = some none) (b11 : PySem.W.nsIn K mainGlobals "int" = some none) (b12 : PySem.W.nsIn K mainGlobals "bool" = some none) (b13 : PySem.W.nsIn K mainGlobals "str" = some none) (gR : PySem.W.nsIn K mainGlobals "_law_result" = some (some (.ref aR))) (lR : K.lookup aR = some ⟨ocR, odR, .func (PySem.W.fnOf "_law_result" "_law_result" (defArgs sR) (defBody sR) (defScope sR) .none kVR dcR pmR anR cdR ctR), slR⟩) (cR : PySem.W.codeIn K cdR "_law_result" = true) (kR : PySem.W.keepIn K (.ref aR) = true) (bV : PySem.W.nsIn K mainGlobals "ValueError" = some none) (hnR : PySem.W.specialIn K (.builtin "object.__class__") "__get__" = some (some (.builtin "getset_descriptor.__get__"))) (htR : PySem.W.takesIn K (.builtin "object.__class__") = some true) (xa1 : PySem.W.findIn K (.ref e1) "__getattribute__" = some (some (.builtin "BaseException.__getattribute__"))) (xb1 : PySem.W.findIn K (.ref e1) "__getattr__" = some none) (xd1 : PySem.W.hasDictIn K e1 = true) (xe1 : PySem.W.findIn K (.ref e1) "__class__" = some (some (.builtin "object.__class__"))) (xm1 : PySem.W.mroIn K e1 (.type "object") = some true) (xt1 : PySem.W.exmOne K (.ref e1) (.ref e0) = some true) (xv1 : PySem.W.kitOne K (.ref e1) (.type "ValueError") = some true) (xi1_1 : PySem.W.kitOne K (.ref e1) (.ref e1) = some true) (xi1_2 : PySem.W.kitOne K (.ref e1) (.ref e2) = some false) (xi1_3 : PySem.W.kitOne K (.ref e1) (.ref e3) = some false) (xi1_4 : PySem.W.kitOne K (.ref e1) (.ref e4) = some false) (xi1_5 : PySem.W.kitOne K (.ref e1) (.ref e5) = some false) (xi1_6 : PySem.W.kitOne K (.ref e1) (.ref e6) = some false) (xi1_7 : PySem.W.kitOne K (.ref e1) (.ref e7) = some false) (xi1_8 : PySem.W.kitOne K (.ref e1) (.ref e8) = some false) (xi1_9 : PySem.W.kitOne K (.ref e1) (.ref e9) = some false) (xi1_10 : PySem.W.kitOne K (.ref e1) (.ref e10) = some false) (xi1_11 : PySem.W.kitOne K (.ref e1) (.ref e11) = some false) (xi1_12 : PySem.W.kitOne K (.ref e1) (.ref e12) = some false) (xa2 : PySem.W.findIn K (.ref e2) "__getattribute__" = some (some (.builtin "BaseException.__getattribute__"))) (xb2 : PySem.W.findIn K (.ref e2) "__getattr__" = some none) (xd2 : PySem.W.hasDictIn K e2 = true) (xe2 : PySem.W.findIn K (.ref e2) "__class__" = some (some (.builtin "object.__class__"))) (xm2 : PySem.W.mroIn K e2 (.type "object") = some true) (xt2 : PySem.W.exmOne K (.ref e2) (.ref e0) = some true) (xv2 : PySem.W.kitOne K (.ref e2) (.type "ValueError") = some true) (xi2_1 : PySem.W.kitOne K (.ref e2) (.ref e1) = some false) (xi2_2 : PySem.W.kitOne K (.ref e2) (.ref e2) = some true) (xi2_3 : PySem.W.kitOne K (.ref e2) (.ref e3) = some false) (xi2_4 : PySem.W.kitOne K (.ref e2) (.ref e4) = some false) (xi2_5 : PySem.W.kitOne K (.ref e2) (.ref e5) = some false) (xi2_6 : PySem.W.kitOne K (.ref e2) (.ref e6) = some false) (xi2_7 : PySem.W.kitOne K (.ref e2) (.ref e7) = some false) (xi2_8 : PySem.W.kitOne K (.ref e2) (.ref e8) = some false) (xi2_9 : PySem.W.kitOne K (.ref e2) (.ref e9) = some false) (xi2_10 : PySem.W.kitOne K (.ref e2) (.ref e10) = some false) (xi2_11 : PySem.W.kitOne K (.ref e2) (.ref e11) = some false) (xi2_12 : PySem.W.kitOne K (.ref e2) (.ref e12) = some false) (xa3 : PySem.W.findIn K (.ref e3) "__getattribute__" = some (some (.builtin "BaseException.__getattribute__"))) (xb3 : PySem.W.findIn K (.ref e3) "__getattr__" = some none) (xd3 : PySem.W.hasDictIn K e3 = true) (xe3 : PySem.W.findIn K (.ref e3) "__class__" = some (some (.builtin "object.__class__"))) (xm3 : PySem.W.mroIn K e3 (.type "object") = some true) (xt3 : PySem.W.exmOne K (.ref e3) (.ref e0) = some true) (xv3 : PySem.W.kitOne K (.ref e3) (.type "ValueError") = some true) (xi3_1 : PySem.W.kitOne K (.ref e3) (.ref e1) = some false) (xi3_2 : PySem.W.kitOne K (.ref e3) (.ref e2) = some false) (xi3_3 : PySem.W.kitOne K (.ref e3) (.ref e3) = some true) (xi3_4 : PySem.W.kitOne K (.ref e3) (.ref e4) = some false) (xi3_5 : PySem.W.kitOne K (.ref e3) (.ref e5) = some false) (xi3_6 : PySem.W.kitOne K (.ref e3) (.ref e6) = some false) (xi3_7 : PySem.W.kitOne K (.ref e3) (.ref e7) = some false) (xi3_8 : PySem.W.kitOne K (.ref e3) (.ref e8) = some false) (xi3_9 : PySem.W.kitOne K (.ref e3) (.ref e9) = some false) (xi3_10 : PySem.W.kitOne K (.ref e3) (.ref e10) = some false) (xi3_11 : PySem.W.kitOne K (.ref e3) (.ref e11) = some false) (xi3_12 : PySem.W.kitOne K (.ref e3) (.ref e12) = some false) (xa4 : PySem.W.findIn K (.ref e4) "__getattribute__" = some (some (.builtin "BaseException.__getattribute__"))) (xb4 : PySem.W.findIn K (.ref e4) "__getattr__" = some none) (xd4 : PySem.W.hasDictIn K e4 = true) (xe4 : PySem.W.findIn K (.ref e4) "__class__" = some (some (.builtin "object.__class__"))) (xm4 : PySem.W.mroIn K e4 (.type "object") = some true) (xt4 : PySem.W.exmOne K (.ref e4) (.ref e0) = some true) (xv4 : PySem.W.kitOne K (.ref e4) (.type "ValueError") = some true) (xi4_1 : PySem.W.kitOne K (.ref e4) (.ref e1) = some false) (xi4_2 : PySem.W.kitOne K (.ref e4) (.ref e2) = some false) (xi4_3 : PySem.W.kitOne K (.ref e4) (.ref e3) = some false) (xi4_4 : PySem.W.kitOne K (.ref e4) (.ref e4) = some true) (xi4_5 : PySem.W.kitOne K (.ref e4) (.ref e5) = some false) (xi4_6 : PySem.W.kitOne K (.ref e4) (.ref e6) = some false) (xi4_7 : PySem.W.kitOne K (.ref e4) (.ref e7) = some false) (xi4_8 : PySem.W.kitOne K (.ref e4) (.ref e8) = some false) (xi4_9 : PySem.W.kitOne K (.ref e4) (.ref e9) = some false) (xi4_10 : PySem.W.kitOne K (.ref e4) (.ref e10) = some false) (xi4_11 : PySem.W.kitOne K (.ref e4) (.ref e11) = some false) (xi4_12 : PySem.W.kitOne K (.ref e4) (.ref e12) = some false) (xa5 : PySem.W.findIn K (.ref e5) "__getattribute__" = some (some (.builtin "BaseException.__getattribute__"))) (xb5 : PySem.W.findIn K (.ref e5) "__getattr__" = some none) (xd5 : PySem.W.hasDictIn K e5 = true) (xe5 : PySem.W.findIn K (.ref e5) "__class__" = some (some (.builtin "object.__class__"))) (xm5 : PySem.W.mroIn K e5 (.type "object") = some true) (xt5 : PySem.W.exmOne K (.ref e5) (.ref e0) = some true) (xv5 : PySem.W.kitOne K (.ref e5) (.type "ValueError") = some true) (xi5_1 : PySem.W.kitOne K (.ref e5) (.ref e1) = some false) (xi5_2 : PySem.W.kitOne K (.ref e5) (.ref e2) = some false) (xi5_3 : PySem.W.kitOne K (.ref e5) (.ref e3) = some false) (xi5_4 : PySem.W.kitOne K (.ref e5) (.ref e4) = some false) (xi5_5 : PySem.W.kitOne K (.ref e5) (.ref e5) = some true) (xi5_6 : PySem.W.kitOne K (.ref e5) (.ref e6) = some false) (xi5_7 : PySem.W.kitOne K (.ref e5) (.ref e7) = some false) (xi5_8 : PySem.W.kitOne K (.ref e5) (.ref e8) = some false) (xi5_9 : PySem.W.kitOne K (.ref e5) (.ref e9) = some false) (xi5_10 : PySem.W.kitOne K (.ref e5) (.ref e10) = some false) (xi5_11 : PySem.W.kitOne K (.ref e5) (.ref e11) = some false) (xi5_12 : PySem.W.kitOne K (.ref e5) (.ref e12) = some false) (xa6 : PySem.W.findIn K (.ref e6) "__getattribute__" = some (some (.builtin "BaseException.__getattribute__"))) (xb6 : PySem.W.findIn K (.ref e6) "__getattr__" = some none) (xd6 : PySem.W.hasDictIn K e6 = true) (xe6 : PySem.W.findIn K (.ref e6) "__class__" = some (some (.builtin "object.__class__"))) (xm6 : PySem.W.mroIn K e6 (.type "object") = some true) (xt6 : PySem.W.exmOne K (.ref e6) (.ref e0) = some true) (xv6 : PySem.W.kitOne K (.ref e6) (.type "ValueError") = some true) (xi6_1 : PySem.W.kitOne K (.ref e6) (.ref e1) = some false) (xi6_2 : PySem.W.kitOne K (.ref e6) (.ref e2) = some false) (xi6_3 : PySem.W.kitOne K (.ref e6) (.ref e3) = some false) (xi6_4 : PySem.W.kitOne K (.ref e6) (.ref e4) = some false) (xi6_5 : PySem.W.kitOne K (.ref e6) (.ref e5) = some false) (xi6_6 : PySem.W.kitOne K (.ref e6) (.ref e6) = some true) (xi6_7 : PySem.W.kitOne K (.ref e6) (.ref e7) = some false) (xi6_8 : PySem.W.kitOne K (.ref e6) (.ref e8) = some false) (xi6_9 : PySem.W.kitOne K (.ref e6) (.ref e9) = some false) (xi6_10 : PySem.W.kitOne K (.ref e6) (.ref e10) = some false) (xi6_11 : PySem.W.kitOne K (.ref e6) (.ref e11) = some false) (xi6_12 : PySem.W.kitOne K (.ref e6) (.ref e12) = some false) (xa7 : PySem.W.findIn K (.ref e7) "__getattribute__" = some (some (.builtin "BaseException.__getattribute__"))) (xb7 : PySem.W.findIn K (.ref e7) "__getattr__" = some none) (xd7 : PySem.W.hasDictIn K e7 = true) (xe7 : PySem.W.findIn K (.ref e7) "__class__" = some (some (.builtin "object.__class__"))) (xm7 : PySem.W.mroIn K e7 (.type "object") = some true) (xt7 : PySem.W.exmOne K (.ref e7) (.ref e0) = some true) (xv7 : PySem.W.kitOne K (.ref e7) (.type "ValueError") = some true) (xi7_1 : PySem.W.kitOne K (.ref e7) (.ref e1) = some false) (xi7_2 : PySem.W.kitOne K (.ref e7) (.ref e2) = some false) (xi7_3 : PySem.W.kitOne K (.ref e7) (.ref e3) = some false) (xi7_4 : PySem.W.kitOne K (.ref e7) (.ref e4) = some false) (xi7_5 : PySem.W.kitOne K (.ref e7) (.ref e5) = some false) (xi7_6 : PySem.W.kitOne K (.ref e7) (.ref e6) = some false) (xi7_7 : PySem.W.kitOne K (.ref e7) (.ref e7) = some true) (xi7_8 : PySem.W.kitOne K (.ref e7) (.ref e8) = some false) (xi7_9 : PySem.W.kitOne K (.ref e7) (.ref e9) = some false) (xi7_10 : PySem.W.kitOne K (.ref e7) (.ref e10) = some false) (xi7_11 : PySem.W.kitOne K (.ref e7) (.ref e11) = some false) (xi7_12 : PySem.W.kitOne K (.ref e7) (.ref e12) = some false) (xa8 : PySem.W.findIn K (.ref e8) "__getattribute__" = some (some (.builtin "BaseException.__getattribute__"))) (xb8 : PySem.W.findIn K (.ref e8) "__getattr__" = some none) (xd8 : PySem.W.hasDictIn K e8 = true) (xe8 : PySem.W.findIn K (.ref e8) "__class__" = some (some (.builtin "object.__class__"))) (xm8 : PySem.W.mroIn K e8 (.type "object") = some true) (xt8 : PySem.W.exmOne K (.ref e8) (.ref e0) = some true) (xv8 : PySem.W.kitOne K (.ref e8) (.type "ValueError") = some true) (xi8_1 : PySem.W.kitOne K (.ref e8) (.ref e1) = some false) (xi8_2 : PySem.W.kitOne K (.ref e8) (.ref e2) = some false) (xi8_3 : PySem.W.kitOne K (.ref e8) (.ref e3) = some false) (xi8_4 : PySem.W.kitOne K (.ref e8) (.ref e4) = some false) (xi8_5 : PySem.W.kitOne K (.ref e8) (.ref e5) = some false) (xi8_6 : PySem.W.kitOne K (.ref e8) (.ref e6) = some false) (xi8_7 : PySem.W.kitOne K (.ref e8) (.ref e7) = some false) (xi8_8 : PySem.W.kitOne K (.ref e8) (.ref e8) = some true) (xi8_9 : PySem.W.kitOne K (.ref e8) (.ref e9) = some false) (xi8_10 : PySem.W.kitOne K (.ref e8) (.ref e10) = some false) (xi8_11 : PySem.W.kitOne K (.ref e8) (.ref e11) = some false) (xi8_12 : PySem.W.kitOne K (.ref e8) (.ref e12) = some false) (xa9 : PySem.W.findIn K (.ref e9) "__getattribute__" = some (some (.builtin "BaseException.__getattribute__"))) (xb9 : PySem.W.findIn K (.ref e9) "__getattr__" = some none) (xd9 : PySem.W.hasDictIn K e9 = true) (xe9 : PySem.W.findIn K (.ref e9) "__class__" = some (some (.builtin "object.__class__"))) (xm9 : PySem.W.mroIn K e9 (.type "object") = some true) (xt9 : PySem.W.exmOne K (.ref e9) (.ref e0) = some true) (xv9 : PySem.W.kitOne K (.ref e9) (.type "ValueError") = some true) (xi9_1 : PySem.W.kitOne K (.ref e9) (.ref e1) = some false) (xi9_2 : PySem.W.kitOne K (.ref e9) (.ref e2) = some false) (xi9_3 : PySem.W.kitOne K (.ref e9) (.ref e3) = some false) (xi9_4 : PySem.W.kitOne K (.ref e9) (.ref e4) = some false) (xi9_5 : PySem.W.kitOne K (.ref e9) (.ref e5) = some false) (xi9_6 : PySem.W.kitOne K (.ref e9) (.ref e6) = some false) (xi9_7 : PySem.W.kitOne K (.ref e9) (.ref e7) = some false) (xi9_8 : PySem.W.kitOne K (.ref e9) (.ref e8) = some false) (xi9_9 : PySem.W.kitOne K (.ref e9) (.ref e9) = some true) (xi9_10 : PySem.W.kitOne K (.ref e9) (.ref e10) = some false) (xi9_11 : PySem.W.kitOne K (.ref e9) (.ref e11) = some false) (xi9_12 : PySem.W.kitOne K (.ref e9) (.ref e12) = some false) (xa10 : PySem.W.findIn K (.ref e10) "__getattribute__" = some (some (.builtin "BaseException.__getattribute__"))) (xb10 : PySem.W.findIn K (.ref e10) "__getattr__" = some none) (xd10 : PySem.W.hasDictIn K e10 = true) (xe10 : PySem.W.findIn K (.ref e10) "__class__" = some (some (.builtin "object.__class__"))) (xm10 : PySem.W.mroIn K e10 (.type "object") = some true) (xt10 : PySem.W.exmOne K (.ref e10) (.ref e0) = some true) (xv10 : PySem.W.kitOne K (.ref e10) (.type "ValueError") = some true) (xi10_1 : PySem.W.kitOne K (.ref e10) (.ref e1) = some false) (xi10_2 : PySem.W.kitOne K (.ref e10) (.ref e2) = some false) (xi10_3 : PySem.W.kitOne K (.ref e10) (.ref e3) = some false) (xi10_4 : PySem.W.kitOne K (.ref e10) (.ref e4) = some false) (xi10_5 : PySem.W.kitOne K (.ref e10) (.ref e5) = some false) (xi10_6 : PySem.W.kitOne K (.ref e10) (.ref e6) = some false) (xi10_7 : PySem.W.kitOne K (.ref e10) (.ref e7) = some false) (xi10_8 : PySem.W.kitOne K (.ref e10) (.ref e8) = some false) (xi10_9 : PySem.W.kitOne K (.ref e10) (.ref e9) = some false) (xi10_10 : PySem.W.kitOne K (.ref e10) (.ref e10) = some true) (xi10_11 : PySem.W.kitOne K (.ref e10) (.ref e11) = some false) (xi10_12 : PySem.W.kitOne K (.ref e10) (.ref e12) = some false) (xa11 : PySem.W.findIn K (.ref e11) "__getattribute__" = some (some (.builtin "BaseException.__getattribute__"))) (xb11 : PySem.W.findIn K (.ref e11) "__getattr__" = some none) (xd11 : PySem.W.hasDictIn K e11 = true) (xe11 : PySem.W.findIn K (.ref e11) "__class__" = some (some (.builtin "object.__class__"))) (xm11 : PySem.W.mroIn K e11 (.type "object") = some true) (xt11 : PySem.W.exmOne K (.ref e11) (.ref e0) = some true) (xv11 : PySem.W.kitOne K (.ref e11) (.type "ValueError") = some true) (xi11_1 : PySem.W.kitOne K (.ref e11) (.ref e1) = some false) (xi11_2 : PySem.W.kitOne K (.ref e11) (.ref e2) = some false) (xi11_3 : PySem.W.kitOne K (.ref e11) (.ref e3) = some false) (xi11_4 : PySem.W.kitOne K (.ref e11) (.ref e4) = some false) (xi11_5 : PySem.W.kitOne K (.ref e11) (.ref e5) = some false) (xi11_6 : PySem.W.kitOne K (.ref e11) (.ref e6) = some false) (xi11_7 : PySem.W.kitOne K (.ref e11) (.ref e7) = some false) (xi11_8 : PySem.W.kitOne K (.ref e11) (.ref e8) = some false) (xi11_9 : PySem.W.kitOne K (.ref e11) (.ref e9) = some false) (xi11_10 : PySem.W.kitOne K (.ref e11) (.ref e10) = some false) (xi11_11 : PySem.W.kitOne K (.ref e11) (.ref e11) = some true) (xi11_12 : PySem.W.kitOne K (.ref e11) (.ref e12) = some false) (xa12 : PySem.W.findIn K (.ref e12) "__getattribute__" = some (some (.builtin "BaseException.__getattribute__"))) (xb12 : PySem.W.findIn K (.ref e12) "__getattr__" = some none) (xd12 : PySem.W.hasDictIn K e12 = true) (xe12 : PySem.W.findIn K (.ref e12) "__class__" = some (some (.builtin "object.__class__"))) (xm12 : PySem.W.mroIn K e12 (.type "object") = some true) (xt12 : PySem.W.exmOne K (.ref e12) (.ref e0) = some true) (xv12 : PySem.W.kitOne K (.ref e12) (.type "ValueError") = some true) (xi12_1 : PySem.W.kitOne K (.ref e12) (.ref e1) = some false) (xi12_2 : PySem.W.kitOne K (.ref e12) (.ref e2) = some false) (xi12_3 : PySem.W.kitOne K (.ref e12) (.ref e3) = some false) (xi12_4 : PySem.W.kitOne K (.ref e12) (.ref e4) = some false) (xi12_5 : PySem.W.kitOne K (.ref e12) (.ref e5) = some false) (xi12_6 : PySem.W.kitOne K (.ref e12) (.ref e6) = some false) (xi12_7 : PySem.W.kitOne K (.ref e12) (.ref e7) = some false) (xi12_8 : PySem.W.kitOne K (.ref e12) (.ref e8) = some false) (xi12_9 : PySem.W.kitOne K (.ref e12) (.ref e9) = some false) (xi12_10 : PySem.W.kitOne K (.ref e12) (.ref e10) = some false) (xi12_11 : PySem.W.kitOne K (.ref e12) (.ref e11) = some false) (xi12_12 : PySem.W.kitOne K (.ref e12) (.ref e12) = some true) :
    LamX.LawAtS l w K (L2.CX l.prog w) 30 63 "script" mg fa h := by
  letI : Fns := ⟨([(Pt107, ("law" : Str) ++ ".<locals>." ++ "<lambda>")] : List (Addr × Str)), ([(cc107, Pt107)] : List (Addr × Addr)), fun _ => none⟩
  obtain rfl : a107 = fa := Value.ref.inj (Option.some.inj ((PySem.W.mg_of X Gx g107).symm.trans hfa))
  have st0 : Stat (cx [e0, e1, e2, e3, e4, e5, e6, e7, e8, e9, e10, e11, e12]) K mg := stat_mk X Gx m0 n0 m1 x0 y0 z0 u0 v0 x1 y1 z1 u1 v1 x2 y2 z2 u2 v2 x3 y3 z3 u3 v3 x4 y4 z4 u4 v4 x5 y5 z5 u5 v5 x6 y6 z6 u6 v6 x7 y7 z7 u7 v7 x8 y8 z8 u8 v8 x9 y9 z9 u9 v9 x10 y10 z10 u10 v10 x11 y11 z11 u11 v11 x12 y12 z12 u12 v12 b0 b1 b2 b3 b4 b5 b6 b7 b8 b9 b10 b11 b12 b13 (fun _ => res_mk X Gx x0 y0 z0 u0 v0 x1 y1 z1 u1 v1 x2 y2 z2 u2 v2 x3 y3 z3 u3 v3 x4 y4 z4 u4 v4 x5 y5 z5 u5 v5 x6 y6 z6 u6 v6 x7 y7 z7 u7 v7 x8 y8 z8 u8 v8 x9 y9 z9 u9 v9 x10 y10 z10 u10 v10 x11 y11 z11 u11 v11 x12 y12 z12 u12 v12 b6 b0 gR lR cR kR bV hnR htR xa1 xb1 xd1 xe1 xm1 xt1 xv1 xi1_1 xi1_2 xi1_3 xi1_4 xi1_5 xi1_6 xi1_7 xi1_8 xi1_9 xi1_10 xi1_11 xi1_12 xa2 xb2 xd2 xe2 xm2 xt2 xv2 xi2_1 xi2_2 xi2_3 xi2_4 xi2_5 xi2_6 xi2_7 xi2_8 xi2_9 xi2_10 xi2_11 xi2_12 xa3 xb3 xd3 xe3 xm3 xt3 xv3 xi3_1 xi3_2 xi3_3 xi3_4 xi3_5 xi3_6 xi3_7 xi3_8 xi3_9 xi3_10 xi3_11 xi3_12 xa4 xb4 xd4 xe4 xm4 xt4 xv4 xi4_1 xi4_2 xi4_3 xi4_4 xi4_5 xi4_6 xi4_7 xi4_8 xi4_9 xi4_10 xi4_11 xi4_12 xa5 xb5 xd5 xe5 xm5 xt5 xv5 xi5_1 xi5_2 xi5_3 xi5_4 xi5_5 xi5_6 xi5_7 xi5_8 xi5_9 xi5_10 xi5_11 xi5_12 xa6 xb6 xd6 xe6 xm6 xt6 xv6 xi6_1 xi6_2 xi6_3 xi6_4 xi6_5 xi6_6 xi6_7 xi6_8 xi6_9 xi6_10 xi6_11 xi6_12 xa7 xb7 xd7 xe7 xm7 xt7 xv7 xi7_1 xi7_2 xi7_3 xi7_4 xi7_5 xi7_6 xi7_7 xi7_8 xi7_9 xi7_10 xi7_11 xi7_12 xa8 xb8 xd8 xe8 xm8 xt8 xv8 xi8_1 xi8_2 xi8_3 xi8_4 xi8_5 xi8_6 xi8_7 xi8_8 xi8_9 xi8_10 xi8_11 xi8_12 xa9 xb9 xd9 xe9 xm9 xt9 xv9 xi9_1 xi9_2 xi9_3 xi9_4 xi9_5 xi9_6 xi9_7 xi9_8 xi9_9 xi9_10 xi9_11 xi9_12 xa10 xb10 xd10 xe10 xm10 xt10 xv10 xi10_1 xi10_2 xi10_3 xi10_4 xi10_5 xi10_6 xi10_7 xi10_8 xi10_9 xi10_10 xi10_11 xi10_12 xa11 xb11 xd11 xe11 xm11 xt11 xv11 xi11_1 xi11_2 xi11_3 xi11_4 xi11_5 xi11_6 xi11_7 xi11_8 xi11_9 xi11_10 xi11_11 xi11_12 xa12 xb12 xd12 xe12 xm12 xt12 xv12 xi12_1 xi12_2 xi12_3 xi12_4 xi12_5 xi12_6 xi12_7 xi12_8 xi12_9 xi12_10 xi12_11 xi12_12) (fun _ _ z => by cases z) (fun z => by cases z)
  have F0 := fun_mk (st := s0) l0 c0 k0
  have w0 : KwOk (cx [e0, e1, e2, e3, e4, e5, e6, e7, e8, e9, e10, e11, e12]) K 0 (PySem.W.fnOf "is_between" "is_between" (defArgs s0) (defBody s0) (defScope s0) .none kV0 dc0 pm0 an0 cd0 ct0) P0 := fun n ks hk => by simp [cx, Gn] at hk
  have d0 : DefOk (cx [e0, e1, e2, e3, e4, e5, e6, e7, e8, e9, e10, e11, e12]) K mg 0 f0 "is_between" := ⟨⟨a0, _, P0, N0, s0, false, rfl, rfl, PySem.W.mg_of X Gx g0, F0, ⟨F0.binds (ps := P0) (fun _ _ _ _ _ _ us hl => match us, hl with | [_, _, _], _ => rfl), w0⟩, sc0, tr0, (fun z => by cases z)⟩⟩
  have F1 := fun_mk (st := s1) l1 c1 k1
  have w1 : KwOk (cx [e0, e1, e2, e3, e4, e5, e6, e7, e8, e9, e10, e11, e12]) K 1 (PySem.W.fnOf "is_ascending" "is_ascending" (defArgs s1) (defBody s1) (defScope s1) .none kV1 dc1 pm1 an1 cd1 ct1) P1 := fun n ks hk => by simp [cx, Gn] at hk
  have d1 : DefOk (cx [e0, e1, e2, e3, e4, e5, e6, e7, e8, e9, e10, e11, e12]) K mg 1 f1 "is_ascending" := ⟨⟨a1, _, P1, N1, s1, false, rfl, rfl, PySem.W.mg_of X Gx g1, F1, ⟨F1.binds (ps := P1) (fun _ _ _ _ _ _ us hl => match us, hl with | [_], _ => rfl), w1⟩, sc1, tr1, (fun z => by cases z)⟩⟩
  have F2 := fun_mk (st := s2) l2 c2 k2
  have w2 : KwOk (cx [e0, e1, e2, e3, e4, e5, e6, e7, e8, e9, e10, e11, e12]) K 2 (PySem.W.fnOf "is_record" "is_record" (defArgs s2) (defBody s2) (defScope s2) .none kV2 dc2 pm2 an2 cd2 ct2) P2 := fun n ks hk => by simp [cx, Gn] at hk
  have d2 : DefOk (cx [e0, e1, e2, e3, e4, e5, e6, e7, e8, e9, e10, e11, e12]) K mg 2 f2 "is_record" := ⟨⟨a2, _, P2, N2, s2, false, rfl, rfl, PySem.W.mg_of X Gx g2, F2, ⟨F2.binds (ps := P2) (fun _ _ _ _ _ _ us hl => match us, hl with | [_, _], _ => rfl), w2⟩, sc2, tr2, (fun z => by cases z)⟩⟩
  have F3 := fun_mk (st := s3) l3 c3 k3
  have w3 : KwOk (cx [e0, e1, e2, e3, e4, e5, e6, e7, e8, e9, e10, e11, e12]) K 3 (PySem.W.fnOf "is_records" "is_records" (defArgs s3) (defBody s3) (defScope s3) .none kV3 dc3 pm3 an3 cd3 ct3) P3 := fun n ks hk => by simp [cx, Gn] at hk
  have d3 : DefOk (cx [e0, e1, e2, e3, e4, e5, e6, e7, e8, e9, e10, e11, e12]) K mg 3 f3 "is_records" := ⟨⟨a3, _, P3, N3, s3, false, rfl, rfl, PySem.W.mg_of X Gx g3, F3, ⟨F3.binds (ps := P3) (fun _ _ _ _ _ _ us hl => match us, hl with | [_], _ => rfl), w3⟩, sc3, tr3, (fun z => by cases z)⟩⟩
  have F4 := fun_mk (st := s4) l4 c4 k4
  have w4 : KwOk (cx [e0, e1, e2, e3, e4, e5, e6, e7, e8, e9, e10, e11, e12]) K 4 (PySem.W.fnOf "is_key" "is_key" (defArgs s4) (defBody s4) (defScope s4) .none kV4 dc4 pm4 an4 cd4 ct4) P4 := fun n ks hk => by simp [cx, Gn] at hk
  have d4 : DefOk (cx [e0, e1, e2, e3, e4, e5, e6, e7, e8, e9, e10, e11, e12]) K mg 4 f4 "is_key" := ⟨⟨a4, _, P4, N4, s4, false, rfl, rfl, PySem.W.mg_of X Gx g4, F4, ⟨F4.binds (ps := P4) (fun _ _ _ _ _ _ us hl => match us, hl with | [_, _], _ => rfl), w4⟩, sc4, tr4, (fun z => by cases z)⟩⟩
  have F5 := fun_mk (st := s5) l5 c5 k5
  have w5 : KwOk (cx [e0, e1, e2, e3, e4, e5, e6, e7, e8, e9, e10, e11, e12]) K 5 (PySem.W.fnOf "is_rules" "is_rules" (defArgs s5) (defBody s5) (defScope s5) .none kV5 dc5 pm5 an5 cd5 ct5) P5 := fun n ks hk => by simp [cx, Gn] at hk
  have d5 : DefOk (cx [e0, e1, e2, e3, e4, e5, e6, e7, e8, e9, e10, e11, e12]) K mg 5 f5 "is_rules" := ⟨⟨a5, _, P5, N5, s5, false, rfl, rfl, PySem.W.mg_of X Gx g5, F5, ⟨F5.binds (ps := P5) (fun _ _ _ _ _ _ us hl => match us, hl with | [_], _ => rfl), w5⟩, sc5, tr5, (fun z => by cases z)⟩⟩
  have F6 := fun_mk (st := s6) l6 c6 k6
  have w6 : KwOk (cx [e0, e1, e2, e3, e4, e5, e6, e7, e8, e9, e10, e11, e12]) K 6 (PySem.W.fnOf "check_records" "check_records" (defArgs s6) (defBody s6) (defScope s6) .none kV6 dc6 pm6 an6 cd6 ct6) P6 := fun n ks hk => by simp [cx, Gn] at hk
  have d6 : DefOk (cx [e0, e1, e2, e3, e4, e5, e6, e7, e8, e9, e10, e11, e12]) K mg 6 f6 "check_records" := ⟨⟨a6, _, P6, N6, s6, false, rfl, rfl, PySem.W.mg_of X Gx g6, F6, ⟨F6.binds (ps := P6) (fun _ _ _ _ _ _ us hl => match us, hl with | [_], _ => rfl), w6⟩, sc6, tr6, (fun z => by cases z)⟩⟩
  have F7 := fun_mk (st := s7) l7 c7 k7
  have w7 : KwOk (cx [e0, e1, e2, e3, e4, e5, e6, e7, e8, e9, e10, e11, e12]) K 7 (PySem.W.fnOf "check_rules" "check_rules" (defArgs s7) (defBody s7) (defScope s7) .none kV7 dc7 pm7 an7 cd7 ct7) P7 := fun n ks hk => by simp [cx, Gn] at hk
  have d7 : DefOk (cx [e0, e1, e2, e3, e4, e5, e6, e7, e8, e9, e10, e11, e12]) K mg 7 f7 "check_rules" := ⟨⟨a7, _, P7, N7, s7, false, rfl, rfl, PySem.W.mg_of X Gx g7, F7, ⟨F7.binds (ps := P7) (fun _ _ _ _ _ _ us hl => match us, hl with | [_], _ => rfl), w7⟩, sc7, tr7, (fun z => by cases z)⟩⟩
  have F8 := fun_mk (st := s8) l8 c8 k8
  have w8 : KwOk (cx [e0, e1, e2, e3, e4, e5, e6, e7, e8, e9, e10, e11, e12]) K 8 (PySem.W.fnOf "check_both" "check_both" (defArgs s8) (defBody s8) (defScope s8) .none kV8 dc8 pm8 an8 cd8 ct8) P8 := fun n ks hk => by simp [cx, Gn] at hk
  have d8 : DefOk (cx [e0, e1, e2, e3, e4, e5, e6, e7, e8, e9, e10, e11, e12]) K mg 8 f8 "check_both" := ⟨⟨a8, _, P8, N8, s8, false, rfl, rfl, PySem.W.mg_of X Gx g8, F8, ⟨F8.binds (ps := P8) (fun _ _ _ _ _ _ us hl => match us, hl with | [_, _], _ => rfl), w8⟩, sc8, tr8, (fun z => by cases z)⟩⟩
  have F9 := fun_mk (st := s9) l9 c9 k9
  have w9 : KwOk (cx [e0, e1, e2, e3, e4, e5, e6, e7, e8, e9, e10, e11, e12]) K 9 (PySem.W.fnOf "is_group" "is_group" (defArgs s9) (defBody s9) (defScope s9) .none kV9 dc9 pm9 an9 cd9 ct9) P9 := fun n ks hk => by simp [cx, Gn] at hk
  have d9 : DefOk (cx [e0, e1, e2, e3, e4, e5, e6, e7, e8, e9, e10, e11, e12]) K mg 9 f9 "is_group" := ⟨⟨a9, _, P9, N9, s9, false, rfl, rfl, PySem.W.mg_of X Gx g9, F9, ⟨F9.binds (ps := P9) (fun _ _ _ _ _ _ us hl => match us, hl with | [_, _], _ => rfl), w9⟩, sc9, tr9, (fun z => by cases z)⟩⟩
  have F10 := fun_mk (st := s10) l10 c10 k10
  have w10 : KwOk (cx [e0, e1, e2, e3, e4, e5, e6, e7, e8, e9, e10, e11, e12]) K 10 (PySem.W.fnOf "check_group" "check_group" (defArgs s10) (defBody s10) (defScope s10) .none kV10 dc10 pm10 an10 cd10 ct10) P10 := fun n ks hk => by simp [cx, Gn] at hk
  have d10 : DefOk (cx [e0, e1, e2, e3, e4, e5, e6, e7, e8, e9, e10, e11, e12]) K mg 10 f10 "check_group" := ⟨⟨a10, _, P10, N10, s10, false, rfl, rfl, PySem.W.mg_of X Gx g10, F10, ⟨F10.binds (ps := P10) (fun _ _ _ _ _ _ us hl => match us, hl with | [_, _], _ => rfl), w10⟩, sc10, tr10, (fun z => by cases z)⟩⟩
  have F11 := fun_mk (st := s11) l11 c11 k11
  have w11 : KwOk (cx [e0, e1, e2, e3, e4, e5, e6, e7, e8, e9, e10, e11, e12]) K 11 (PySem.W.fnOf "taken" "taken" (defArgs s11) (defBody s11) (defScope s11) .none kV11 dc11 pm11 an11 cd11 ct11) P11 := fun n ks hk => by simp [cx, Gn] at hk
  have d11 : DefOk (cx [e0, e1, e2, e3, e4, e5, e6, e7, e8, e9, e10, e11, e12]) K mg 11 f11 "taken" := ⟨⟨a11, _, P11, N11, s11, false, rfl, rfl, PySem.W.mg_of X Gx g11, F11, ⟨F11.binds (ps := P11) (fun _ _ _ _ _ _ us hl => match us, hl with | [_, _, _, _], _ => rfl), w11⟩, sc11, tr11, (fun z => by cases z)⟩⟩
  have F12 := fun_mk (st := s12) l12 c12 k12
  have w12 : KwOk (cx [e0, e1, e2, e3, e4, e5, e6, e7, e8, e9, e10, e11, e12]) K 12 (PySem.W.fnOf "values_for" "values_for" (defArgs s12) (defBody s12) (defScope s12) .none kV12 dc12 pm12 an12 cd12 ct12) P12 := fun n ks hk => by simp [cx, Gn] at hk
  have d12 : DefOk (cx [e0, e1, e2, e3, e4, e5, e6, e7, e8, e9, e10, e11, e12]) K mg 12 f12 "values_for" := ⟨⟨a12, _, P12, N12, s12, false, rfl, rfl, PySem.W.mg_of X Gx g12, F12, ⟨F12.binds (ps := P12) (fun _ _ _ _ _ _ us hl => match us, hl with | [_, _, _], _ => rfl), w12⟩, sc12, tr12, (fun z => by cases z)⟩⟩
  have F13 := fun_mk (st := s13) l13 c13 k13
  have w13 : KwOk (cx [e0, e1, e2, e3, e4, e5, e6, e7, e8, e9, e10, e11, e12]) K 13 (PySem.W.fnOf "values_of" "values_of" (defArgs s13) (defBody s13) (defScope s13) .none kV13 dc13 pm13 an13 cd13 ct13) P13 := fun n ks hk => by
    simp only [cx, Gn, List.contains_cons, List.contains_nil, Bool.or_eq_true, beq_iff_eq, Prod.mk.injEq, Bool.or_false, Nat.reduceEqDiff, false_and, false_or, or_false, true_and, reduceCtorEq] at hk
    rcases hk with ⟨rfl, rfl⟩
    · exact ⟨fun s us ws _ h1 h2 => match us, ws, h1, h2 with | [], [_, _, _], _, _ => .of_eq rfl, fun r1 r2 => r1.append r2⟩
  have d13 : DefOk (cx [e0, e1, e2, e3, e4, e5, e6, e7, e8, e9, e10, e11, e12]) K mg 13 f13 "values_of" := ⟨⟨a13, _, P13, N13, s13, false, rfl, rfl, PySem.W.mg_of X Gx g13, F13, ⟨F13.binds (ps := P13) (fun _ _ _ _ _ _ us hl => match us, hl with | [_, _, _], _ => rfl), w13⟩, sc13, tr13, (fun z => by cases z)⟩⟩
  have F14 := fun_mk (st := s14) l14 c14 k14
  have w14 : KwOk (cx [e0, e1, e2, e3, e4, e5, e6, e7, e8, e9, e10, e11, e12]) K 14 (PySem.W.fnOf "do_agree" "do_agree" (defArgs s14) (defBody s14) (defScope s14) .none kV14 dc14 pm14 an14 cd14 ct14) P14 := fun n ks hk => by simp [cx, Gn] at hk
  have d14 : DefOk (cx [e0, e1, e2, e3, e4, e5, e6, e7, e8, e9, e10, e11, e12]) K mg 14 f14 "do_agree" := ⟨⟨a14, _, P14, N14, s14, false, rfl, rfl, PySem.W.mg_of X Gx g14, F14, ⟨F14.binds (ps := P14) (fun _ _ _ _ _ _ us hl => match us, hl with | [_, _, _], _ => rfl), w14⟩, sc14, tr14, (fun z => by cases z)⟩⟩
  have F15 := fun_mk (st := s15) l15 c15 k15
  have w15 : KwOk (cx [e0, e1, e2, e3, e4, e5, e6, e7, e8, e9, e10, e11, e12]) K 15 (PySem.W.fnOf "keys_for" "keys_for" (defArgs s15) (defBody s15) (defScope s15) .none kV15 dc15 pm15 an15 cd15 ct15) P15 := fun n ks hk => by simp [cx, Gn] at hk
  have d15 : DefOk (cx [e0, e1, e2, e3, e4, e5, e6, e7, e8, e9, e10, e11, e12]) K mg 15 f15 "keys_for" := ⟨⟨a15, _, P15, N15, s15, false, rfl, rfl, PySem.W.mg_of X Gx g15, F15, ⟨F15.binds (ps := P15) (fun _ _ _ _ _ _ us hl => match us, hl with | [_, _, _, _], _ => rfl), w15⟩, sc15, tr15, (fun z => by cases z)⟩⟩
  have F16 := fun_mk (st := s16) l16 c16 k16
  have w16 : KwOk (cx [e0, e1, e2, e3, e4, e5, e6, e7, e8, e9, e10, e11, e12]) K 16 (PySem.W.fnOf "matching_keys" "matching_keys" (defArgs s16) (defBody s16) (defScope s16) .none kV16 dc16 pm16 an16 cd16 ct16) P16 := fun n ks hk => by
    simp only [cx, Gn, List.contains_cons, List.contains_nil, Bool.or_eq_true, beq_iff_eq, Prod.mk.injEq, Bool.or_false, Nat.reduceEqDiff, false_and, false_or, or_false, true_and, reduceCtorEq] at hk
    rcases hk with ⟨rfl, rfl⟩
    · exact ⟨fun s us ws _ h1 h2 => match us, ws, h1, h2 with | [_, _], [_, _], _, _ => .of_eq rfl, fun r1 r2 => r1.append r2⟩
  have d16 : DefOk (cx [e0, e1, e2, e3, e4, e5, e6, e7, e8, e9, e10, e11, e12]) K mg 16 f16 "matching_keys" := ⟨⟨a16, _, P16, N16, s16, false, rfl, rfl, PySem.W.mg_of X Gx g16, F16, ⟨F16.binds (ps := P16) (fun _ _ _ _ _ _ us hl => match us, hl with | [_, _, _, _], _ => rfl), w16⟩, sc16, tr16, (fun z => by cases z)⟩⟩
  have F17 := fun_mk (st := s17) l17 c17 k17
  have w17 : KwOk (cx [e0, e1, e2, e3, e4, e5, e6, e7, e8, e9, e10, e11, e12]) K 17 (PySem.W.fnOf "_law_draw" "_law_draw" (defArgs s17) (defBody s17) (defScope s17) .none kV17 dc17 pm17 an17 cd17 ct17) P17 := fun n ks hk => by simp [cx, Gn] at hk
  have d17 : DefOk (cx [e0, e1, e2, e3, e4, e5, e6, e7, e8, e9, e10, e11, e12]) K mg 17 f17 "_law_draw" := ⟨⟨a17, _, P17, N17, s17, false, rfl, rfl, PySem.W.mg_of X Gx g17, F17, ⟨F17.binds (ps := P17) (fun _ _ _ _ _ _ us hl => match us, hl with | [_, _, _], _ => rfl), w17⟩, sc17, tr17, (fun z => by cases z)⟩⟩
  have F18 := fun_mk (st := s18) l18 c18 k18
  have w18 : KwOk (cx [e0, e1, e2, e3, e4, e5, e6, e7, e8, e9, e10, e11, e12]) K 18 (PySem.W.fnOf "_law_begun" "_law_begun" (defArgs s18) (defBody s18) (defScope s18) .none kV18 dc18 pm18 an18 cd18 ct18) P18 := fun n ks hk => by simp [cx, Gn] at hk
  have d18 : DefOk (cx [e0, e1, e2, e3, e4, e5, e6, e7, e8, e9, e10, e11, e12]) K mg 18 f18 "_law_begun" := ⟨⟨a18, _, P18, N18, s18, false, rfl, rfl, PySem.W.mg_of X Gx g18, F18, ⟨F18.binds (ps := P18) (fun _ _ _ _ _ _ us hl => match us, hl with | [], _ => rfl), w18⟩, sc18, tr18, (fun z => by cases z)⟩⟩
  have F104 := fun_mk (st := s104) l104 c104 k104
  have w104 : KwOk (cx [e0, e1, e2, e3, e4, e5, e6, e7, e8, e9, e10, e11, e12]) K 104 (PySem.W.fnOf "_law_rules" "_law_rules" (defArgs s104) (defBody s104) (defScope s104) .none kV104 dc104 pm104 an104 cd104 ct104) P104 := fun n ks hk => by simp [cx, Gn] at hk
  have d104 : DefOk (cx [e0, e1, e2, e3, e4, e5, e6, e7, e8, e9, e10, e11, e12]) K mg 104 f104 "_law_rules" := ⟨⟨a104, _, P104, N104, s104, false, rfl, rfl, PySem.W.mg_of X Gx g104, F104, ⟨F104.binds (ps := P104) (fun _ _ _ _ _ _ us hl => match us, hl with | [_, _, _], _ => rfl), w104⟩, sc104, tr104, (fun z => by cases z)⟩⟩
  have F20 := fun_mk (st := s20) l20 c20 k20
  have w20 : KwOk (cx [e0, e1, e2, e3, e4, e5, e6, e7, e8, e9, e10, e11, e12]) K 20 (PySem.W.fnOf "_law_records" "_law_records" (defArgs s20) (defBody s20) (defScope s20) .none kV20 dc20 pm20 an20 cd20 ct20) P20 := fun n ks hk => by simp [cx, Gn] at hk
  have d20 : DefOk (cx [e0, e1, e2, e3, e4, e5, e6, e7, e8, e9, e10, e11, e12]) K mg 20 f20 "_law_records" := ⟨⟨a20, _, P20, N20, s20, false, rfl, rfl, PySem.W.mg_of X Gx g20, F20, ⟨F20.binds (ps := P20) (fun _ _ _ _ _ _ us hl => match us, hl with | [_, _, _, _], _ => rfl), w20⟩, sc20, tr20, (fun z => by cases z)⟩⟩
  have F105 := fun_mk (st := s105) l105 c105 k105
  have w105 : KwOk (cx [e0, e1, e2, e3, e4, e5, e6, e7, e8, e9, e10, e11, e12]) K 105 (PySem.W.fnOf "_law_values" "_law_values" (defArgs s105) (defBody s105) (defScope s105) .none kV105 dc105 pm105 an105 cd105 ct105) P105 := fun n ks hk => by simp [cx, Gn] at hk
  have d105 : DefOk (cx [e0, e1, e2, e3, e4, e5, e6, e7, e8, e9, e10, e11, e12]) K mg 105 f105 "_law_values" := ⟨⟨a105, _, P105, N105, s105, false, rfl, rfl, PySem.W.mg_of X Gx g105, F105, ⟨F105.binds (ps := P105) (fun _ _ _ _ _ _ us hl => match us, hl with | [_, _, _], _ => rfl), w105⟩, sc105, tr105, (fun z => by cases z)⟩⟩
  have F106 := fun_mk (st := s106) l106 c106 k106
  have w106 : KwOk (cx [e0, e1, e2, e3, e4, e5, e6, e7, e8, e9, e10, e11, e12]) K 106 (PySem.W.fnOf "_law_keys" "_law_keys" (defArgs s106) (defBody s106) (defScope s106) .none kV106 dc106 pm106 an106 cd106 ct106) P106 := fun n ks hk => by simp [cx, Gn] at hk
  have d106 : DefOk (cx [e0, e1, e2, e3, e4, e5, e6, e7, e8, e9, e10, e11, e12]) K mg 106 f106 "_law_keys" := ⟨⟨a106, _, P106, N106, s106, false, rfl, rfl, PySem.W.mg_of X Gx g106, F106, ⟨F106.binds (ps := P106) (fun _ _ _ _ _ _ us hl => match us, hl with | [_, _, _, _], _ => rfl), w106⟩, sc106, tr106, (fun z => by cases z)⟩⟩
  have F107 := fun_mk (st := s107) l107 c107 k107
  have w107 : KwOk (cx [e0, e1, e2, e3, e4, e5, e6, e7, e8, e9, e10, e11, e12]) K 107 (PySem.W.fnOf "law" "law" (defArgs s107) (defBody s107) (defScope s107) .none kV107 dc107 pm107 an107 (.ref cc107) ct107) P107 := fun n ks hk => by simp [cx, Gn] at hk
  have mk107 : MakerOk (cx [e0, e1, e2, e3, e4, e5, e6, e7, e8, e9, e10, e11, e12]) (PySem.W.fnOf "law" "law" (defArgs s107) (defBody s107) (defScope s107) .none kV107 dc107 pm107 an107 (.ref cc107) ct107) "law" := ⟨rfl, cc107, Pt107, rfl, (by show (cc107, Pt107) ∈ ([(cc107, Pt107)] : List (Addr × Addr)); simp), (by show (Pt107, ("law" : Str) ++ ".<locals>." ++ "<lambda>") ∈ ([(Pt107, ("law" : Str) ++ ".<locals>." ++ "<lambda>")] : List (Addr × Str)); simp), fun p hp hq => (by
    have hp : p ∈ ([(Pt107, ("law" : Str) ++ ".<locals>." ++ "<lambda>")] : List (Addr × Str)) := hp
    simp only [List.mem_cons, List.not_mem_nil, or_false] at hp
    rcases hp with rfl
    · rfl)⟩
  have d107 : DefOk (cx [e0, e1, e2, e3, e4, e5, e6, e7, e8, e9, e10, e11, e12]) K mg 107 f107 "law" := ⟨⟨a107, _, P107, N107, s107, true, rfl, rfl, PySem.W.mg_of X Gx g107, F107, ⟨F107.binds (ps := P107) (fun _ _ _ _ _ _ us hl => match us, hl with | [_], _ => rfl), w107⟩, sc107, tr107, (fun _ => mk107)⟩⟩
  have hd : ∀ (f : Nat) (fn : G11.Fn) (x : Str), (cx [e0, e1, e2, e3, e4, e5, e6, e7, e8, e9, e10, e11, e12]).T f = some fn → (cx [e0, e1, e2, e3, e4, e5, e6, e7, e8, e9, e10, e11, e12]).F[f]? = some x → nmOk x = true → DefOk (cx [e0, e1, e2, e3, e4, e5, e6, e7, e8, e9, e10, e11, e12]) K mg f fn x := by
    intro f fn x h1 h2 h3
    have h1 : T f = some fn := h1
    unfold T at h1
    split at h1
    · cases h1; cases (Option.some.inj h2); exact d0
    · cases h1; cases (Option.some.inj h2); exact d1
    · cases h1; cases (Option.some.inj h2); exact d2
    · cases h1; cases (Option.some.inj h2); exact d3
    · cases h1; cases (Option.some.inj h2); exact d4
    · cases h1; cases (Option.some.inj h2); exact d5
    · cases h1; cases (Option.some.inj h2); exact d6
    · cases h1; cases (Option.some.inj h2); exact d7
    · cases h1; cases (Option.some.inj h2); exact d8
    · cases h1; cases (Option.some.inj h2); exact d9
    · cases h1; cases (Option.some.inj h2); exact d10
    · cases h1; cases (Option.some.inj h2); exact d11
    · cases h1; cases (Option.some.inj h2); exact d12
    · cases h1; cases (Option.some.inj h2); exact d13
    · cases h1; cases (Option.some.inj h2); exact d14
    · cases h1; cases (Option.some.inj h2); exact d15
    · cases h1; cases (Option.some.inj h2); exact d16
    · cases h1; cases (Option.some.inj h2); exact d17
    · cases h1; cases (Option.some.inj h2); exact d18
    · cases h1; cases (Option.some.inj h2); exact d104
    · cases h1; cases (Option.some.inj h2); exact d20
    · cases h1; cases (Option.some.inj h2); exact d105
    · cases h1; cases (Option.some.inj h2); exact d106
    · cases h1; cases (Option.some.inj h2); exact d107
    · cases h1
  have t1 : ∀ p ∈ Fns.cs, h.get? p.2 = some { cls := .none, data := .fields #[] } := fun p hp => by
    have hp : p ∈ ([(cc107, Pt107)] : List (Addr × Addr)) := hp
    simp only [List.mem_cons, List.not_mem_nil, or_false] at hp
    rcases hp with rfl
    · exact own _ rq107 _ (PySem.W.mg_of X Gx g107) cc107 Pt107 _ _ _ _ _ _ l107 rfl rfl hc107 ho107.1
  have t2 : ∀ p ∈ Fns.cs, K.lookup p.2 = none := fun p hp => by
    have hp : p ∈ ([(cc107, Pt107)] : List (Addr × Addr)) := hp
    simp only [List.mem_cons, List.not_mem_nil, or_false] at hp
    rcases hp with rfl
    · exact hp107
  have t3 : ∀ p ∈ Fns.cs, PySem.W.CodeHd h p.1 p.2 := fun p hp => by
    have hp : p ∈ ([(cc107, Pt107)] : List (Addr × Addr)) := hp
    simp only [List.mem_cons, List.not_mem_nil, or_false] at hp
    rcases hp with rfl
    · exact codeHd_of X hc107 ho107
  refine ⟨PySem.W.fnOf "law" "law" (defArgs s107) (defBody s107) (defScope s107) .none kV107 dc107 pm107 an107 (.ref cc107) ct107, Fns.cs, spEnd T G 30 107 K, t1, t2, t3, fun s v => .of_eq rfl, fun H a ns hl _ hT hS => end_sp hlaw H a ns hl (fun p hp => ?_) hS, fun base _ _ tb => ?_⟩
  · have hp : p ∈ ([(Pt107, ("law" : Str) ++ ".<locals>." ++ "<lambda>")] : List (Addr × Str)) := hp
    simp only [List.mem_cons, List.not_mem_nil, or_false] at hp
    rcases hp with rfl
    · exact LamX.TabS.nil (hT (cc107, Pt107) (by show (cc107, Pt107) ∈ ([(cc107, Pt107)] : List (Addr × Addr)); simp))
  · exact (def_ok (f := 107) st0 tb (tab_all st0 tb hd 29) rfl rfl rfl F107 sc107 tr107 (fun _ => mk107)).imp fun vs H Q E h => spEnd_imp (C := cx [e0, e1, e2, e3, e4, e5, e6, e7, e8, e9, e10, e11, e12]) h
end K02

/-! Lib1: a way to run the interpreter in proofs; what the pure defs answer -/
namespace G11

/-- the run answers, as P says -/
def Wp {α : Type} (r : R α) (P : α → Store → Prop) : Prop := ∃ a S, r = .ok a S ∧ P a S
theorem wp_ok {α : Type} {a : α} {S : Store} {P : α → Store → Prop} : Wp (.ok a S) P ↔ P a S := ⟨fun ⟨_, _, e, p⟩ => by cases e; exact p, fun p => ⟨a, S, rfl, p⟩⟩
theorem wp_bad {α : Type} {P : α → Store → Prop} : Wp (.bad) P ↔ False := ⟨fun ⟨_, _, e, _⟩ => (by cases e), False.elim⟩
theorem wp_exc {α : Type} {c : Nat} {S : Store} {P : α → Store → Prop} : Wp (.exc c S) P ↔ False := ⟨fun ⟨_, _, e, _⟩ => (by cases e), False.elim⟩
theorem wp_bind {α β : Type} {m : M α} {f : α → M β} {S : Store} {P : β → Store → Prop} : Wp (M.bind m f S) P ↔ Wp (m S) fun a S1 => Wp (f a S1) P := by
  constructor
  · rintro ⟨b, S2, e, p⟩
    unfold M.bind at e
    cases q : m S with
    | ok a S1 => rw [q] at e; exact ⟨a, S1, rfl, b, S2, e, p⟩
    | exc c S1 => rw [q] at e; cases e
    | bad => rw [q] at e; cases e
  · rintro ⟨a, S1, e, b, S2, e2, p⟩
    refine ⟨b, S2, ?_, p⟩
    unfold M.bind
    rw [e]; exact e2
theorem wp_pure {α : Type} {a : α} {S : Store} {P : α → Store → Prop} : Wp (M.pure a S) P ↔ P a S := wp_ok
theorem wp_mbad {α : Type} {S : Store} {P : α → Store → Prop} : Wp (M.bad S) P ↔ False := wp_bad
theorem wp_of {α : Type} {o : Option α} {S : Store} {P : α → Store → Prop} : Wp (M.of o S) P ↔ ∃ a, o = some a ∧ P a S := by
  cases o with
  | none => exact ⟨fun ⟨_, _, e, _⟩ => (by cases e), fun ⟨_, e, _⟩ => (by cases e)⟩
  | some a => exact ⟨fun h => ⟨a, rfl, wp_ok.mp h⟩, fun ⟨_, e, p⟩ => by cases e; exact wp_ok.mpr p⟩
theorem Wp.mono {α : Type} {r : R α} {P Q : α → Store → Prop} (h : Wp r P) (i : ∀ a S, P a S → Q a S) : Wp r Q := let ⟨a, S, e, p⟩ := h; ⟨a, S, e, i a S p⟩
/-- the answer itself -/
theorem Wp.eq {α : Type} {r : R α} {a : α} {S : Store} (h : Wp r fun b S' => b = a ∧ S' = S) : r = .ok a S := by
  obtain ⟨b, S', e, rfl, rfl⟩ := h; exact e
theorem wp_eq {α : Type} {r : R α} {a : α} {S : Store} (h : r = .ok a S) {P : α → Store → Prop} : Wp r P ↔ P a S := by rw [h]; exact wp_ok

/-- the statements, as a Wp -/
theorem wp_exs {Γ : Nat → List D → M D} {G : List D} {s : St} {ss : Sts} {env : EnvD} {S : Store} {P : Fl × EnvD → Store → Prop} : Wp (exs Γ G (.cons s ss) env S) P ↔ Wp (ex Γ G s env S) fun r S1 => match r with
    | (.nx, env') => Wp (exs Γ G ss env' S1) P
    | r => P r S1 := by
  constructor
  · rintro ⟨b, S2, e, p⟩
    simp only [exs] at e
    match q : ex Γ G s env S with
    | .ok (.nx, env') S1 => rw [q] at e; exact ⟨_, _, rfl, b, S2, e, p⟩
    | .ok (.ret d, env') S1 => rw [q] at e; cases e; exact ⟨_, _, rfl, p⟩
    | .ok (.cont, env') S1 => rw [q] at e; cases e; exact ⟨_, _, rfl, p⟩
    | .exc c S1 => rw [q] at e; cases e
    | .bad => rw [q] at e; cases e
  · rintro ⟨⟨f, env'⟩, S1, e, p⟩
    cases f with
    | nx =>
      obtain ⟨b, S2, e2, p⟩ := p
      refine ⟨b, S2, ?_, p⟩
      simp only [exs, e]; exact e2
    | ret d => exact ⟨_, _, by simp only [exs, e], p⟩
    | cont => exact ⟨_, _, by simp only [exs, e], p⟩
theorem wp_exs0 {Γ : Nat → List D → M D} {G : List D} {env : EnvD} {S : Store} {P : Fl × EnvD → Store → Prop} : Wp (exs Γ G .nil env S) P ↔ P (.nx, env) S := by
  simp only [exs]; exact wp_ok
/-- a def that keeps its own store -/
theorem call_pure {T : Nat → Option Fn} {G : List D} {k f : Nat} {fn : Fn} {ds : List D} {S : Store} {d : D} (h : T f = some fn) (hp : fn.pur = true) (hd : dats ds = true) (hl : ds.length = fn.pars)
    (hw : Wp (exs (callI T G k) G fn.body (startD fn.names ds) []) fun r S' => match r with
      | (.ret d', _) => freeze S' d' = some d
      | (.nx, _) => d = .non
      | (.cont, _) => False) : callI T G (k + 1) f ds S = .ok d S := by
  obtain ⟨⟨fl, env⟩, S', e, p⟩ := hw
  rw [callI_succ _ _ _ _ _ _ h]
  simp only [hp, if_true, hd]
  unfold runBody
  rw [if_pos hl, e]
  cases fl with
  | nx => simp only at p; subst p; simp only [freeze, dat]; rfl
  | ret d' => simp only at p ⊢; rw [p]
  | cont => exact p.elim
theorem call_own {T : Nat → Option Fn} {G : List D} {k f : Nat} {fn : Fn} {ds : List D} {S : Store} (h : T f = some fn) (hp : fn.pur = false) (hl : ds.length = fn.pars) {P : D → Store → Prop}
    (hw : Wp (exs (callI T G k) G fn.body (startD fn.names ds) S) fun r S' => match r with
      | (.ret d', _) => P d' S'
      | (.nx, _) => P .non S'
      | (.cont, _) => False) : Wp (callI T G (k + 1) f ds S) P := by
  obtain ⟨⟨fl, env⟩, S', e, p⟩ := hw
  rw [callI_succ _ _ _ _ _ _ h]
  simp only [hp, Bool.false_eq_true, if_false]
  unfold runBody
  rw [if_pos hl, e]
  cases fl with
  | nx => exact ⟨_, _, rfl, p⟩
  | ret d' => exact ⟨_, _, rfl, p⟩
  | cont => exact p.elim

/-- the constants TAKES, MOST -/
def sAll : List Nat := [97, 108, 108]
def sFirst : List Nat := [102, 105, 114, 115, 116]
def sLast : List Nat := [108, 97, 115, 116]
def GG : List D := [.tup [.str sAll, .str sFirst, .str sLast], .int 6]

/-- a comprehension that leaves the store alone -/
theorem lcM_pure {f : D → M (Option D)} {S : Store} {α : Type} {e : α → D} {g : α → Option D} : ∀ xs : List α, (∀ x ∈ xs, f (e x) S = .ok (g x) S) → lcM f (xs.map e) S = .ok (xs.filterMap g) S
  | [], _ => rfl
  | x :: xs, h => by
    simp only [List.map_cons, lcM, h x List.mem_cons_self, lcM_pure xs fun y hy => h y (List.mem_cons_of_mem _ hy), List.filterMap_cons]
    cases g x <;> rfl
theorem wp_lc {Γ : Nat → List D → M D} {G : List D} {own : List Nat} {tg : Tg} {sr : Sr} {cs : Es} {elt : E} {env : EnvD} {S : Store} {P : D → Store → Prop} {α : Type} (xs : List α) (e : α → D) (g : α → Option D)
    (h1 : Wp (evSr Γ G sr env S) fun ys S' => ys = xs.map e ∧ S' = S)
    (h2 : ∀ x ∈ xs, ∃ env', bindTg (wipeD env own) tg (e x) = some env' ∧ Wp (evC Γ G cs env' S) fun b S' => S' = S ∧ ((b = false ∧ g x = none) ∨ (b = true ∧ Wp (ev Γ G elt env' S) fun y S' => S' = S ∧ g x = some y)))
    (h3 : P (.lst (xs.filterMap g)) S) : Wp (ev Γ G (.lc own tg sr cs elt) env S) P := by
  have q1 := h1.eq
  simp only [ev]
  rw [wp_bind, wp_eq q1]
  have q2 : lcM (fun x => match bindTg (wipeD env own) tg x with
      | none => M.bad
      | some env' => M.bind (evC Γ G cs env') fun b => if b then M.bind (ev Γ G elt env') fun y => M.pure (some y) else M.pure none) (xs.map e) S = .ok (xs.filterMap g) S := by
    refine lcM_pure xs fun x hx => ?_
    obtain ⟨env', b1, b, S', b2, rfl, b3⟩ := h2 x hx
    simp only [b1, M.bind, b2]
    rcases b3 with ⟨rfl, b3⟩ | ⟨rfl, y, S2, b4, rfl, b5⟩
    · simp only [Bool.false_eq_true, if_false, b3]
    · simp only [if_true]; unfold M.bind; rw [b4, b5]
  refine ⟨_, S, ?_, h3⟩
  exact congrArg (fun r : R (List D) => match noExc r with
    | .ok ys S' => R.ok (D.lst ys) S'
    | .exc c S' => .exc c S'
    | .bad => .bad) q2
end G11

/-! Lib2: one equivalence a construct -/
namespace G11
section
variable {Γ : Nat → List D → M D} {G : List D} {env : EnvD} {S : Store} {P : D → Store → Prop}
def isNon : D → Bool
  | .non => true
  | _ => false
theorem w_var {i : Nat} : Wp (ev Γ G (.var i) env S) P ↔ ∃ d, env[i]? = some (some d) ∧ P d S := by
  simp only [ev]
  match q : env[i]? with
  | some (some d) => exact wp_ok.trans ⟨fun h => ⟨d, rfl, h⟩, fun ⟨_, e, h⟩ => by cases e; exact h⟩
  | some none => exact wp_bad.trans ⟨False.elim, fun ⟨_, e, _⟩ => by cases e⟩
  | none => exact wp_bad.trans ⟨False.elim, fun ⟨_, e, _⟩ => by cases e⟩
theorem w_glb {i : Nat} : Wp (ev Γ G (.glb i) env S) P ↔ ∃ d, G[i]? = some d ∧ P d S := by
  simp only [ev]
  match q : G[i]? with
  | some d => exact wp_ok.trans ⟨fun h => ⟨d, rfl, h⟩, fun ⟨_, e, h⟩ => by cases e; exact h⟩
  | none => exact wp_bad.trans ⟨False.elim, fun ⟨_, e, _⟩ => by cases e⟩
theorem w_non : Wp (ev Γ G .non env S) P ↔ P .non S := by simp only [ev]; exact wp_ok
theorem w_bl {b : Bool} : Wp (ev Γ G (.bl b) env S) P ↔ P (.bl b) S := by simp only [ev]; exact wp_ok
theorem w_int {i : Int} : Wp (ev Γ G (.int i) env S) P ↔ P (.int i) S := by simp only [ev]; exact wp_ok
theorem w_str {x : List Nat} : Wp (ev Γ G (.str x) env S) P ↔ P (.str x) S := by simp only [ev]; exact wp_ok
theorem w_es0 {Q : List D → Store → Prop} : Wp (evs Γ G .nil env S) Q ↔ Q [] S := by simp only [evs]; exact wp_ok
theorem w_es {e : E} {es : Es} {Q : List D → Store → Prop} : Wp (evs Γ G (.cons e es) env S) Q ↔ Wp (ev Γ G e env S) fun x S1 => Wp (evs Γ G es env S1) fun xs S2 => Q (x :: xs) S2 := by
  simp only [evs, wp_bind, wp_pure]
theorem wp_es_if {r : R (List D)} {f : List D → Store → R D} : Wp (match r with
    | .ok ds S' => f ds S'
    | .exc c S' => .exc c S'
    | .bad => .bad) P ↔ Wp r fun ds S' => Wp (f ds S') P := by
  cases r with
  | ok ds S' => simp only [wp_ok]
  | exc c S' => simp only [wp_exc]
  | bad => simp only [wp_bad]
theorem wp_ite_bad {c : Prop} [Decidable c] {r : R D} : Wp (if c then r else .bad) P ↔ c ∧ Wp r P := by
  by_cases h : c <;> simp [h, wp_bad]
theorem wp_congr {α : Type} {r : R α} {P Q : α → Store → Prop} (h : ∀ a S, P a S ↔ Q a S) : Wp r P ↔ Wp r Q := ⟨fun x => x.mono fun a S => (h a S).mp, fun x => x.mono fun a S => (h a S).mpr⟩
theorem ite_iff {c : Prop} [Decidable c] {p q p' q' : Prop} (h1 : p ↔ p') (h2 : q ↔ q') : (if c then p else q) ↔ (if c then p' else q') := by
  by_cases h : c <;> simp [h, h1, h2]
theorem w_tup {es : Es} : Wp (ev Γ G (.tup es) env S) P ↔ Wp (evs Γ G es env S) fun ds S1 => ds.length ≤ lim ∧ P (.tup ds) S1 := by
  simp only [ev]
  exact wp_es_if.trans (wp_congr fun ds S1 => wp_ite_bad.trans (and_congr Iff.rfl wp_ok))
theorem w_lst {es : Es} : Wp (ev Γ G (.lst es) env S) P ↔ Wp (evs Γ G es env S) fun ds S1 => ds.length ≤ lim ∧ P (.lst ds) S1 := by
  simp only [ev]
  exact wp_es_if.trans (wp_congr fun ds S1 => wp_ite_bad.trans (and_congr Iff.rfl wp_ok))
theorem w_newL {es : Es} : Wp (ev Γ G (.newL es) env S) P ↔ Wp (evs Γ G es env S) fun ds S1 => ds.length ≤ lim ∧ P (.ref S1.length) (S1 ++ [.lst ds]) := by
  simp only [ev]
  exact wp_es_if.trans (wp_congr fun ds S1 => wp_ite_bad.trans (and_congr Iff.rfl wp_ok))
theorem w_bin {op : Bop} {a b : E} : Wp (ev Γ G (.bin op a b) env S) P ↔ Wp (ev Γ G a env S) fun x S1 => Wp (ev Γ G b env S1) fun y S2 => ∃ z, doBin op x y = some z ∧ P z S2 := by
  simp only [ev, wp_bind, wp_of]
theorem wp_int {x : D} {f : Int → M D} : Wp ((match x with
    | .int i => f i
    | _ => M.bad) S) P ↔ ∃ i, x = .int i ∧ Wp (f i S) P := by
  cases x <;> simp [wp_mbad]
theorem wp_bl {α : Type} {x : D} {f : Bool → M α} {Q : α → Store → Prop} : Wp ((match x with
    | .bl b => f b
    | _ => M.bad) S) Q ↔ ∃ b, x = .bl b ∧ Wp (f b S) Q := by
  cases x <;> simp [wp_mbad]
theorem wp_tf {α : Type} {x : D} {f g : M α} {Q : α → Store → Prop} : Wp ((match x with
    | .bl true => f
    | .bl false => g
    | _ => M.bad) S) Q ↔ ∃ b, x = .bl b ∧ if b = true then Wp (f S) Q else Wp (g S) Q := by
  match x with
  | .bl true => simp
  | .bl false => simp
  | .non | .int _ | .str _ | .tup _ | .lst _ | .ref _ | .fn _ | .scl _ => simp [wp_mbad]
theorem wp_ft {α : Type} {x : D} {f g : M α} {Q : α → Store → Prop} : Wp ((match x with
    | .bl false => g
    | .bl true => f
    | _ => M.bad) S) Q ↔ ∃ b, x = .bl b ∧ if b = true then Wp (f S) Q else Wp (g S) Q := by
  match x with
  | .bl true => simp
  | .bl false => simp
  | .non | .int _ | .str _ | .tup _ | .lst _ | .ref _ | .fn _ | .scl _ => simp [wp_mbad]
theorem w_neg {a : E} : Wp (ev Γ G (.neg a) env S) P ↔ Wp (ev Γ G a env S) fun x S1 => ∃ i, x = .int i ∧ P (.int (-i)) S1 := by
  simp only [ev]
  exact wp_bind.trans (wp_congr fun x S1 => wp_int.trans (exists_congr fun i => and_congr Iff.rfl wp_pure))
theorem w_cmp {op : Cop} {a b : E} : Wp (ev Γ G (.cmp op a b) env S) P ↔ Wp (ev Γ G a env S) fun x S1 => Wp (ev Γ G b env S1) fun y S2 => Wp (doCmpS op x y S2) P := by
  simp only [ev, wp_bind]
theorem w_isN {a : E} : Wp (ev Γ G (.isN a) env S) P ↔ Wp (ev Γ G a env S) fun x S1 => P (.bl (isNon x)) S1 := by
  simp only [ev, wp_bind]
  refine ⟨fun h => h.mono fun x S1 h => ?_, fun h => h.mono fun x S1 h => ?_⟩ <;> cases x <;> first | exact wp_ok.mp h | exact wp_ok.mpr h
theorem w_notN {a : E} : Wp (ev Γ G (.notN a) env S) P ↔ Wp (ev Γ G a env S) fun x S1 => P (.bl (!isNon x)) S1 := by
  simp only [ev, wp_bind]
  refine ⟨fun h => h.mono fun x S1 h => ?_, fun h => h.mono fun x S1 h => ?_⟩ <;> cases x <;> first | exact wp_ok.mp h | exact wp_ok.mpr h
theorem w_chain {op op' : Cop} {a b c : E} : Wp (ev Γ G (.chain op op' a b c) env S) P ↔ Wp (ev Γ G a env S) fun x S1 => Wp (ev Γ G b env S1) fun y S2 => Wp (doCmpS op x y S2) fun r S3 => ∃ b, r = .bl b ∧
    if b = true then Wp (ev Γ G c env S3) fun z S4 => Wp (doCmpS op' y z S4) P else P (.bl false) S3 := by
  simp only [ev]
  exact wp_bind.trans (wp_congr fun x S1 => wp_bind.trans (wp_congr fun y S2 => wp_bind.trans (wp_congr fun r S3 => wp_tf.trans (exists_congr fun b => and_congr Iff.rfl (ite_iff wp_bind wp_pure)))))
theorem w_not {a : E} : Wp (ev Γ G (.not a) env S) P ↔ Wp (ev Γ G a env S) fun x S1 => ∃ b, x = .bl b ∧ P (.bl (!b)) S1 := by
  simp only [ev]
  exact wp_bind.trans (wp_congr fun x S1 => wp_bl.trans (exists_congr fun i => and_congr Iff.rfl wp_pure))
theorem w_and {es : Es} : Wp (ev Γ G (.and es) env S) P ↔ Wp (evAnd Γ G es env S) P := by simp only [ev]
theorem w_or {es : Es} : Wp (ev Γ G (.or es) env S) P ↔ Wp (evOr Γ G es env S) P := by simp only [ev]
theorem w_and1 {e : E} : Wp (evAnd Γ G (.cons e .nil) env S) P ↔ Wp (ev Γ G e env S) fun x S1 => ∃ b, x = .bl b ∧ P (.bl b) S1 := by
  simp only [evAnd]
  exact wp_bind.trans (wp_congr fun x S1 => wp_bl.trans (exists_congr fun i => and_congr Iff.rfl wp_pure))
theorem w_or1 {e : E} : Wp (evOr Γ G (.cons e .nil) env S) P ↔ Wp (ev Γ G e env S) fun x S1 => ∃ b, x = .bl b ∧ P (.bl b) S1 := by
  simp only [evOr]
  exact wp_bind.trans (wp_congr fun x S1 => wp_bl.trans (exists_congr fun i => and_congr Iff.rfl wp_pure))
theorem w_and2 {e e' : E} {es : Es} : Wp (evAnd Γ G (.cons e (.cons e' es)) env S) P ↔ Wp (ev Γ G e env S) fun x S1 => ∃ b, x = .bl b ∧ if b = true then Wp (evAnd Γ G (.cons e' es) env S1) P else P (.bl false) S1 := by
  simp only [evAnd]
  exact wp_bind.trans (wp_congr fun x S1 => wp_tf.trans (exists_congr fun b => and_congr Iff.rfl (ite_iff Iff.rfl wp_pure)))
theorem w_or2 {e e' : E} {es : Es} : Wp (evOr Γ G (.cons e (.cons e' es)) env S) P ↔ Wp (ev Γ G e env S) fun x S1 => ∃ b, x = .bl b ∧ if b = true then P (.bl true) S1 else Wp (evOr Γ G (.cons e' es) env S1) P := by
  simp only [evOr]
  exact wp_bind.trans (wp_congr fun x S1 => wp_ft.trans (exists_congr fun b => and_congr Iff.rfl (ite_iff wp_pure Iff.rfl)))
theorem w_ife {c a b : E} : Wp (ev Γ G (.ife c a b) env S) P ↔ Wp (ev Γ G c env S) fun x S1 => ∃ t, x = .bl t ∧ if t = true then Wp (ev Γ G a env S1) P else Wp (ev Γ G b env S1) P := by
  simp only [ev]
  exact wp_bind.trans (wp_congr fun x S1 => wp_tf)
theorem w_ifL {i : Nat} {a b : E} : Wp (ev Γ G (.ifL i a b) env S) P ↔ ∃ ns, env[i]? = some (some (.scl ns)) ∧ if ns.isEmpty = true then Wp (ev Γ G b env S) P else Wp (ev Γ G a env S) P := by
  simp only [ev]
  match q : env[i]? with
  | some (some (.scl ns)) =>
    simp only [Option.some.injEq, D.scl.injEq, exists_eq_left']
    cases ns <;> simp
  | some (some .non) | some (some (.bl _)) | some (some (.int _)) | some (some (.str _)) | some (some (.tup _)) | some (some (.lst _)) | some (some (.ref _)) | some (some (.fn _)) | some none | none => simp [wp_bad]
theorem w_idx {a i : E} : Wp (ev Γ G (.idx a i) env S) P ↔ Wp (ev Γ G a env S) fun x S1 => Wp (ev Γ G i env S1) fun y S2 => Wp (doIdx x y S2) P := by
  simp only [ev, wp_bind]
theorem w_sl {a : E} {lo hi : Oe} : Wp (ev Γ G (.sl a lo hi) env S) P ↔ Wp (ev Γ G a env S) fun x S1 => Wp (evO Γ G lo env S1) fun l S2 => Wp (evO Γ G hi env S2) fun h S3 => ∃ z, doSl x l h = some z ∧ P z S3 := by
  simp only [ev, wp_bind, wp_of]
theorem w_o0 {Q : Option Int → Store → Prop} : Wp (evO Γ G .no env S) Q ↔ Q none S := by simp only [evO]; exact wp_ok
theorem w_o1 {e : E} {Q : Option Int → Store → Prop} : Wp (evO Γ G (.some e) env S) Q ↔ Wp (ev Γ G e env S) fun x S1 => ∃ i, x = .int i ∧ Q (some i) S1 := by
  simp only [evO, wp_bind]
  refine ⟨fun h => h.mono fun x S1 h => ?_, fun h => h.mono fun x S1 h => ?_⟩
  · cases x <;> first | exact ⟨_, rfl, wp_ok.mp h⟩ | exact (wp_bad.mp h).elim
  · obtain ⟨i, rfl, h⟩ := h; exact wp_ok.mpr h
theorem w_call {f : Nat} {es : Es} : Wp (ev Γ G (.call f es) env S) P ↔ Wp (evs Γ G es env S) fun ds S1 => Wp (Γ f ds S1) P := by
  simp only [ev, wp_bind]
theorem w_bi {b : Bi} {e : E} : Wp (ev Γ G (.bi b e) env S) P ↔ Wp (ev Γ G e env S) fun x S1 => Wp (doBi b x S1) P := by
  simp only [ev, wp_bind]
theorem w_sset {e : E} : Wp (ev Γ G (.sset e) env S) P ↔ Wp (ev Γ G e env S) fun x S1 => Wp (doSset x S1) P := by
  simp only [ev, wp_bind]
theorem w_meth {m : Mt} {o : E} {es : Es} : Wp (ev Γ G (.meth m o es) env S) P ↔ Wp (ev Γ G o env S) fun x S1 => mtOk m x S1 = true ∧ Wp (evs Γ G es env S1) fun ds S2 => Wp (doMeth m x ds S2) P := by
  simp only [ev]
  exact wp_bind.trans (wp_congr fun x S1 => wp_ite_bad.trans (and_congr Iff.rfl wp_bind))
theorem w_tupR {sr : Sr} : Wp (ev Γ G (.tupR sr) env S) P ↔ Wp (evSr Γ G sr env S) fun xs S1 => P (.tup xs) S1 := by
  simp only [ev, wp_bind, wp_pure]
theorem w_lstR {sr : Sr} : Wp (ev Γ G (.lstR sr) env S) P ↔ Wp (evSr Γ G sr env S) fun xs S1 => P (.lst xs) S1 := by
  simp only [ev, wp_bind, wp_pure]
end
end G11

/-! Lib3: sources, statements, operations -/
namespace G11
section
variable {Γ : Nat → List D → M D} {G : List D} {env : EnvD} {S : Store} {Q : List D → Store → Prop}
theorem sr_val' {e : E} : (Wp (ev Γ G e env S) fun x S1 => ∃ xs, seqD x = some xs ∧ Q xs S1) → Wp (evSr Γ G (.val e) env S) Q := fun h => by
  simp only [evSr]
  refine wp_bind.mpr (h.mono fun x S1 h => ?_)
  obtain ⟨xs, e, h⟩ := h
  exact wp_of.mpr ⟨_, e, h⟩
theorem sr_rng' {e : E} : (Wp (ev Γ G e env S) fun x S1 => ∃ n : Int, x = .int n ∧ -1000000 ≤ n ∧ n ≤ 1000000 ∧ Q (rangeD 0 n.toNat) S1) → Wp (evSr Γ G (.rng e) env S) Q := fun h => by
  simp only [evSr]
  refine wp_bind.mpr (h.mono fun x S1 h => ?_)
  obtain ⟨n, rfl, h1, h2, h⟩ := h
  show Wp ((if decide (-1000000 ≤ n) && decide (n ≤ 1000000) then M.pure (rangeD 0 n.toNat) else M.bad) S1) Q
  rw [if_pos (by simp [h1, h2])]
  exact wp_pure.mpr h
theorem sr_rng2' {a b : E} : (Wp (ev Γ G a env S) fun x S1 => Wp (ev Γ G b env S1) fun y S2 => ∃ lo hi : Int, x = .int lo ∧ y = .int hi ∧ 0 ≤ lo ∧ lo ≤ 1000000 ∧ -1000000 ≤ hi ∧ hi ≤ 1000000 ∧ Q (rangeD lo (hi - lo).toNat) S2) → Wp (evSr Γ G (.rng2 a b) env S) Q := fun h => by
  simp only [evSr]
  refine wp_bind.mpr (h.mono fun x S1 h => wp_bind.mpr (h.mono fun y S2 h => ?_))
  obtain ⟨lo, hi, rfl, rfl, h1, h2, h3, h4, h⟩ := h
  show Wp ((if decide (0 ≤ lo) && decide (lo ≤ 1000000) && decide (-1000000 ≤ hi) && decide (hi ≤ 1000000) then M.pure (rangeD lo (hi - lo).toNat) else M.bad) S2) Q
  rw [if_pos (by simp [h1, h2, h3, h4])]
  exact wp_pure.mpr h
theorem sr_enum' {e : E} : (Wp (ev Γ G e env S) fun x S1 => ∃ xs, x = .tup xs ∧ Q (enumD 0 xs) S1) → Wp (evSr Γ G (.enum e) env S) Q := fun h => by
  simp only [evSr]
  refine wp_bind.mpr (h.mono fun x S1 h => ?_)
  obtain ⟨xs, rfl, h⟩ := h
  exact wp_pure.mpr h
theorem sr_zip' {a b : E} : (Wp (ev Γ G a env S) fun x S1 => Wp (ev Γ G b env S1) fun y S2 => ∃ xs ys, x = .tup xs ∧ y = .tup ys ∧ Q (zipD xs ys) S2) → Wp (evSr Γ G (.zip a b) env S) Q := fun h => by
  simp only [evSr]
  refine wp_bind.mpr (h.mono fun x S1 h => wp_bind.mpr (h.mono fun y S2 h => ?_))
  obtain ⟨xs, ys, rfl, rfl, h⟩ := h
  exact wp_pure.mpr h
end
section
variable {Γ : Nat → List D → M D} {G : List D} {env : EnvD} {S : Store} {P : Fl × EnvD → Store → Prop}
theorem s_set {i : Nat} {e : E} : Wp (ex Γ G (.set i e) env S) P ↔ Wp (ev Γ G e env S) fun d S1 => P (.nx, env.set i (some d)) S1 := by
  simp only [ex, wp_bind, wp_pure]
theorem s_ret {e : E} : Wp (ex Γ G (.ret e) env S) P ↔ Wp (ev Γ G e env S) fun d S1 => P (.ret d, env) S1 := by
  simp only [ex, wp_bind, wp_pure]
theorem s_ex {e : E} : Wp (ex Γ G (.ex e) env S) P ↔ Wp (ev Γ G e env S) fun d S1 => P (.nx, env) S1 := by
  simp only [ex, wp_bind, wp_pure]
theorem s_cont : Wp (ex Γ G .cont env S) P ↔ P (.cont, env) S := by simp only [ex, wp_pure]
theorem s_pass : Wp (ex Γ G .pass env S) P ↔ P (.nx, env) S := by simp only [ex, wp_pure]
theorem s_ife {c : E} {a b : Sts} : Wp (ex Γ G (.ife c a b) env S) P ↔ Wp (ev Γ G c env S) fun x S1 => ∃ t, x = .bl t ∧ if t = true then Wp (exs Γ G a env S1) P else Wp (exs Γ G b env S1) P := by
  simp only [ex]
  exact wp_bind.trans (wp_congr fun x S1 => wp_tf)
theorem s_unp {is : List Nat} {e : E} : (Wp (ev Γ G e env S) fun x S1 => ∃ ds env', x = .tup ds ∧ setAll env is ds = some env' ∧ P (.nx, env') S1) → Wp (ex Γ G (.unp is e) env S) P := fun h => by
  simp only [ex]
  refine wp_bind.mpr (h.mono fun x S1 h => ?_)
  obtain ⟨ds, env', rfl, e, h⟩ := h
  simp only [e]
  exact wp_pure.mpr h
theorem s_par {is : List Nat} {es : Es} : (Wp (evs Γ G es env S) fun ds S1 => ∃ env', setAll env is ds = some env' ∧ P (.nx, env') S1) → Wp (ex Γ G (.par is es) env S) P := fun h => by
  simp only [ex]
  refine wp_bind.mpr (h.mono fun x S1 h => ?_)
  obtain ⟨env', e, h⟩ := h
  simp only [e]
  exact wp_pure.mpr h
theorem s_setI {o i v : E} : Wp (ex Γ G (.setI o i v) env S) P ↔ Wp (ev Γ G v env S) fun x S1 => Wp (ev Γ G o env S1) fun a S2 => Wp (ev Γ G i env S2) fun k S3 => Wp (setItem a k x S3) fun _ S4 => P (.nx, env) S4 := by
  simp only [ex, wp_bind, wp_pure]
/-- for, with an invariant over the items done -/
theorem s_for {tg : Tg} {sr : Sr} {b : Sts} {α : Type} (xs : List α) (en : α → D) (I : List α → EnvD → Store → Prop)
    (h1 : Wp (evSr Γ G sr env S) fun ys S1 => ys = xs.map en ∧ I xs env S1)
    (h2 : ∀ x r env S, I (x :: r) env S → (∃ l, xs = l ++ x :: r) → ∃ env', bindTg env tg (en x) = some env' ∧ Wp (exs Γ G b env' S) fun f S1 => match f with
      | (.nx, env2) => I r env2 S1
      | (.cont, env2) => I r env2 S1
      | (.ret d, env2) => P (.ret d, env2) S1)
    (h3 : ∀ env S, I [] env S → P (.nx, env) S) : Wp (ex Γ G (.for tg sr b) env S) P := by
  simp only [ex]
  refine wp_bind.mpr (h1.mono fun ys S1 h => ?_)
  obtain ⟨rfl, h⟩ := h
  have key : ∀ (r l : List α) (env : EnvD) (S : Store), xs = l ++ r → I r env S → Wp (forM (fun x env' => match bindTg env' tg x with
      | none => M.bad
      | some env2 => exs Γ G b env2) (r.map en) env S) P := by
    intro r
    induction r with
    | nil => intro l env S _ hI; simp only [List.map_nil, forM]; exact wp_ok.mpr (h3 env S hI)
    | cons x r ih =>
      intro l env S e hI
      obtain ⟨env', b1, ⟨fl, env2⟩, S2, b2, b3⟩ := h2 x r env S hI ⟨l, e⟩
      simp only [List.map_cons, forM, b1, b2]
      cases fl with
      | nx => exact ih (l ++ [x]) env2 S2 (by simp [e]) b3
      | cont => exact ih (l ++ [x]) env2 S2 (by simp [e]) b3
      | ret d => exact wp_ok.mpr b3
  exact key xs [] env S1 rfl h
end
section
variable {S : Store} {P : D → Store → Prop}
/-! ### operations -/
theorem d_lt {i j : Int} : Wp (doCmpS .lt (.int i) (.int j) S) P ↔ P (.bl (decide (i < j))) S := wp_ok
theorem d_le {i j : Int} : Wp (doCmpS .le (.int i) (.int j) S) P ↔ P (.bl (decide (i ≤ j))) S := wp_ok
theorem d_gt {i j : Int} : Wp (doCmpS .gt (.int i) (.int j) S) P ↔ P (.bl (decide (j < i))) S := wp_ok
theorem d_ge {i j : Int} : Wp (doCmpS .ge (.int i) (.int j) S) P ↔ P (.bl (decide (j ≤ i))) S := wp_ok
theorem d_eqI {i j : Int} : Wp (doCmpS .eq (.int i) (.int j) S) P ↔ P (.bl (decide (i = j))) S := by
  have e : doCmpS .eq (.int i) (.int j) S = .ok (.bl (i == j)) S := rfl
  rw [e, wp_ok]; have : (i == j) = decide (i = j) := rfl
  rw [this]
theorem d_neI {i j : Int} : Wp (doCmpS .ne (.int i) (.int j) S) P ↔ P (.bl (!decide (i = j))) S := by
  have e : doCmpS .ne (.int i) (.int j) S = .ok (.bl (!(i == j))) S := rfl
  rw [e, wp_ok]; have : (i == j) = decide (i = j) := rfl
  rw [this]
theorem deref_ok {x : D} {n : Nat} (h : okD n x = true) : derefL S x = x := by
  cases x <;> first | rfl | (simp [okD] at h)
theorem d_eq {x y : D} (hx : okD 60 x = true) (hy : okD 60 y = true) : Wp (doCmpS .eq x y S) P ↔ P (.bl (deq x y)) S := by
  have e : doCmpS .eq x y S = .ok (.bl (deq x y)) S := by simp [doCmpS, doCmp, hx, hy, deref_ok hx, deref_ok hy]
  rw [e, wp_ok]
theorem d_ne {x y : D} (hx : okD 60 x = true) (hy : okD 60 y = true) : Wp (doCmpS .ne x y S) P ↔ P (.bl (!deq x y)) S := by
  have e : doCmpS .ne x y S = .ok (.bl (!deq x y)) S := by simp [doCmpS, doCmp, hx, hy, deref_ok hx, deref_ok hy]
  rw [e, wp_ok]
theorem d_inT {x : D} {ys : List D} (hx : okD 60 x = true) (hy : okDs 60 ys = true) : Wp (doCmpS .isin x (.tup ys) S) P ↔ P (.bl (anyEq x ys)) S := by
  have e : doCmpS .isin x (.tup ys) S = .ok (.bl (anyEq x ys)) S := by simp [doCmpS, doCmp, hx, hy]
  rw [e, wp_ok]
theorem d_notT {x : D} {ys : List D} (hx : okD 60 x = true) (hy : okDs 60 ys = true) : Wp (doCmpS .notin x (.tup ys) S) P ↔ P (.bl (!anyEq x ys)) S := by
  have e : doCmpS .notin x (.tup ys) S = .ok (.bl (!anyEq x ys)) S := by simp [doCmpS, doCmp, hx, hy]
  rw [e, wp_ok]
theorem d_isi {t : Ty} {x : D} : Wp (doBi (.isi t) x S) P ↔ ∃ r, isiD t x = some r ∧ P (.bl r) S := by
  simp only [doBi]
  cases q : isiD t x with
  | none => simp [wp_bad]
  | some r => simp [wp_ok]
theorem d_lenT {xs : List D} : Wp (doBi .len (.tup xs) S) P ↔ P (.int xs.length) S := wp_ok
theorem d_lenL {xs : List D} : Wp (doBi .len (.lst xs) S) P ↔ P (.int xs.length) S := wp_ok
theorem d_lenS {xs : List Int} : Wp (doBi .len (.scl xs) S) P ↔ P (.int xs.length) S := wp_ok
theorem d_tupL {xs : List D} : Wp (doBi .tuple (.lst xs) S) P ↔ P (.tup xs) S := wp_ok
theorem d_tupT {xs : List D} : Wp (doBi .tuple (.tup xs) S) P ↔ P (.tup xs) S := wp_ok
theorem d_lstL {xs : List D} : Wp (doBi .list (.lst xs) S) P ↔ P (.lst xs) S := wp_ok
theorem d_all {bs : List Bool} : Wp (doBi .all (.lst (bs.map .bl)) S) P ↔ P (.bl (bs.all id)) S := by
  have e : ∀ bs : List Bool, bools (bs.map D.bl) = some bs := fun bs => by
    induction bs with
    | nil => rfl
    | cons b bs ih => simp only [List.map_cons, bools, ih, Option.map_some]
  simp only [doBi, e bs]; exact wp_ok
theorem d_any {bs : List Bool} : Wp (doBi .any (.lst (bs.map .bl)) S) P ↔ P (.bl (bs.any id)) S := by
  have e : ∀ bs : List Bool, bools (bs.map D.bl) = some bs := fun bs => by
    induction bs with
    | nil => rfl
    | cons b bs ih => simp only [List.map_cons, bools, ih, Option.map_some]
  simp only [doBi, e bs]; exact wp_ok
theorem d_idxT {xs : List D} {j : Int} : Wp (doIdx (.tup xs) (.int j) S) P ↔ ∃ d, nth xs j = some d ∧ P d S := by
  simp only [doIdx]
  cases q : nth xs j with
  | none => simp [wp_bad]
  | some r => simp [wp_ok]
theorem d_idxL {xs : List D} {j : Int} : Wp (doIdx (.lst xs) (.int j) S) P ↔ ∃ d, nth xs j = some d ∧ P d S := by
  simp only [doIdx]
  cases q : nth xs j with
  | none => simp [wp_bad]
  | some r => simp [wp_ok]
theorem d_idxS {xs : List Int} {j : Int} : Wp (doIdx (.scl xs) (.int j) S) P ↔ ∃ d, nth (xs.map .int) j = some d ∧ P d S := by
  simp only [doIdx]
  cases q : nth (xs.map .int) j with
  | none => simp [wp_bad]
  | some r => simp [wp_ok]
theorem d_idxR {i : Nat} {x : D} : Wp (doIdx (.ref i) x S) P ↔ ∃ d, getK S i x = some d ∧ P d S := by
  simp only [doIdx]
  cases q : getK S i x with
  | none => simp [wp_bad]
  | some r => simp [wp_ok]
end
end G11

/-! Lib4: what the defs of records and groups answer -/
namespace G11
theorem dats_map {α : Type} (f : α → D) (h : ∀ a, dat (f a) = true) : ∀ l : List α, dats (l.map f) = true
  | [] => rfl
  | a :: l => by simp only [List.map_cons, dats, h, dats_map f h l, Bool.and_self]
section
variable {T : Nat → Option Fn} {k : Nat} {S : Store}
theorem between_ok (h : T 0 = some f0) (i lo hi : Int) : callI T GG (k + 1) 0 [.int i, .int lo, .int hi] S = .ok (.bl (decide (lo ≤ i) && decide (i ≤ hi))) S := by
  refine call_pure h rfl rfl rfl ?_
  simp [f0, startD, wp_exs, s_ret, w_and, w_and2, w_and1, w_bi, w_var, w_not, w_chain, d_isi, d_le, isiD, freeze, dat]
  by_cases h1 : lo ≤ i <;> by_cases h2 : i ≤ hi <;> simp [h1, h2] <;> omega

/-- ascending, by an order -/
def asc {α : Type} (lt : α → α → Bool) : List α → Bool
  | x :: y :: r => lt x y && asc lt (y :: r)
  | _ => true
theorem zip_tail {α : Type} (e : α → D) : ∀ xs : List α, zipD (xs.map e) ((xs.map e).drop 1) = (xs.zip (xs.drop 1)).map fun p => .tup [e p.1, e p.2]
  | [] => rfl
  | [x] => rfl
  | x :: y :: r => by
    have ih := zip_tail e (y :: r)
    simp only [List.map_cons, List.drop_succ_cons, List.drop_zero, zipD, List.zip_cons_cons] at ih ⊢
    rw [ih]
theorem asc_all {α : Type} (lt : α → α → Bool) : ∀ xs : List α, ((xs.zip (xs.drop 1)).map fun p => lt p.1 p.2).all id = asc lt xs
  | [] => rfl
  | [x] => rfl
  | x :: y :: r => by
    have ih := asc_all lt (y :: r)
    simp only [List.drop_succ_cons, List.drop_zero, List.zip_cons_cons, List.map_cons, List.all_cons, id] at ih ⊢
    rw [ih, asc]
theorem filterMap_some {α β : Type} (f : α → β) : ∀ xs : List α, xs.filterMap (fun x => some (f x)) = xs.map f
  | [] => rfl
  | x :: xs => by simp
theorem ascending_ok (h : T 1 = some f1) {α : Type} (e : α → D) (lt : α → α → Bool) (hd : ∀ a, dat (e a) = true) (hlt : ∀ a b, ltD (e a) (e b) = some (lt a b)) (xs : List α) :
    callI T GG (k + 1) 1 [.tup (xs.map e)] S = .ok (.bl (asc lt xs)) S := by
  refine call_pure h rfl (by simp only [dats, dat, Bool.and_true]; exact dats_map e hd xs) rfl ?_
  simp only [f1, startD, wp_exs, s_ret, w_bi]
  refine wp_lc (xs.zip (xs.drop 1)) (fun p => .tup [e p.1, e p.2]) (fun p => some (.bl (lt p.1 p.2))) ?_ ?_ ?_
  · refine sr_zip' ?_
    simp [w_var, w_sl, w_o0, w_o1, w_int, doSl, cutD, sIx]
    have z := zip_tail e xs
    cases xs with
    | nil => rfl
    | cons x r =>
      simp only [List.drop_one] at z
      rw [← z]
      congr 1
      simp
      exact List.take_of_length_le (by simp)
  · rintro ⟨a, b⟩ _
    refine ⟨_, rfl, ?_⟩
    refine ⟨true, _, by simp only [evC], rfl, .inr ⟨rfl, ?_⟩⟩
    have e2 : ∀ S', doCmpS .lt (e a) (e b) S' = .ok (.bl (lt a b)) S' := fun S' => by
      have z := hlt a b
      cases q : e b <;> rw [q] at z <;> simp [doCmpS, doCmp, z]
    simp [w_cmp, w_var, wipeD, e2, wp_ok]
  · have q : (xs.zip (xs.drop 1)).filterMap (fun p => some (D.bl (lt p.1 p.2))) = ((xs.zip (xs.drop 1)).map fun p => lt p.1 p.2).map D.bl := by
      rw [filterMap_some, List.map_map]; rfl
    rw [q, d_all, asc_all]
    simp [freeze, dat]
/-! ### records, rules, groups as values -/
abbrev Rec := List (Option Int)
def encV : Option Int → D
  | none => .non
  | some i => .int i
def encR (r : Rec) : D := .tup (r.map encV)
def encRs (rs : List Rec) : D := .tup (rs.map encR)
theorem dat_V (v : Option Int) : dat (encV v) = true := by cases v <;> rfl
theorem dat_R (r : Rec) : dat (encR r) = true := by simp only [encR, dat]; exact dats_map _ dat_V r
theorem dat_Rs (rs : List Rec) : dat (encRs rs) = true := by simp only [encRs, dat]; exact dats_map _ dat_R rs
def okV : Option Int → Bool
  | none => true
  | some i => decide (0 ≤ i) && decide (i ≤ 9)
theorem record_ok (h0 : T 0 = some f0) (h : T 2 = some f2) (n : Nat) (r : Rec) (hl : r.length = n) (hv : ∀ v ∈ r, okV v = true) : callI T GG (k + 2) 2 [.int n, encR r] S = .ok (.bl true) S := by
  refine call_pure h rfl (by simp only [dats, dat, dat_R, Bool.and_true, Bool.and_self]) rfl ?_
  simp [f2, startD, wp_exs, s_ife, s_ret, w_or, w_or2, w_or1, w_not, w_bi, w_var, w_cmp, d_isi, encR, isiD, d_lenT, d_neI, hl, wp_exs0]
  refine wp_lc r encV (fun v => some (.bl true)) ?_ ?_ ?_
  · exact sr_val' (by simp [w_var, seqD])
  · intro v hv'
    refine ⟨_, rfl, ⟨true, _, by simp only [evC], rfl, .inr ⟨rfl, ?_⟩⟩⟩
    have z := hv v hv'
    cases v with
    | none => simp [w_or2, w_or, w_or1, w_isN, w_var, wipeD, encV, isNon]
    | some i =>
      simp only [okV, Bool.and_eq_true, decide_eq_true_eq] at z
      simp [w_or2, w_or, w_or1, w_isN, w_var, wipeD, encV, isNon, w_call, w_es, w_es0, w_int, between_ok h0, wp_ok, z]
  · have q : r.filterMap (fun _ => some (D.bl true)) = (r.map fun _ => true).map D.bl := by
      rw [filterMap_some (fun _ => D.bl true), List.map_map]; rfl
    rw [q, d_all]
    simp [freeze, dat]
theorem all_true {α : Type} (xs : List α) : (xs.filterMap fun _ => some (D.bl true)) = (xs.map fun _ => true).map D.bl := by
  rw [filterMap_some (fun _ => D.bl true), List.map_map]; rfl
/-- records that may be handed in -/
structure VR (n : Nat) (rs : List Rec) : Prop where
  lo : 1 ≤ rs.length
  hi : rs.length ≤ 6
  n1 : 1 ≤ n
  n4 : n ≤ 4
  row : ∀ r ∈ rs, r.length = n ∧ ∀ v ∈ r, okV v = true
theorem nth_zero {x : D} {xs : List D} : nth (x :: xs) 0 = some x := by simp [nth, ixI]
theorem records_ok (h0 : T 0 = some f0) (h2 : T 2 = some f2) (h : T 3 = some f3) {n : Nat} {rs : List Rec} (v : VR n rs) : callI T GG (k + 3) 3 [encRs rs] S = .ok (.bl true) S := by
  refine call_pure h rfl (by simp only [dats, dat_Rs, Bool.and_self]) rfl ?_
  obtain ⟨r, rs', rfl⟩ : ∃ r rs', rs = r :: rs' := by
    cases rs with
    | nil => exact absurd v.lo (by simp)
    | cons r rs' => exact ⟨r, rs', rfl⟩
  have hr := (v.row r List.mem_cons_self).1
  have l1 : (1 : Int) ≤ (rs'.length : Int) + 1 := by omega
  have l2 : (rs'.length : Int) + 1 ≤ 6 := by have := v.hi; simp at this; omega
  have n1 : (1 : Int) ≤ (n : Int) := by have := v.n1; omega
  have n4 : (n : Int) ≤ 4 := by have := v.n4; omega
  simp [f3, startD, wp_exs, s_ife, s_ret, s_set, w_or, w_or2, w_or1, w_not, w_bi, w_var, w_glb, w_int, w_idx, w_chain, w_and, w_and2, w_and1, d_isi, d_le, encRs, isiD, d_lenT, d_idxT, nth_zero, GG, encR, wp_exs0, l1, l2, hr, n1, n4]
  refine wp_lc (r :: rs') encR (fun v => some (.bl true)) ?_ ?_ ?_
  · exact sr_val' (by simp [w_var, seqD, encR])
  · intro x hx
    refine ⟨_, rfl, ⟨true, _, by simp only [evC], rfl, .inr ⟨rfl, ?_⟩⟩⟩
    obtain ⟨x1, x2⟩ := v.row x hx
    have q := record_ok (k := k) (S := ([] : Store)) h0 h2 n x x1 x2
    simp [w_call, w_es, w_es0, w_var, wipeD]
    exact (wp_eq q).mpr ⟨rfl, rfl⟩
  · rw [all_true, d_all]
    simp [freeze, dat]
/-- a key of fields below n -/
def okKey (n : Nat) (key : List Int) : Prop := key ≠ [] ∧ (∀ i ∈ key, 0 ≤ i ∧ i < n) ∧ asc (fun a b => decide (a < b)) key = true
theorem dat_I (i : Int) : dat (.int i) = true := rfl
theorem dat_tupI (l : List Int) : dat (tupI l) = true := by simp only [tupI, dat]; exact dats_map _ dat_I l
theorem deq_tupI_nil (x : D) (xs : List D) : deq (.tup (x :: xs)) (.tup []) = false := by simp [deq, deqs]
theorem okDs_int (n : Nat) : ∀ l : List Int, okDs n (l.map .int) = true
  | [] => rfl
  | x :: l => by simp only [List.map_cons, okDs, okD, Bool.true_and]; exact okDs_int n l
theorem key_ok (h0 : T 0 = some f0) (h1 : T 1 = some f1) (h : T 4 = some f4) {n : Nat} {key : List Int} (v : okKey n key) : callI T GG (k + 2) 4 [.int n, tupI key] S = .ok (.bl true) S := by
  obtain ⟨v1, v2, v3⟩ := v
  refine call_pure h rfl (by simp only [dats, dat, dat_tupI, Bool.and_true, Bool.and_self]) rfl ?_
  have asc1 := ascending_ok (k := k) (S := ([] : Store)) h1 D.int (fun a b => decide (a < b)) dat_I (fun a b => rfl) key
  rw [v3] at asc1
  have hne : deq (.tup (key.map D.int)) (.tup []) = false := by
    cases key with
    | nil => exact absurd rfl v1
    | cons x l => exact deq_tupI_nil _ _
  have ok1 : okD 60 (.tup (key.map D.int)) = true := by simp only [okD]; exact okDs_int _ key
  simp only [f4, startD, wp_exs, s_ife, s_ret, w_or, w_or2, w_or1, w_not, w_bi, w_cmp, w_tup, w_es0, d_isi]
  simp [w_var, tupI, isiD, d_eq ok1 (show okD 60 (.tup []) = true from rfl), hne, lim]
  refine wp_lc key D.int (fun v => some (.bl true)) ?_ ?_ ?_
  · exact sr_val' (by simp [w_var, seqD])
  · intro x hx
    refine ⟨_, rfl, ⟨true, _, by simp only [evC], rfl, .inr ⟨rfl, ?_⟩⟩⟩
    obtain ⟨x1, x2⟩ := v2 x hx
    have x3 : x ≤ (n : Int) - 1 := by omega
    simp [w_call, w_es, w_es0, w_var, wipeD, w_int, w_bin, doBin, between_ok h0, wp_ok, x1, x3]
  · rw [all_true, d_all]
    simp [freeze, dat, wp_exs0, w_call, w_es, w_es0, w_var]
    exact (wp_eq asc1).mpr rfl
inductive Tk where
  | all | first | last
deriving DecidableEq
def tkS : Tk → List Nat
  | .all => sAll
  | .first => sFirst
  | .last => sLast
def encT (t : Tk) : D := .str (tkS t)
def encK (keys : List (List Int)) : D := .tup (keys.map tupI)
def encU (keys : List (List Int)) (takes : List Tk) : D := .tup [encK keys, .tup (takes.map encT)]
theorem dat_T (t : Tk) : dat (encT t) = true := rfl
theorem dat_K (keys : List (List Int)) : dat (encK keys) = true := by simp only [encK, dat]; exact dats_map _ dat_tupI keys
theorem dat_U (keys : List (List Int)) (takes : List Tk) : dat (encU keys takes) = true := by
  simp only [encU, dat, dats, dat_K, dats_map _ dat_T takes, Bool.and_self]
/-- rules that may be handed in -/
structure VU (n : Nat) (keys : List (List Int)) (takes : List Tk) : Prop where
  len : takes.length = n
  n1 : 1 ≤ n
  n4 : n ≤ 4
  few : keys.length ≤ 5
  key : ∀ key ∈ keys, okKey n key
  asc : asc lexL keys = true
theorem ltD_tupI (a b : List Int) : ltD (tupI a) (tupI b) = some (lexL a b) := by
  have e : ∀ l : List Int, asInts (l.map .int) = some l := fun l => by
    induction l with
    | nil => rfl
    | cons x l ih => simp only [List.map_cons, asInts, asInt, ih]
  simp only [tupI, ltD, e]
theorem rules_ok (h0 : T 0 = some f0) (h1 : T 1 = some f1) (h4 : T 4 = some f4) (h : T 5 = some f5) {n : Nat} {keys : List (List Int)} {takes : List Tk} (v : VU n keys takes) : callI T GG (k + 3) 5 [encU keys takes] S = .ok (.bl true) S := by
  refine call_pure h rfl (by simp only [dats, dat_U, Bool.and_self]) rfl ?_
  have asc1 := ascending_ok (k := k + 1) (S := ([] : Store)) h1 tupI lexL dat_tupI ltD_tupI keys
  rw [v.asc] at asc1
  have n1 : (1 : Int) ≤ (takes.length : Int) := by have := v.n1; have := v.len; omega
  have n4 : (takes.length : Int) ≤ 4 := by have := v.n4; have := v.len; omega
  have k5 : (keys.length : Int) ≤ 5 := by have := v.few; omega
  simp only [f5, startD, wp_exs, s_ife, s_ret, w_or, w_or2, w_or1, w_not, w_bi, w_cmp, d_isi]
  simp only [w_var, w_int]
  simp [encU, isiD, d_lenT, d_neI]
  refine wp_lc [encK keys, .tup (takes.map encT)] id (fun _ => some (.bl true)) ?_ ?_ ?_
  · exact sr_val' (by simp [w_var, seqD])
  · intro x hx
    refine ⟨_, rfl, ⟨true, _, by simp only [evC], rfl, .inr ⟨rfl, ?_⟩⟩⟩
    have hx' : ∃ ys, x = .tup ys := by
      rcases List.mem_cons.mp hx with e | e
      · exact ⟨_, e⟩
      · exact ⟨_, List.mem_singleton.mp e⟩
    obtain ⟨ys, rfl⟩ := hx'
    simp [w_bi, w_var, wipeD, d_isi, isiD]
  · rw [all_true, d_all]
    simp [wp_exs0]
    refine s_unp ?_
    simp [w_var, setAll]
    simp only [wp_exs, s_ife, w_or, w_or2, w_or1, w_not, w_bi, w_chain]
    simp [w_var, w_int, d_lenT, d_le, n1, n4]
    refine wp_lc takes encT (fun _ => some (.bl true)) ?_ ?_ ?_
    · exact sr_val' (by simp [w_var, seqD])
    · intro t ht
      refine ⟨_, rfl, ⟨true, _, by simp only [evC], rfl, .inr ⟨rfl, ?_⟩⟩⟩
      cases t <;> simp [w_and, w_and2, w_and1, w_bi, w_var, wipeD, d_isi, isiD, encT, tkS, w_cmp, w_glb, GG, sAll, sFirst, sLast, d_inT, okD, okDs, anyEq, deq]
    · rw [all_true, d_all]
      simp [wp_exs0, wp_exs, s_ret, w_and, w_and2, w_and1, w_cmp, w_bi, w_var, w_int, encK, d_lenT, d_le, k5]
      refine wp_lc keys tupI (fun _ => some (.bl true)) ?_ ?_ ?_
      · exact sr_val' (by simp [w_var, seqD])
      · intro key hk
        refine ⟨_, rfl, ⟨true, _, by simp only [evC], rfl, .inr ⟨rfl, ?_⟩⟩⟩
        have q := key_ok (k := k) (S := ([] : Store)) h0 h1 h4 (v.key key hk)
        simp [w_call, w_es, w_es0, w_bi, w_var, wipeD, d_lenT, v.len]
        exact (wp_eq q).mpr ⟨rfl, rfl⟩
      · rw [all_true, d_all]
        simp [w_call, w_es, w_es0, w_var]
        exact (wp_eq asc1).mpr (.inr ⟨rfl, by simp [freeze, dat]⟩)
/-- the table of these defs -/
structure TG (T : Nat → Option Fn) : Prop where
  t0 : T 0 = some f0
  t1 : T 1 = some f1
  t2 : T 2 = some f2
  t3 : T 3 = some f3
  t4 : T 4 = some f4
  t5 : T 5 = some f5
  t6 : T 6 = some f6
  t7 : T 7 = some f7
  t8 : T 8 = some f8
  t11 : T 11 = some f11
  t12 : T 12 = some f12
  t14 : T 14 = some f14
  t15 : T 15 = some f15
/-- .. and of groups -/
structure TG9 (T : Nat → Option Fn) : Prop extends TG T where
  t9 : T 9 = some f9
  t10 : T 10 = some f10
theorem check6 (t : TG T) {n : Nat} {rs : List Rec} (v : VR n rs) : callI T GG (k + 4) 6 [encRs rs] S = .ok .non S := by
  refine call_pure t.t6 rfl (by simp only [dats, dat_Rs, Bool.and_self]) rfl ?_
  have q := records_ok (k := k) (S := ([] : Store)) t.t0 t.t2 t.t3 v
  simp [f6, startD, wp_exs, wp_exs0, s_ife, w_not, w_call, w_es, w_es0, w_var]
  exact (wp_eq q).mpr (by simp)
theorem check7 (t : TG T) {n : Nat} {keys : List (List Int)} {takes : List Tk} (v : VU n keys takes) : callI T GG (k + 4) 7 [encU keys takes] S = .ok .non S := by
  refine call_pure t.t7 rfl (by simp only [dats, dat_U, Bool.and_self]) rfl ?_
  have q := rules_ok (k := k) (S := ([] : Store)) t.t0 t.t1 t.t4 t.t5 v
  simp [f7, startD, wp_exs, wp_exs0, s_ife, w_not, w_call, w_es, w_es0, w_var]
  exact (wp_eq q).mpr (by simp)
theorem nth_one {x y : D} {xs : List D} : nth (x :: y :: xs) 1 = some y := by
  have h : (1 : Int) < (xs.length : Int) + 1 + 1 := by omega
  simp [nth, ixI, h]
theorem check8 (t : TG T) {n : Nat} {rs : List Rec} {keys : List (List Int)} {takes : List Tk} (vr : VR n rs) (v : VU n keys takes) : callI T GG (k + 5) 8 [encRs rs, encU keys takes] S = .ok .non S := by
  refine call_pure t.t8 rfl (by simp only [dats, dat_Rs, dat_U, Bool.and_self]) rfl ?_
  have q6 := check6 (k := k) (S := ([] : Store)) t vr
  have q7 := check7 (k := k) (S := ([] : Store)) t v
  obtain ⟨r, rs', e⟩ : ∃ r rs', rs = r :: rs' := by
    cases rs with
    | nil => exact absurd vr.lo (by simp)
    | cons r rs' => exact ⟨r, rs', rfl⟩
  have hr := (vr.row r (by rw [e]; exact List.mem_cons_self)).1
  simp only [f8, startD, wp_exs, s_ex, w_call, w_es, w_es0]
  simp only [w_var]
  simp
  refine (wp_eq q6).mpr ((wp_eq q7).mpr ?_)
  have e1 : encRs rs = .tup (encR r :: rs'.map encR) := by rw [e]; rfl
  simp [s_ife, w_cmp, w_bi, w_idx, w_var, w_int, wp_exs0, e1, encU, d_idxT, nth_zero, nth_one, encR, d_lenT, d_neI, hr, v.len]
/-- a group of records below m -/
theorem group_ok (t : TG9 T) {m : Nat} {g : List Int} (v : okKey m g) : callI T GG (k + 2) 9 [.int m, tupI g] S = .ok (.bl true) S := by
  have e : callI T GG (k + 2) 9 [.int m, tupI g] S = callI T GG (k + 2) 4 [.int m, tupI g] S := by
    rw [callI_succ _ _ _ _ _ _ t.t9, callI_succ _ _ _ _ _ _ t.t4]; rfl
  rw [e]
  exact key_ok t.t0 t.t1 t.t4 v
theorem check10 (t : TG9 T) {rs : List Rec} {g : List Int} (v : okKey rs.length g) : callI T GG (k + 3) 10 [encRs rs, tupI g] S = .ok .non S := by
  refine call_pure t.t10 rfl (by simp only [dats, dat_Rs, dat_tupI, Bool.and_self]) rfl ?_
  have q := group_ok (k := k) (S := ([] : Store)) t v
  simp [f10, startD, wp_exs, wp_exs0, s_ife, w_not, w_call, w_es, w_es0, w_var, w_bi, encRs, d_lenT]
  exact (wp_eq q).mpr (by simp)
end
end G11

/-! Lib5: the values of groups, matching -/
namespace G11
/-! ### sorted(set(ints)) -/
def unI : LL → Int
  | [[n]] => n
  | _ => 0
def sSet (l : List Int) : List Int := (sortLL (dedup (l.map fun n => [[n]]))).map unI
theorem kindI (ns : List Int) : kindOf (ns.map D.int) = some (.i, ns.map fun n => [[n]]) := by
  have h : keysOf .i (ns.map D.int) = some (ns.map fun n => [[n]]) := by
    induction ns with
    | nil => rfl
    | cons n ns ih => simp only [List.map_cons, keysOf, keyOf, ih]
  unfold kindOf; simp only [h]
theorem insLL_mem {x y : LL} : ∀ {l : List LL}, y ∈ insLL x l ↔ y = x ∨ y ∈ l
  | [] => by simp [insLL]
  | z :: l => by
    unfold insLL
    split
    · simp
    · simp only [List.mem_cons, insLL_mem (l := l)]
      constructor
      · rintro (h | h | h)
        · exact .inr (.inl h)
        · exact .inl h
        · exact .inr (.inr h)
      · rintro (h | h | h)
        · exact .inr (.inl h)
        · exact .inl h
        · exact .inr (.inr h)
theorem sortLL_mem {y : LL} : ∀ {l : List LL}, y ∈ sortLL l ↔ y ∈ l
  | [] => by simp [sortLL]
  | x :: l => by simp only [sortLL, insLL_mem, sortLL_mem (l := l), List.mem_cons]
theorem dedup_mem' {y : LL} : ∀ {l : List LL}, y ∈ dedup l ↔ y ∈ l
  | [] => by simp [dedup]
  | x :: l => by
    unfold dedup
    split
    · rename_i h
      rw [dedup_mem' (l := l), List.mem_cons]
      refine ⟨.inr, fun z => z.elim (fun e => ?_) id⟩
      rw [e]; simpa using h
    · rw [List.mem_cons, List.mem_cons, dedup_mem' (l := l)]
theorem sSet_mem {l : List Int} {n : Int} : n ∈ sSet l ↔ n ∈ l := by
  unfold sSet
  rw [List.mem_map]
  constructor
  · rintro ⟨k, hk, rfl⟩
    rw [sortLL_mem, dedup_mem', List.mem_map] at hk
    obtain ⟨m, hm, rfl⟩ := hk
    exact hm
  · intro h
    exact ⟨[[n]], by rw [sortLL_mem, dedup_mem', List.mem_map]; exact ⟨n, h, rfl⟩, rfl⟩
theorem sSet_enc (l : List Int) : (sortLL (dedup (l.map fun n => [[n]]))).map (ofKey .i) = (sSet l).map D.int := by
  unfold sSet
  rw [List.map_map]
  refine List.map_congr_left fun k hk => ?_
  rw [sortLL_mem, dedup_mem', List.mem_map] at hk
  obtain ⟨m, hm, rfl⟩ := hk
  rfl
section
variable {T : Nat → Option Fn} {k : Nat} {S : Store} {P : D → Store → Prop}
theorem sset_ints {l : List Int} (h : l.length < 64) : sortSet (l.map .int) = some ((sSet l).map .int) := by
  unfold sortSet
  rw [kindI]
  simp [h, sSet_enc]
theorem d_ssetL {l : List Int} (h : l.length < 64) : Wp (doSset (.lst (l.map .int)) S) P ↔ P (.lst ((sSet l).map .int)) S := by
  simp only [doSset, sset_ints h]; exact wp_ok
theorem asInts_map (l : List Int) : asInts (l.map .int) = some l := by
  induction l with
  | nil => rfl
  | cons x l ih => simp only [List.map_cons, asInts, asInt, ih]
theorem d_ssetT {l : List Int} (h : l.length < 64) : Wp (doSset (.tup (l.map .int)) S) P ↔ P (.lst ((sSet l).map .int)) S := by
  simp only [doSset, sset_ints h]; exact wp_ok

theorem w_c1 {Γ : Nat → List D → M D} {G : List D} {env : EnvD} {e : E} {Q : Bool → Store → Prop} : Wp (evC Γ G (.cons e .nil) env S) Q ↔ Wp (ev Γ G e env S) fun x S1 => ∃ b, x = .bl b ∧ Q b S1 := by
  simp only [evC]
  exact wp_bind.trans (wp_congr fun x S1 => wp_bl.trans (exists_congr fun i => and_congr Iff.rfl wp_pure))
/-! ### taken -/
def valAt (rs : List Rec) (f : Nat) (i : Int) : Option Int := (rs.getD i.toNat []).getD f none
def somes (rs : List Rec) (f : Nat) (g : List Int) : List Int := g.filterMap (valAt rs f)
def takenS (t : Tk) (l : List Int) : List Int := match t with
  | .first => l.take 1
  | .last => l.drop (l.length - 1)
  | .all => sSet l
theorem nth_nat {xs : List D} {i : Nat} {d : D} (h : xs[i]? = some d) : nth xs (i : Int) = some d := by
  have hl : i < xs.length := (List.getElem?_eq_some_iff.mp h).1
  have h1 : (i : Int) < (xs.length : Int) := by omega
  simp [nth, ixI, h1, h]
theorem nth_enc {α : Type} {e : α → D} {xs : List α} {i : Int} (h0 : 0 ≤ i) (h1 : i < xs.length) (dflt : α) : nth (xs.map e) i = some (e (xs.getD i.toNat dflt)) := by
  obtain ⟨j, rfl⟩ := Int.eq_ofNat_of_zero_le h0
  have hj : j < xs.length := by omega
  refine (nth_nat (i := j) (d := e (xs.getD j dflt)) ?_)
  rw [List.getElem?_map, List.getD_eq_getElem?_getD, List.getElem?_eq_getElem hj]; rfl
theorem cut_first (l : List D) : cutD l none (some 1) = l.take 1 := by
  unfold cutD sIx
  cases l with
  | nil => rfl
  | cons x r => simp
theorem cut_last (l : List D) : cutD l (some (-1)) none = l.drop (l.length - 1) := by
  unfold cutD sIx
  simp
  have e : ((-1 : Int) + (l.length : Int)).toNat = l.length - 1 := by omega
  rw [e]
  exact List.take_of_length_le (by rw [List.length_drop]; omega)
theorem isNon_V (v : Option Int) : isNon (encV v) = v.isNone := by cases v <;> rfl
theorem taken_ok (t : TG T) {n f : Nat} {rs : List Rec} {g : List Int} {tk : Tk} (vr : VR n rs) (hf : f < n) (vg : ∀ i ∈ g, 0 ≤ i ∧ i < (rs.length : Int)) (hg : g.length < 64) :
    callI T GG (k + 1) 11 [encRs rs, encT tk, .int f, tupI g] S = .ok (tupI (takenS tk (somes rs f g))) S := by
  refine call_pure t.t11 rfl (by simp only [dats, dat, dat_Rs, dat_T, dat_tupI, Bool.and_self]) rfl ?_
  have at' : ∀ i ∈ g, nth (rs.map encR) i = some (encR (rs.getD i.toNat [])) ∧ nth ((rs.getD i.toNat []).map encV) (f : Int) = some (encV (valAt rs f i)) := fun i hi => by
    obtain ⟨h1, h2⟩ := vg i hi
    refine ⟨nth_enc h1 h2 [], ?_⟩
    have hm : rs.getD i.toNat [] ∈ rs := by
      have hj : i.toNat < rs.length := by omega
      rw [List.getD_eq_getElem?_getD, List.getElem?_eq_getElem hj]; exact List.getElem_mem hj
    have hl := (vr.row _ hm).1
    exact nth_enc (by omega) (by omega) none
  have hs : (somes rs f g).length < 64 := Nat.lt_of_le_of_lt (List.length_filterMap_le _ _) hg
  simp only [f11, startD, wp_exs, s_set]
  refine wp_lc g D.int (fun i => (valAt rs f i).map D.int) ?_ ?_ ?_
  · exact sr_val' (by simp [w_var, seqD, tupI])
  · intro i hi
    refine ⟨_, rfl, ?_⟩
    obtain ⟨h1, h2⟩ := at' i hi
    generalize rs.getD i.toNat [] = row at h1 h2
    refine ⟨(valAt rs f i).isSome, _, ?_, rfl, ?_⟩
    · refine Wp.eq ?_
      simp only [w_c1, w_notN, w_idx]
      simp only [w_var]
      simp [wipeD, encRs, d_idxT, h1, encR, h2, isNon_V]
      cases valAt rs f i <;> simp
    · cases q : valAt rs f i with
      | none => left; exact ⟨rfl, rfl⟩
      | some v =>
        right
        refine ⟨rfl, ?_⟩
        rw [q] at h2
        simp [w_idx, w_var, wipeD, encRs, d_idxT, h1, encR, h2, encV]
  · have e : g.filterMap (fun i => (valAt rs f i).map D.int) = (somes rs f g).map D.int := by
      unfold somes; rw [List.map_filterMap]
    rw [e]
    have ok1 : okD 60 (encT tk) = true := by cases tk <;> rfl
    simp only [wp_exs, wp_exs0, s_ife, s_ret, w_cmp, w_str, w_bi, w_sl, w_o0, w_o1, w_neg, w_int, w_sset]
    simp only [w_var]
    simp
    have dI : ∀ l : List Int, dats (l.map D.int) = true := dats_map _ dat_I
    cases tk with
    | first =>
      refine (d_eq ok1 rfl).mpr ?_
      simp [encT, tkS, sFirst, deq, doSl, cut_first, d_tupL, freeze, dat, tupI, takenS]
      rw [← List.map_take]; exact if_pos (dI _)
    | last =>
      refine (d_eq ok1 rfl).mpr ?_
      simp only [encT, tkS, sLast, deq]
      simp
      refine (d_eq rfl rfl).mpr ?_
      simp [deq, doSl, cut_last, d_tupL, freeze, dat, tupI, takenS]
      rw [← List.map_drop]; exact if_pos (dI _)
    | all =>
      refine (d_eq ok1 rfl).mpr ?_
      simp only [encT, tkS, sAll, deq]
      simp
      refine (d_eq rfl rfl).mpr ?_
      simp [deq, d_ssetL hs, d_tupL, freeze, dat, tupI, takenS]
      exact if_pos (dI _)
end
end G11

/-! Lib6: values_for, values_of, do_agree, keys_for, matching_keys -/
namespace G11
theorem enum_enc {α : Type} (e : α → D) : ∀ (xs : List α) (n : Nat), enumD n (xs.map e) = (xs.zipIdx n).map fun p => .tup [.int (p.2 : Nat), e p.1]
  | [], _ => rfl
  | x :: xs, n => by simp only [List.map_cons, enumD, List.zipIdx_cons, enum_enc e xs (n + 1)]
def vals (rs : List Rec) (takes : List Tk) (g : List Int) : List (List Int) := takes.zipIdx.map fun p => takenS p.1 (somes rs p.2 g)
theorem vals_len (rs : List Rec) (takes : List Tk) (g : List Int) : (vals rs takes g).length = takes.length := by simp [vals]
def agree (a b : List (List Int)) (key : List Int) : Bool := key.all fun f => (a.getD f.toNat []).any fun v => (b.getD f.toNat []).contains v
def keysFor (rs : List Rec) (keys : List (List Int)) (takes : List Tk) (g h : List Int) : List Int :=
  keys.zipIdx.filterMap fun p => if agree (vals rs takes g) (vals rs takes h) p.1 then some (p.2 : Int) else none
/-- a group of records -/
structure VG (rs : List Rec) (g : List Int) : Prop where
  ok : okKey rs.length g
  few : g.length < 64
theorem anyEq_ints (x : Int) : ∀ l : List Int, anyEq (.int x) (l.map .int) = l.contains x
  | [] => rfl
  | y :: l => by
    simp only [List.map_cons, anyEq, deq, anyEq_ints x l, List.contains_cons]
    rw [Bool.beq_comm]
section
variable {T : Nat → Option Fn} {k : Nat} {S : Store}
theorem values_for_ok (t : TG T) {n : Nat} {rs : List Rec} {takes : List Tk} {g : List Int} (vr : VR n rs) (hl : takes.length = n) (vg : VG rs g) :
    callI T GG (k + 2) 12 [encRs rs, .tup (takes.map encT), tupI g] S = .ok (encK (vals rs takes g)) S := by
  refine call_pure t.t12 rfl (by simp only [dats, dat, dat_Rs, dat_tupI, dats_map _ dat_T, Bool.and_self]) rfl ?_
  simp only [f12, startD, wp_exs, s_ret, w_bi]
  refine wp_lc takes.zipIdx (fun p => .tup [.int (p.2 : Nat), encT p.1]) (fun p => some (tupI (takenS p.1 (somes rs p.2 g)))) ?_ ?_ ?_
  · exact sr_enum' (by simp [w_var, enum_enc])
  · rintro ⟨tk, f⟩ hp
    have hf : f < n := by
      have := List.snd_lt_of_mem_zipIdx hp
      simp at this; omega
    refine ⟨_, rfl, ⟨true, _, by simp only [evC], rfl, .inr ⟨rfl, ?_⟩⟩⟩
    have q := taken_ok (k := k) (S := ([] : Store)) (tk := tk) t vr hf vg.ok.2.1 vg.few
    simp [w_call, w_es, w_es0, w_var, wipeD]
    exact (wp_eq q).mpr ⟨rfl, rfl⟩
  · rw [filterMap_some]
    refine d_tupL.mpr ?_
    have e : (takes.zipIdx.map fun p => tupI (takenS p.1 (somes rs p.2 g))) = (vals rs takes g).map tupI := by
      unfold vals; rw [List.map_map]; rfl
    rw [e]
    show freeze [] (encK (vals rs takes g)) = _
    simp only [freeze, encK]
    exact if_pos (dat_K _)
theorem values_of_ok (t : TG9 T) (t13 : T 13 = some f13) {n : Nat} {rs : List Rec} {keys : List (List Int)} {takes : List Tk} {g : List Int} (vr : VR n rs) (vu : VU n keys takes) (vg : VG rs g) :
    callI T GG (k + 6) 13 [encRs rs, encU keys takes, tupI g] S = .ok (encK (vals rs takes g)) S := by
  refine call_pure t13 rfl (by simp only [dats, dat_Rs, dat_U, dat_tupI, Bool.and_self]) rfl ?_
  have q1 := check8 (k := k) (S := ([] : Store)) t.toTG vr vu
  have q2 := check10 (k := k + 2) (S := ([] : Store)) t vg.ok
  have q3 := values_for_ok (k := k + 3) (S := ([] : Store)) t.toTG vr vu.len vg
  simp only [f13, startD, wp_exs, s_ex, s_ret, w_call, w_es, w_es0, w_idx, w_int]
  simp only [w_var]
  simp
  refine (wp_eq q1).mpr ((wp_eq q2).mpr ?_)
  refine d_idxT.mpr ⟨_, nth_one, ?_⟩
  refine (wp_eq q3).mpr ?_
  simp only [freeze, encK]
  exact if_pos (dat_K _)
theorem do_agree_ok (t : TG T) {a b : List (List Int)} {key : List Int} (ha : ∀ i ∈ key, 0 ≤ i ∧ i < (a.length : Int)) (hb : b.length = a.length) :
    callI T GG (k + 1) 14 [encK a, encK b, tupI key] S = .ok (.bl (agree a b key)) S := by
  refine call_pure t.t14 rfl (by simp only [dats, dat_K, dat_tupI, Bool.and_self]) rfl ?_
  simp only [f14, startD, wp_exs, s_ret, w_bi]
  refine wp_lc key D.int (fun f => some (.bl ((a.getD f.toNat []).any fun v => (b.getD f.toNat []).contains v))) ?_ ?_ ?_
  · exact sr_val' (by simp [w_var, seqD, tupI])
  · intro f hf
    obtain ⟨h0, h1⟩ := ha f hf
    have n1 : nth (a.map tupI) f = some (tupI (a.getD f.toNat [])) := nth_enc h0 h1 []
    have n2 : nth (b.map tupI) f = some (tupI (b.getD f.toNat [])) := nth_enc h0 (by omega) []
    generalize a.getD f.toNat [] = x at n1 ⊢
    generalize b.getD f.toNat [] = y at n2 ⊢
    refine ⟨_, rfl, ⟨true, _, by simp only [evC], rfl, .inr ⟨rfl, ?_⟩⟩⟩
    refine w_bi.mpr ?_
    refine wp_lc x D.int (fun v => some (.bl (y.contains v))) ?_ ?_ ?_
    · exact sr_val' (by simp [w_idx, w_var, wipeD, encK, d_idxT, n1, seqD, tupI])
    · intro v hv
      refine ⟨_, rfl, ⟨true, _, by simp only [evC], rfl, .inr ⟨rfl, ?_⟩⟩⟩
      simp only [w_cmp, w_idx]
      simp only [w_var]
      simp [wipeD, encK, d_idxT, n2]
      refine (d_inT rfl (okDs_int _ y)).mpr ?_
      simp [anyEq_ints]
    · have e : x.filterMap (fun v => some (D.bl (y.contains v))) = (x.map fun v => y.contains v).map D.bl := by
        rw [filterMap_some, List.map_map]; rfl
      rw [e, d_any]
      simp
  · have e : key.filterMap (fun f => some (D.bl ((a.getD f.toNat []).any fun v => (b.getD f.toNat []).contains v))) = (key.map fun f => (a.getD f.toNat []).any fun v => (b.getD f.toNat []).contains v).map D.bl := by
      rw [filterMap_some, List.map_map]; rfl
    rw [e, d_all]
    simp [freeze, dat, agree, List.all_map]
theorem keys_for_ok (t : TG T) {n : Nat} {rs : List Rec} {keys : List (List Int)} {takes : List Tk} {g h : List Int} (vr : VR n rs) (vu : VU n keys takes) (vg : VG rs g) (vh : VG rs h) :
    callI T GG (k + 3) 15 [encRs rs, encU keys takes, tupI g, tupI h] S = .ok (.lst ((keysFor rs keys takes g h).map .int)) S := by
  refine call_pure t.t15 rfl (by simp only [dats, dat_Rs, dat_U, dat_tupI, Bool.and_self]) rfl ?_
  have q1 := values_for_ok (k := k) (S := ([] : Store)) t vr vu.len vg
  have q2 := values_for_ok (k := k) (S := ([] : Store)) t vr vu.len vh
  simp only [f15, startD, wp_exs]
  refine s_par ?_
  simp only [w_call, w_es, w_es0, w_idx, w_int]
  simp only [w_var]
  simp
  refine d_idxT.mpr ⟨_, nth_one, (wp_eq q1).mpr (d_idxT.mpr ⟨_, nth_one, (wp_eq q2).mpr ?_⟩)⟩
  refine ⟨_, rfl, ?_⟩
  simp only [s_ret]
  refine wp_lc keys.zipIdx (fun p => .tup [.int (p.2 : Nat), tupI p.1]) (fun p => if agree (vals rs takes g) (vals rs takes h) p.1 then some (.int (p.2 : Nat)) else none) ?_ ?_ ?_
  · refine sr_enum' ?_
    simp only [w_idx, w_int]
    simp only [w_var]
    simp
    exact d_idxT.mpr ⟨_, nth_zero, _, rfl, enum_enc tupI keys 0, rfl⟩
  · rintro ⟨key, i⟩ hp
    have hk : key ∈ keys := List.fst_mem_of_mem_zipIdx hp
    have q := do_agree_ok (k := k + 1) (S := ([] : Store)) (a := vals rs takes g) (b := vals rs takes h) (key := key) t (fun f hf => by
      obtain ⟨_, z, _⟩ := vu.key key hk
      have := z f hf
      rw [vals_len, vu.len]; exact this) (by rw [vals_len, vals_len])
    refine ⟨_, rfl, ?_⟩
    refine w_c1.mpr ?_
    simp only [w_call, w_es, w_es0]
    simp only [w_var]
    simp [wipeD]
    refine (wp_eq q).mpr ?_
    cases z : agree (vals rs takes g) (vals rs takes h) key with
    | false => simp
    | true => simp
  · have e : (keys.zipIdx.filterMap fun p => if agree (vals rs takes g) (vals rs takes h) p.1 then some (D.int (p.2 : Nat)) else none) = (keysFor rs keys takes g h).map D.int := by
      unfold keysFor
      rw [List.map_filterMap]
      congr 1
      funext p
      split <;> rfl
    rw [e]
    simp only [freeze, dat]
    exact if_pos (dats_map _ dat_I _)
/-- no record of both -/
theorem matching_ok (t : TG9 T) (t16 : T 16 = some f16) {n : Nat} {rs : List Rec} {keys : List (List Int)} {takes : List Tk} {g h : List Int} (vr : VR n rs) (vu : VU n keys takes) (vg : VG rs g) (vh : VG rs h) (hd : ∀ i ∈ g, i ∉ h) :
    callI T GG (k + 6) 16 [encRs rs, encU keys takes, tupI g, tupI h] S = .ok (tupI (keysFor rs keys takes g h)) S := by
  refine call_pure t16 rfl (by simp only [dats, dat_Rs, dat_U, dat_tupI, Bool.and_self]) rfl ?_
  have q1 := check8 (k := k) (S := ([] : Store)) t.toTG vr vu
  have q2 := check10 (k := k + 2) (S := ([] : Store)) t vg.ok
  have q3 := check10 (k := k + 2) (S := ([] : Store)) t vh.ok
  have q4 := keys_for_ok (k := k + 2) (S := ([] : Store)) t.toTG vr vu vg vh
  simp only [f16, startD, wp_exs, s_ex, s_ife, s_ret, w_call, w_es, w_es0, w_bi]
  simp only [w_var]
  simp
  refine (wp_eq q1).mpr ((wp_eq q2).mpr ((wp_eq q3).mpr ?_))
  refine wp_lc g D.int (fun v => some (.bl (h.contains v))) ?_ ?_ ?_
  · exact sr_val' (by simp [w_var, seqD, tupI])
  · intro v hv
    refine ⟨_, rfl, ⟨true, _, by simp only [evC], rfl, .inr ⟨rfl, ?_⟩⟩⟩
    simp only [w_cmp]
    simp only [w_var]
    simp [wipeD, tupI]
    refine (d_inT rfl (okDs_int _ h)).mpr ?_
    simp [anyEq_ints]
  · have e : g.filterMap (fun v => some (D.bl (h.contains v))) = (g.map fun v => h.contains v).map D.bl := by
      rw [filterMap_some, List.map_map]; rfl
    have e2 : (g.map fun v => h.contains v).any id = false := by
      simp only [List.any_map, List.any_eq_false]
      intro x hx
      simpa using hd x hx
    rw [e, d_any, e2]
    simp [wp_exs0]
    refine (wp_eq q4).mpr (d_tupL.mpr ?_)
    show freeze [] (tupI _) = _
    simp only [freeze, tupI]
    exact if_pos (dat_tupI _)
end
end G11

/-! Lib7: the draws -/
namespace G11
def sCount : List Nat := [99, 111, 117, 110, 116]
def sRests : List Nat := [114, 101, 115, 116, 115]
/-- the rests: ints under numbers below 63 -/
structure Rests (r : List (KY × D)) : Prop where
  int : ∀ p ∈ r, ∃ i v : Int, p = (.i i, .int v) ∧ 0 ≤ i ∧ i < 64
  nd : (r.map (·.1)).Nodup
/-- the town, ahead of what else is in the store -/
def Town (S : Store) : Prop := ∃ r n J, S = .dk r :: .dk [(.s sCount, .int n), (.s sRests, .ref 0)] :: J ∧ Rests r
/-- from S to S': the town alone has changed -/
def Step (S S' : Store) : Prop := ∃ r n r' n' J, S = .dk r :: .dk [(.s sCount, .int n), (.s sRests, .ref 0)] :: J ∧ S' = .dk r' :: .dk [(.s sCount, .int n'), (.s sRests, .ref 0)] :: J ∧ Rests r'
theorem Rests.look {r : List (KY × D)} (h : Rests r) (i : Int) : r.lookup (.i i) = none ∨ ∃ v, r.lookup (.i i) = some (.int v) := by
  induction r with
  | nil => exact .inl rfl
  | cons p r ih =>
    obtain ⟨j, v, rfl, _, _⟩ := h.int p List.mem_cons_self
    have h' : Rests r := ⟨fun q hq => h.int q (List.mem_cons_of_mem _ hq), by have := h.nd; simp at this; exact this.2⟩
    rw [List.lookup_cons]
    by_cases e : i = j
    · subst e
      right; exact ⟨v, by simp⟩
    · have q : (KY.i i == KY.i j) = false := by simpa using e
      rw [q]; exact ih h'
theorem pigeon : ∀ (n : Nat) (l : List Nat), l.Nodup → (∀ x ∈ l, x < n) → l.length ≤ n
  | 0, l, _, h => by
    cases l with
    | nil => exact Nat.le_refl _
    | cons x l => exact absurd (h x List.mem_cons_self) (Nat.not_lt_zero _)
  | n + 1, l, hn, h => by
    have ih := pigeon n (l.erase n) (hn.erase n) fun x hx => by
      have h1 := (List.Nodup.mem_erase_iff hn).mp hx
      have h2 := h x h1.2
      have h3 : x ≠ n := h1.1
      omega
    by_cases hm : n ∈ l
    · rw [List.length_erase_of_mem hm] at ih; omega
    · rw [List.erase_of_not_mem hm] at ih; omega
def kyN : KY → Nat
  | .i n => n.toNat
  | .s _ => 0
theorem Rests.len {r : List (KY × D)} (h : Rests r) : r.length ≤ 64 := by
  have z := pigeon 64 (r.map fun p => kyN p.1) ?_ ?_
  · rw [List.length_map] at z; exact z
  · rw [List.Nodup, List.pairwise_map]
    have nd := h.nd
    rw [List.Nodup, List.pairwise_map] at nd
    refine List.Pairwise.imp_of_mem (fun {p q} hp hq hne e => hne ?_) nd
    obtain ⟨i, v, rfl, i0, i1⟩ := h.int p hp
    obtain ⟨j, w, rfl, j0, j1⟩ := h.int q hq
    simp only [kyN] at e
    have : i = j := by omega
    rw [this]
  · intro x hx
    obtain ⟨p, hp, rfl⟩ := List.mem_map.mp hx
    obtain ⟨i, v, rfl, i0, i1⟩ := h.int p hp
    simp only [kyN]; omega
theorem look_mem {r : List (KY × D)} {k : KY} : (r.lookup k).isSome = true ↔ k ∈ r.map (·.1) := by
  induction r with
  | nil => simp
  | cons p r ih =>
    obtain ⟨a, b⟩ := p
    rw [List.lookup_cons]
    by_cases e : k = a
    · subst e; simp
    · have q : (k == a) = false := by simpa using e
      rw [q]; simp only [ih, List.map_cons, List.mem_cons, e, false_or]
theorem Rests.put {r : List (KY × D)} (h : Rests r) {i v : Int} (i0 : 0 ≤ i) (i1 : i < 64) : Rests (putA r (.i i) (.int v)) := by
  unfold putA
  split
  · refine ⟨fun p hp => ?_, ?_⟩
    · obtain ⟨q, hq, rfl⟩ := List.mem_map.mp hp
      obtain ⟨j, w, rfl, j0, j1⟩ := h.int q hq
      dsimp only
      split
      · exact ⟨j, v, rfl, j0, j1⟩
      · exact ⟨j, w, rfl, j0, j1⟩
    · have e : ((r.map fun p => if p.1 = KY.i i then (p.1, D.int v) else p).map (·.1)) = r.map (·.1) := by
        rw [List.map_map]
        refine List.map_congr_left fun p _ => ?_
        dsimp only [Function.comp]
        split <;> rfl
      rw [e]; exact h.nd
  · rename_i hn
    have hn' : KY.i i ∉ r.map (·.1) := fun z => hn (look_mem.mpr z)
    refine ⟨fun p hp => ?_, ?_⟩
    · rcases List.mem_append.mp hp with z | z
      · exact h.int p z
      · rw [List.mem_singleton.mp z]; exact ⟨i, v, rfl, i0, i1⟩
    · rw [List.map_append]
      refine List.nodup_append.mpr ⟨h.nd, by simp, fun a ha b hb e => ?_⟩
      simp at hb
      subst hb
      subst e
      exact hn' ha
theorem Step.town {S S' : Store} (h : Step S S') : Town S' := by
  obtain ⟨r, n, r', n', J, _, e, hr⟩ := h
  exact ⟨r', n', J, e, hr⟩
theorem draw_ok {T : Nat → Option Fn} {k : Nat} {S : Store} (t : T 17 = some f17) {ns : List Int} (hns : ns.length ≤ 63) {many : Int} (m1 : 1 ≤ many) (m2 : many ≤ 1000) (h : Town S) :
    Wp (callI T GG (k + 1) 17 [.scl ns, .ref 1, .int many] S) fun d S' => ∃ v : Int, d = .int v ∧ 0 ≤ v ∧ v < many ∧ Step S S' := by
  obtain ⟨r, n, J, rfl, hr⟩ := h
  refine call_own t rfl rfl ?_
  have hc : ∀ (m : Int) (J : List O), getK (.dk r :: .dk [(.s sCount, .int m), (.s sRests, .ref 0)] :: J) 1 (.str sCount) = some (.int m) := fun m J => by
    simp [getK, asKY, List.lookup_cons]
  simp only [f17, startD, wp_exs, s_setI, s_set, w_bin, w_idx, w_str, w_int]
  simp only [w_var]
  simp
  refine d_idxR.mpr ⟨_, hc n J, ?_⟩
  refine ⟨_, rfl, ?_⟩
  have e1 : setItem (.ref 1) (.str sCount) (.int (n + 1)) (.dk r :: .dk [(.s sCount, .int n), (.s sRests, .ref 0)] :: J) = .ok () (.dk r :: .dk [(.s sCount, .int (n + 1)), (.s sRests, .ref 0)] :: J) := by
    simp [setItem, asKY, putA, List.lookup_cons, lim, sCount, sRests]
  refine (wp_eq e1).mpr ?_
  generalize hcn : n + 1 = c
  generalize hS : (.dk r :: .dk [(.s sCount, .int c), (.s sRests, .ref 0)] :: J : Store) = S1
  have hc1 : getK S1 1 (.str [99, 111, 117, 110, 116]) = some (.int c) := by rw [← hS]; exact hc c J
  have hc2 : getK S1 1 (.str [114, 101, 115, 116, 115]) = some (.ref 0) := by rw [← hS]; rfl
  -- where
  have hat : Wp (ev (callI T GG k) GG (.ifL 0 (.bin .mod (.idx (.var 1) (.str [99, 111, 117, 110, 116])) (.bi .len (.var 0))) (.int 0)) [some (.scl ns), some (.ref 1), some (.int many), none, none, none] S1)
      fun d S2 => S2 = S1 ∧ ∃ a : Int, d = .int a ∧ 0 ≤ a ∧ a < 64 ∧ (ns ≠ [] → a < ns.length) := by
    simp only [w_ifL, w_bin, w_idx, w_str, w_bi, w_int]
    simp only [w_var]
    simp
    by_cases e : ns = []
    · rw [if_pos e]; exact fun z => absurd e z
    · rw [if_neg e]
      refine d_idxR.mpr ⟨_, hc1, d_lenS.mpr ?_⟩
      have hp : 0 < (ns.length : Int) := by
        cases ns with
        | nil => exact absurd rfl e
        | cons x l => simp
      refine ⟨_, by simp only [doBin]; exact if_pos (by simpa using hp), rfl, _, rfl, Int.emod_nonneg _ (by omega), ?_, fun _ => Int.emod_lt_of_pos _ hp⟩
      have := Int.emod_lt_of_pos c hp
      omega
  refine hat.mono ?_
  rintro d S2 ⟨rfl, a, rfl, a0, a1, a2⟩
  -- what
  have hget : Wp (ev (callI T GG k) GG (.meth .get (.idx (.var 1) (.str [114, 101, 115, 116, 115])) (.cons (.var 3) (.cons (.ifL 0 (.idx (.var 0) (.var 3)) (.int 0)) .nil))) [some (.scl ns), some (.ref 1), some (.int many), some (.int a), none, none] S2)
      fun d S3 => S3 = S2 ∧ ∃ v : Int, d = .int v := by
    simp only [w_meth, w_es, w_es0, w_ifL, w_idx, w_str, w_int]
    simp only [w_var]
    simp
    refine d_idxR.mpr ⟨_, hc2, ?_⟩
    have h0 : S2[0]? = some (.dk r) := by rw [← hS]; rfl
    refine ⟨by unfold mtOk; simp only [h0]; rfl, ?_⟩
    have fin : ∀ v : Int, Wp (doMeth .get (.ref 0) [.int a, .int v] S2) fun d S3 => S3 = S2 ∧ ∃ v : Int, d = .int v := fun v => by
      refine ⟨(r.lookup (.i a)).getD (.int v), S2, by simp only [doMeth, h0, asKY], rfl, ?_⟩
      rcases hr.look a with z | ⟨w, z⟩
      · exact ⟨v, by rw [z]; rfl⟩
      · exact ⟨w, by rw [z]; rfl⟩
    by_cases e : ns = []
    · rw [if_pos e]; exact fin 0
    rw [if_neg e]
    refine d_idxS.mpr ⟨_, nth_enc (e := D.int) a0 (a2 e) 0, fin _⟩
  refine hget.mono ?_
  rintro d S3 ⟨rfl, v, rfl⟩
  have h0 : S3[0]? = some (.dk r) := by rw [← hS]; rfl
  have stp : Step (.dk r :: .dk [(.s sCount, .int n), (.s sRests, .ref 0)] :: J) S3 := ⟨r, n, r, c, J, rfl, hS.symm, hr⟩
  simp only [s_ife, w_cmp, w_bin, w_int]
  simp only [w_var]
  simp
  refine ⟨.int (10 ^ 18), rfl, d_ge.mpr ?_⟩
  by_cases hb : (10 ^ 18 : Int) ≤ v
  · refine .inr ⟨by rw [decide_eq_true hb], ?_⟩
    simp only [wp_exs, s_setI, s_ret, w_bin, w_idx, w_str]
    simp only [w_var]
    simp
    refine ⟨.int (v / many), by simp only [doBin]; exact if_pos (by simp; omega), d_idxR.mpr ⟨_, hc2, ?_⟩⟩
    have e2 : setItem (.ref 0) (.int a) (.int (v / many)) S3 = .ok () (S3.set 0 (.dk (putA r (.i a) (.int (v / many))))) := by
      simp only [setItem, h0, asKY]
      exact if_pos (by have := hr.len; show _ < 1000000; omega)
    refine (wp_eq e2).mpr ?_
    refine ⟨.int (v % many), by simp only [doBin]; exact if_pos (by simp; omega), v % many, rfl, Int.emod_nonneg _ (by omega), Int.emod_lt_of_pos _ (by omega), ?_⟩
    rw [← hS]
    exact ⟨r, n, _, c, J, rfl, rfl, hr.put a0 a1⟩
  · refine .inl ⟨by rw [decide_eq_false hb], ?_⟩
    refine wp_exs0.mpr ?_
    simp
    refine d_idxR.mpr ⟨_, hc1, .int (104729 * c), by simp only [doBin]; exact if_pos (by simp [bound]), .int (v + 104729 * c), rfl, .int ((v + 104729 * c) % 4294967291), rfl, ?_⟩
    have x0 := Int.emod_nonneg (v + 104729 * c) (show (4294967291 : Int) ≠ 0 by decide)
    have x1 := Int.emod_lt_of_pos (v + 104729 * c) (show (0 : Int) < 4294967291 by decide)
    generalize (v + 104729 * c) % 4294967291 = x at x0 x1
    refine ⟨.int (x ^ 5), by simp only [doBin]; exact if_pos (by simp [bound]; omega), .int (x ^ 5 % 4294967279), rfl, ?_⟩
    have y0 := Int.emod_nonneg (x ^ 5) (show (4294967279 : Int) ≠ 0 by decide)
    have y1 := Int.emod_lt_of_pos (x ^ 5) (show (0 : Int) < 4294967279 by decide)
    generalize x ^ 5 % 4294967279 = y at y0 y1
    simp only [s_ret, w_bin, w_int]
    simp only [w_var]
    simp
    refine ⟨.int (y / 64), rfl, .int (y / 64 * 69621), by simp only [doBin]; exact if_pos (by simp [bound]), .int (y / 64 * 69621 + y), rfl, .int ((y / 64 * 69621 + y) % 4294967231), rfl, .int ((y / 64 * 69621 + y) % 4294967231 / 8), rfl, ?_⟩
    exact ⟨.int ((y / 64 * 69621 + y) % 4294967231 / 8 % many), by simp only [doBin]; exact if_pos (by simp; omega), _, rfl, Int.emod_nonneg _ (by omega), Int.emod_lt_of_pos _ (by omega), stp⟩
end G11

/-! Lib8: the drawn records, rules, parts -/
namespace G11
/-- of the draws, from S to S': the town, and the objects behind it kept -/
theorem Step.trans {A B C : Store} (h : Step A B) (h' : Step B C) : Step A C := by
  obtain ⟨r, n, r', n', J, e1, e2, _⟩ := h
  obtain ⟨s, m, s', m', J', e3, e4, hr⟩ := h'
  rw [e2] at e3
  simp only [List.cons.injEq] at e3
  obtain ⟨_, _, rfl⟩ := e3
  exact ⟨r, n, s', m', J, e1, e4, hr⟩
theorem Step.refl {S : Store} (h : Town S) : Step S S := by
  obtain ⟨r, n, J, rfl, hr⟩ := h
  exact ⟨r, n, r, n, J, rfl, rfl, hr⟩
/-- a comprehension whose items draw -/
theorem lcM_draw {f : D → M (Option D)} {α β : Type} {e : α → D} {b : β → D} {Pr : α → β → Prop} : ∀ (xs : List α) (S : Store), Town S → (∀ x ∈ xs, ∀ S, Town S → Wp (f (e x) S) fun o S' => ∃ y, o = some (b y) ∧ Pr x y ∧ Step S S') →
    Wp (lcM f (xs.map e) S) fun ds S' => ∃ ys : List β, ds = ys.map b ∧ ys.length = xs.length ∧ (∀ y ∈ ys, ∃ x ∈ xs, Pr x y) ∧ Step S S'
  | [], S, ht, _ => ⟨[], S, rfl, [], rfl, rfl, fun _ z => (by cases z), Step.refl ht⟩
  | x :: xs, S, ht, h => by
    obtain ⟨o, S1, e1, y, rfl, p1, s1⟩ := h x List.mem_cons_self S ht
    obtain ⟨ds, S2, e2, ys, rfl, l2, p2, s2⟩ := lcM_draw xs S1 s1.town fun z hz => h z (List.mem_cons_of_mem _ hz)
    refine ⟨(b y :: ys.map b), S2, by simp only [List.map_cons, lcM, e1, e2], y :: ys, rfl, by simp [l2], fun z hz => ?_, s1.trans s2⟩
    rcases List.mem_cons.mp hz with rfl | hz
    · exact ⟨x, List.mem_cons_self, p1⟩
    · obtain ⟨w, hw, pw⟩ := p2 z hz
      exact ⟨w, List.mem_cons_of_mem _ hw, pw⟩
theorem wp_lcD {Γ : Nat → List D → M D} {G : List D} {own : List Nat} {tg : Tg} {sr : Sr} {elt : E} {env : EnvD} {S : Store} {P : D → Store → Prop} {α β : Type} (xs : List α) (e : α → D) (b : β → D) (Pr : α → β → Prop) (ht : Town S)
    (h1 : Wp (evSr Γ G sr env S) fun ys S' => ys = xs.map e ∧ S' = S)
    (h2 : ∀ x ∈ xs, ∃ env', bindTg (wipeD env own) tg (e x) = some env' ∧ ∀ S, Town S → Wp (ev Γ G elt env' S) fun d S' => ∃ y, d = b y ∧ Pr x y ∧ Step S S')
    (h3 : ∀ (ys : List β) (S' : Store), ys.length = xs.length → (∀ y ∈ ys, ∃ x ∈ xs, Pr x y) → Step S S' → P (.lst (ys.map b)) S') : Wp (ev Γ G (.lc own tg sr .nil elt) env S) P := by
  have q1 := h1.eq
  simp only [ev]
  rw [wp_bind, wp_eq q1]
  have q2 := lcM_draw (f := fun x => match bindTg (wipeD env own) tg x with
      | none => M.bad
      | some env' => M.bind (evC Γ G .nil env') fun b => if b then M.bind (ev Γ G elt env') fun y => M.pure (some y) else M.pure none) (e := e) (b := b) (Pr := Pr) xs S ht fun x hx S0 ht0 => by
    obtain ⟨env', b1, b2⟩ := h2 x hx
    obtain ⟨d, S1, e1, y, rfl, p1, s1⟩ := b2 S0 ht0
    refine ⟨some (b y), S1, ?_, y, rfl, p1, s1⟩
    simp only [b1, M.bind, evC, if_true]
    show M.bind (ev Γ G elt env') (fun y => M.pure (some y)) S0 = _
    unfold M.bind
    rw [e1]
  obtain ⟨ds, S', e2, ys, rfl, l, p, st⟩ := q2
  refine ⟨_, S', ?_, h3 ys S' l p st⟩
  exact congrArg (fun r : R (List D) => match noExc r with
    | .ok ys S' => R.ok (D.lst ys) S'
    | .exc c S' => .exc c S'
    | .bad => .bad) e2
theorem Step.keep {S S' : Store} (h : Step S S') {j : Nat} (hj : 2 ≤ j) : S'[j]? = S[j]? := by
  obtain ⟨r, n, r', n', J, rfl, rfl, _⟩ := h
  obtain ⟨i, rfl⟩ : ∃ i, j = i + 2 := ⟨j - 2, by omega⟩
  rfl
theorem Town.set {S : Store} (h : Town S) {j : Nat} (hj : 2 ≤ j) (o : O) : Town (S.set j o) := by
  obtain ⟨r, n, J, rfl, hr⟩ := h
  obtain ⟨i, rfl⟩ : ∃ i, j = i + 2 := ⟨j - 2, by omega⟩
  exact ⟨r, n, J.set i o, rfl, hr⟩
theorem Town.add {S : Store} (h : Town S) (o : O) : Town (S ++ [o]) := by
  obtain ⟨r, n, J, rfl, hr⟩ := h
  exact ⟨r, n, J ++ [o], rfl, hr⟩
theorem Town.two {S : Store} (h : Town S) : 2 ≤ S.length := by
  obtain ⟨r, n, J, rfl, hr⟩ := h
  simp
/-- a list that is being filled -/
structure Fill (S : Store) (j : Nat) (xs : List D) : Prop where
  town : Town S
  two : 2 ≤ j
  here : S[j]? = some (.lst xs)
theorem Fill.step {S S' : Store} {j : Nat} {xs : List D} (h : Fill S j xs) (s : Step S S') : Fill S' j xs := ⟨s.town, h.two, by rw [s.keep h.two]; exact h.here⟩
theorem Fill.app {S : Store} {j : Nat} {xs : List D} (h : Fill S j xs) (d : D) (hl : xs.length < lim) : doMeth .append (.ref j) [d] S = .ok .non (S.set j (.lst (xs ++ [d]))) ∧ Fill (S.set j (.lst (xs ++ [d]))) j (xs ++ [d]) := by
  refine ⟨by simp only [doMeth, h.here]; exact if_pos hl, h.town.set h.two _, h.two, ?_⟩
  have hlt : j < S.length := (List.getElem?_eq_some_iff.mp h.here).1
  rw [List.getElem?_set_self hlt]
theorem Fill.new {S : Store} (h : Town S) : Fill (S ++ [.lst []]) S.length [] := ⟨h.add _, h.two, by simp⟩
theorem mt_list {S : Store} {j : Nat} {xs : List D} (h : Fill S j xs) : mtOk .append (.ref j) S = true := by
  unfold mtOk; simp only [h.here]; rfl
end G11

/-! Lib9: _law_records, _law_rules -/
namespace G11
/-- a value that a law draws -/
def drawnV (v : Option Int) : Prop := v = none ∨ v = some 0 ∨ v = some 1 ∨ v = some 2
/-- records that a law draws -/
structure DR (n most : Nat) (rs : List Rec) : Prop where
  lo : 1 ≤ rs.length
  hi : rs.length ≤ most
  row : ∀ r ∈ rs, r.length = n ∧ ∀ v ∈ r, drawnV v
theorem range_enc : ∀ (n : Nat) (lo : Nat), rangeD (lo : Int) n = (List.range' lo n).map fun i => D.int (i : Nat)
  | 0, _ => rfl
  | n + 1, lo => by
    have e : ((lo : Int) + 1) = ((lo + 1 : Nat) : Int) := by omega
    rw [rangeD, e, range_enc n (lo + 1), List.range'_succ, List.map_cons]
theorem range0 (n : Nat) : rangeD 0 n = (List.range' 0 n).map fun i => D.int (i : Nat) := range_enc n 0
section
variable {T : Nat → Option Fn} {k : Nat} {S : Store} {ns : List Int}
/-- one record -/
theorem row_drawn (t : T 17 = some f17) (hns : ns.length ≤ 63) {n : Nat} (hn : n ≤ 4) {env : EnvD} (e0 : env[0]? = some (some (.scl ns))) (e1 : env[1]? = some (some (.ref 1))) (e2 : env[2]? = some (some (.int n))) (h6 : env.length = 7) (ht : Town S) :
    Wp (ev (callI T GG (k + 1)) GG (.bi .tuple (.lc [6] (.nm 6) (.rng (.var 2)) .nil (.idx (.tup (.cons (.int 0) (.cons (.int 1) (.cons (.int 0) (.cons (.int 1) (.cons (.int 2) (.cons .non .nil))))))) (.call 17 (.cons (.var 0) (.cons (.var 1) (.cons (.int 6) .nil))))))) env S)
      fun d S' => ∃ r : Rec, d = encR r ∧ r.length = n ∧ (∀ v ∈ r, drawnV v) ∧ Step S S' := by
  refine w_bi.mpr ?_
  refine wp_lcD (List.range' 0 n) (fun i => D.int (i : Nat)) encV (fun _ v => drawnV v) ht ?_ ?_ ?_
  · refine sr_rng' (w_var.mpr ⟨_, e2, n, rfl, by omega, by omega, ?_, rfl⟩)
    rw [Int.toNat_natCast, range0]
  · intro x hx
    refine ⟨_, rfl, fun S0 ht0 => ?_⟩
    refine w_idx.mpr (w_tup.mpr ?_)
    simp only [w_es, w_es0, w_int, w_non, w_call]
    refine ⟨by decide, ?_⟩
    refine w_var.mpr ⟨.scl ns, by simp [wipeD, e0], w_var.mpr ⟨.ref 1, by simp [wipeD, e1], ?_⟩⟩
    refine (draw_ok (k := k) t hns (by decide) (by decide) ht0).mono ?_
    rintro d S1 ⟨v, rfl, v0, v1, st⟩
    refine d_idxT.mpr ?_
    have hv : v = 0 ∨ v = 1 ∨ v = 2 ∨ v = 3 ∨ v = 4 ∨ v = 5 := by omega
    rcases hv with rfl | rfl | rfl | rfl | rfl | rfl
    · exact ⟨.int 0, rfl, some 0, rfl, .inr (.inl rfl), st⟩
    · exact ⟨.int 1, rfl, some 1, rfl, .inr (.inr (.inl rfl)), st⟩
    · exact ⟨.int 0, rfl, some 0, rfl, .inr (.inl rfl), st⟩
    · exact ⟨.int 1, rfl, some 1, rfl, .inr (.inr (.inl rfl)), st⟩
    · exact ⟨.int 2, rfl, some 2, rfl, .inr (.inr (.inr rfl)), st⟩
    · exact ⟨.non, rfl, none, rfl, .inl rfl, st⟩
  · intro ys S' hl hy st
    refine d_tupL.mpr ⟨ys, rfl, by simpa using hl, fun v hv => ?_, st⟩
    obtain ⟨_, _, z⟩ := hy v hv
    exact z
theorem records_drawn (t : T 17 = some f17) (t2 : T 20 = some f20) (hns : ns.length ≤ 63) {n most : Nat} (hn : n ≤ 4) (m1 : 1 ≤ most) (m6 : most ≤ 6) (ht : Town S) :
    Wp (callI T GG (k + 2) 20 [.scl ns, .ref 1, .int n, .int most] S) fun d S' => ∃ rs : List Rec, d = encRs rs ∧ DR n most rs ∧ Town S' := by
  refine call_own t2 rfl rfl ?_
  simp only [f20, startD, wp_exs, s_set, w_newL, w_es0]
  refine ⟨by decide, ?_⟩
  have F0 := Fill.new ht
  generalize S ++ [O.lst []] = S0 at F0 ⊢
  generalize S.length = j at F0 ⊢
  have hd := draw_ok (k := k) (many := most) t hns (by omega) (by omega) F0.town
  obtain ⟨_, S1, q1, v, rfl, v0, v1, st⟩ := hd
  have F1 := F0.step st
  refine s_for (List.range' 0 (1 + v.toNat)) (fun i => D.int (i : Nat)) (fun rest env S => ∃ rs : List Rec, Fill S j (rs.map encR) ∧ rs.length + rest.length = 1 + v.toNat ∧ (∀ r ∈ rs, r.length = n ∧ ∀ v ∈ r, drawnV v) ∧ env[0]? = some (some (.scl ns)) ∧ env[1]? = some (some (.ref 1)) ∧ env[2]? = some (some (.int n)) ∧ env[4]? = some (some (.ref j)) ∧ env.length = 7) ?_ ?_ ?_
  · refine sr_rng' ?_
    simp only [w_bin, w_int, w_call, w_es, w_es0]
    simp only [w_var]
    simp
    refine (wp_eq q1).mpr ⟨.int (1 + v), rfl, 1 + v, rfl, by omega, by omega, ?_, [], F1, by simp, fun _ z => (by cases z)⟩
    have e : (1 + v).toNat = 1 + v.toNat := by omega
    rw [e, range0]
  · rintro x r env S ⟨rs, F, hl, hrow, e0, e1, e2, e4, e7⟩ _
    refine ⟨_, rfl, ?_⟩
    simp only [wp_exs, s_ex, w_meth, w_es, w_es0]
    refine w_var.mpr ⟨.ref j, by simp [e4], mt_list F, ?_⟩
    refine (row_drawn (k := k) t hns hn (env := env.set 5 (some (.int x))) (by simp [e0]) (by simp [e1]) (by simp [e2]) (by simp [e7]) F.town).mono ?_
    rintro d S2 ⟨row, rfl, r1, r2, st2⟩
    have F2 := F.step st2
    obtain ⟨a1, a2⟩ := F2.app (encR row) (by rw [List.length_map]; simp at hl; show _ < 1000000; omega)
    refine (wp_eq a1).mpr (wp_exs0.mpr ⟨rs ++ [row], by simpa using a2, by simp at hl ⊢; omega, fun r hr => ?_, by simp [e0], by simp [e1], by simp [e2], by simp [e4], by simp [e7]⟩)
    rcases List.mem_append.mp hr with z | z
    · exact hrow r z
    · rw [List.mem_singleton.mp z]; exact ⟨r1, r2⟩
  · rintro env S ⟨rs, F, hl, hrow, e0, e1, e2, e4, e7⟩
    simp only [s_ret, w_bi]
    refine w_var.mpr ⟨_, e4, ?_⟩
    refine ⟨.tup (rs.map encR), S, by simp only [doBi, F.here], rs, rfl, ⟨?_, ?_, hrow⟩, F.town⟩
    · simp at hl; omega
    · simp at hl; omega
end
end G11

/-! Aut: one word that runs the interpreter as far as it goes -/
namespace G11
section
variable {Γ : Nat → List D → M D} {G : List D} {env : EnvD} {S : Store} {P : Fl × EnvD → Store → Prop} {Q : D → Store → Prop} {L : List D → Store → Prop}
theorem a_unp {is : List Nat} {e : E} : Wp (ex Γ G (.unp is e) env S) P ↔ Wp (ev Γ G e env S) fun x S1 => ∃ ds, x = .tup ds ∧ ∃ env', setAll env is ds = some env' ∧ P (.nx, env') S1 := by
  simp only [ex]
  refine wp_bind.trans (wp_congr fun x S1 => ?_)
  cases x with
  | tup ds =>
    simp only [D.tup.injEq, exists_eq_left']
    cases q : setAll env is ds with
    | none => simp [wp_mbad]
    | some env' => simp [wp_pure]
  | _ => simp [wp_mbad]
theorem a_par {is : List Nat} {es : Es} : Wp (ex Γ G (.par is es) env S) P ↔ Wp (evs Γ G es env S) fun ds S1 => ∃ env', setAll env is ds = some env' ∧ P (.nx, env') S1 := by
  simp only [ex]
  refine wp_bind.trans (wp_congr fun ds S1 => ?_)
  cases q : setAll env is ds with
  | none => simp [wp_mbad]
  | some env' => simp [wp_pure]
theorem a_aug {i : Nat} {e : E} {n : Int} (h : env[i]? = some (some (.int n))) : Wp (ex Γ G (.aug i e) env S) P ↔ Wp (ev Γ G e env S) fun x S1 => ∃ m, x = .int m ∧ P (.nx, env.set i (some (.int (n + m)))) S1 := by
  simp only [ex, h]
  match q : ev Γ G e env S with
  | .ok (.int m) S' => simp [wp_ok]
  | .ok (.non) S' | .ok (.bl _) S' | .ok (.str _) S' | .ok (.tup _) S' | .ok (.lst _) S' | .ok (.ref _) S' | .ok (.fn _) S' | .ok (.scl _) S' => simp [wp_ok, wp_bad]
  | .exc c S' => simp [wp_exc]
  | .bad => simp [wp_bad]
theorem a_srT {e : E} : Wp (evSr Γ G (.val e) env S) L ↔ Wp (ev Γ G e env S) fun x S1 => ∃ xs, seqD x = some xs ∧ L xs S1 := by
  simp only [evSr]
  exact wp_bind.trans (wp_congr fun x S1 => wp_of)
end
end G11

/-! Enc: operations on encoded values -/
namespace G11
theorem deqs_enc {α : Type} [DecidableEq α] (e : α → D) (h : ∀ a b, deq (e a) (e b) = decide (a = b)) : ∀ a b : List α, deqs (a.map e) (b.map e) = decide (a = b)
  | [], [] => rfl
  | [], _ :: _ => by simp [deqs]
  | _ :: _, [] => by simp [deqs]
  | x :: a, y :: b => by
    simp only [List.map_cons, deqs, h, deqs_enc e h a b, List.cons.injEq]
    by_cases h1 : x = y <;> by_cases h2 : a = b <;> simp [h1, h2]
theorem deq_int (a b : Int) : deq (.int a) (.int b) = decide (a = b) := rfl
theorem deq_tupI (a b : List Int) : deq (tupI a) (tupI b) = decide (a = b) := by simp only [tupI, deq]; exact deqs_enc _ deq_int a b
theorem deq_tupT (a b : LL) : deq (tupT a) (tupT b) = decide (a = b) := by simp only [tupT, deq]; exact deqs_enc _ deq_tupI a b
theorem deq_V (a b : Option Int) : deq (encV a) (encV b) = decide (a = b) := by
  cases a <;> cases b <;> simp [encV, deq]
  rfl
theorem deq_R (a b : Rec) : deq (encR a) (encR b) = decide (a = b) := by simp only [encR, deq]; exact deqs_enc _ deq_V a b
theorem deq_Rs (a b : List Rec) : deq (encRs a) (encRs b) = decide (a = b) := by simp only [encRs, deq]; exact deqs_enc _ deq_R a b
theorem deq_T (a b : Tk) : deq (encT a) (encT b) = decide (a = b) := by cases a <;> cases b <;> rfl
theorem okDs_enc {α : Type} (e : α → D) {n : Nat} (h : ∀ a, okD n (e a) = true) : ∀ l : List α, okDs n (l.map e) = true
  | [] => rfl
  | a :: l => by simp only [List.map_cons, okDs, h, okDs_enc e h l, Bool.and_self]
theorem ok_int (n : Nat) (a : Int) : okD n (.int a) = true := by cases n <;> rfl
theorem ok_tupI (n : Nat) (a : List Int) : okD (n + 1) (tupI a) = true := by simp only [tupI, okD]; exact okDs_enc _ (ok_int n) a
theorem ok_tupT (n : Nat) (a : LL) : okD (n + 2) (tupT a) = true := by simp only [tupT, okD]; exact okDs_enc _ (ok_tupI n) a
theorem ok_V (n : Nat) (a : Option Int) : okD n (encV a) = true := by cases a <;> cases n <;> rfl
theorem ok_R (n : Nat) (a : Rec) : okD (n + 1) (encR a) = true := by simp only [encR, okD]; exact okDs_enc _ (ok_V n) a
theorem ok_Rs (n : Nat) (a : List Rec) : okD (n + 2) (encRs a) = true := by simp only [encRs, okD]; exact okDs_enc _ (ok_R n) a
theorem ok_T (n : Nat) (a : Tk) : okD n (encT a) = true := by cases a <;> cases n <;> rfl
theorem anyEq_enc {α : Type} [DecidableEq α] (e : α → D) (h : ∀ a b, deq (e a) (e b) = decide (a = b)) (x : α) : ∀ l : List α, anyEq (e x) (l.map e) = decide (x ∈ l)
  | [] => by simp [anyEq]
  | y :: l => by
    simp only [List.map_cons, anyEq, h, anyEq_enc e h x l, List.mem_cons]
    by_cases h1 : y = x
    · simp [h1]
    · have h2 : ¬ x = y := fun z => h1 z.symm
      simp [h1, h2]
/-- alike as a tuple and as a list -/
theorem deqL_enc {α : Type} [DecidableEq α] (e : α → D) (h : ∀ a b, deq (e a) (e b) = decide (a = b)) (a b : List α) : deq (.lst (a.map e)) (.lst (b.map e)) = decide (a = b) := by
  simp only [deq]; exact deqs_enc e h a b
section
variable {S : Store} {P : D → Store → Prop}
theorem e_eqE {α : Type} [DecidableEq α] {e : α → D} (h : ∀ a b, deq (e a) (e b) = decide (a = b)) (ho : ∀ a, okD 60 (e a) = true) {a b : α} : Wp (doCmpS .eq (e a) (e b) S) P ↔ P (.bl (decide (a = b))) S := by
  rw [d_eq (ho a) (ho b), h]
theorem e_neE {α : Type} [DecidableEq α] {e : α → D} (h : ∀ a b, deq (e a) (e b) = decide (a = b)) (ho : ∀ a, okD 60 (e a) = true) {a b : α} : Wp (doCmpS .ne (e a) (e b) S) P ↔ P (.bl (!decide (a = b))) S := by
  rw [d_ne (ho a) (ho b), h]
theorem e_inT {α : Type} [DecidableEq α] {e : α → D} (h : ∀ a b, deq (e a) (e b) = decide (a = b)) (ho : ∀ a, okD 60 (e a) = true) {a : α} {l : List α} : Wp (doCmpS .isin (e a) (.tup (l.map e)) S) P ↔ P (.bl (decide (a ∈ l))) S := by
  rw [d_inT (ho a) (okDs_enc e ho l), anyEq_enc e h]
theorem e_notT {α : Type} [DecidableEq α] {e : α → D} (h : ∀ a b, deq (e a) (e b) = decide (a = b)) (ho : ∀ a, okD 60 (e a) = true) {a : α} {l : List α} : Wp (doCmpS .notin (e a) (.tup (l.map e)) S) P ↔ P (.bl (!decide (a ∈ l))) S := by
  rw [d_notT (ho a) (okDs_enc e ho l), anyEq_enc e h]
theorem e_inL {α : Type} [DecidableEq α] {e : α → D} (h : ∀ a b, deq (e a) (e b) = decide (a = b)) (ho : ∀ a, okD 60 (e a) = true) {a : α} {l : List α} : Wp (doCmpS .isin (e a) (.lst (l.map e)) S) P ↔ P (.bl (decide (a ∈ l))) S := by
  have q : doCmpS .isin (e a) (.lst (l.map e)) S = .ok (.bl (anyEq (e a) (l.map e))) S := by simp [doCmpS, doCmp, ho, okDs_enc e ho l]
  rw [q, wp_ok, anyEq_enc e h]
theorem e_notL {α : Type} [DecidableEq α] {e : α → D} (h : ∀ a b, deq (e a) (e b) = decide (a = b)) (ho : ∀ a, okD 60 (e a) = true) {a : α} {l : List α} : Wp (doCmpS .notin (e a) (.lst (l.map e)) S) P ↔ P (.bl (!decide (a ∈ l))) S := by
  have q : doCmpS .notin (e a) (.lst (l.map e)) S = .ok (.bl (!anyEq (e a) (l.map e))) S := by simp [doCmpS, doCmp, ho, okDs_enc e ho l]
  rw [q, wp_ok, anyEq_enc e h]
theorem e_eqI {a b : List Int} : Wp (doCmpS .eq (tupI a) (tupI b) S) P ↔ P (.bl (decide (a = b))) S := e_eqE deq_tupI (ok_tupI 59)
theorem e_neI {a b : List Int} : Wp (doCmpS .ne (tupI a) (tupI b) S) P ↔ P (.bl (!decide (a = b))) S := e_neE deq_tupI (ok_tupI 59)
theorem e_eqI0 {a : List Int} : Wp (doCmpS .eq (tupI a) (.tup []) S) P ↔ P (.bl (decide (a = []))) S := e_eqI (b := [])
theorem e_neI0 {a : List Int} : Wp (doCmpS .ne (tupI a) (.tup []) S) P ↔ P (.bl (!decide (a = []))) S := e_neI (b := [])
theorem e_eqT {a b : LL} : Wp (doCmpS .eq (tupT a) (tupT b) S) P ↔ P (.bl (decide (a = b))) S := e_eqE deq_tupT (ok_tupT 58)
theorem e_neT {a b : LL} : Wp (doCmpS .ne (tupT a) (tupT b) S) P ↔ P (.bl (!decide (a = b))) S := e_neE deq_tupT (ok_tupT 58)
theorem e_eqK {a b : LL} : Wp (doCmpS .eq (encK a) (encK b) S) P ↔ P (.bl (decide (a = b))) S := e_eqT
theorem e_neK {a b : LL} : Wp (doCmpS .ne (encK a) (encK b) S) P ↔ P (.bl (!decide (a = b))) S := e_neT
theorem e_eqR {a b : Rec} : Wp (doCmpS .eq (encR a) (encR b) S) P ↔ P (.bl (decide (a = b))) S := e_eqE deq_R (ok_R 59)
theorem e_neR {a b : Rec} : Wp (doCmpS .ne (encR a) (encR b) S) P ↔ P (.bl (!decide (a = b))) S := e_neE deq_R (ok_R 59)
theorem e_eqLI {a b : List Int} : Wp (doCmpS .eq (.lst (a.map .int)) (.lst (b.map .int)) S) P ↔ P (.bl (decide (a = b))) S := e_eqE (e := fun a : List Int => D.lst (a.map .int)) (deqL_enc _ deq_int) (fun a => okDs_enc _ (ok_int 59) a)
theorem e_neLI {a b : List Int} : Wp (doCmpS .ne (.lst (a.map .int)) (.lst (b.map .int)) S) P ↔ P (.bl (!decide (a = b))) S := e_neE (e := fun a : List Int => D.lst (a.map .int)) (deqL_enc _ deq_int) (fun a => okDs_enc _ (ok_int 59) a)
theorem e_eqLI0 {a : List Int} : Wp (doCmpS .eq (.lst (a.map .int)) (.lst []) S) P ↔ P (.bl (decide (a = []))) S := e_eqLI (b := [])
theorem e_neLI0 {a : List Int} : Wp (doCmpS .ne (.lst (a.map .int)) (.lst []) S) P ↔ P (.bl (!decide (a = []))) S := e_neLI (b := [])
theorem e_inI {a : Int} {l : List Int} : Wp (doCmpS .isin (.int a) (tupI l) S) P ↔ P (.bl (decide (a ∈ l))) S := e_inT deq_int (ok_int 60)
theorem e_notI {a : Int} {l : List Int} : Wp (doCmpS .notin (.int a) (tupI l) S) P ↔ P (.bl (!decide (a ∈ l))) S := e_notT deq_int (ok_int 60)
theorem e_inLI {a : Int} {l : List Int} : Wp (doCmpS .isin (.int a) (.lst (l.map .int)) S) P ↔ P (.bl (decide (a ∈ l))) S := e_inL deq_int (ok_int 60)
theorem e_notLI {a : Int} {l : List Int} : Wp (doCmpS .notin (.int a) (.lst (l.map .int)) S) P ↔ P (.bl (!decide (a ∈ l))) S := e_notL deq_int (ok_int 60)
theorem e_eqB {a b : Bool} : Wp (doCmpS .eq (.bl a) (.bl b) S) P ↔ P (.bl (a == b)) S := d_eq rfl rfl
theorem e_neB {a b : Bool} : Wp (doCmpS .ne (.bl a) (.bl b) S) P ↔ P (.bl (!(a == b))) S := d_ne rfl rfl
theorem e_neTk {t : Tk} : Wp (doCmpS .ne (encT t) (.str [97, 108, 108]) S) P ↔ P (.bl (!decide (t = .all))) S := e_neE (e := encT) (b := .all) deq_T (ok_T 60)
theorem e_lenI {l : List Int} : Wp (doBi .len (tupI l) S) P ↔ P (.int l.length) S := by
  unfold tupI; rw [d_lenT, List.length_map]
theorem e_lenK {l : LL} : Wp (doBi .len (encK l) S) P ↔ P (.int l.length) S := by
  unfold encK; rw [d_lenT, List.length_map]
theorem e_lenT {l : LL} : Wp (doBi .len (tupT l) S) P ↔ P (.int l.length) S := by
  unfold tupT; rw [d_lenT, List.length_map]
theorem e_lenRs {l : List Rec} : Wp (doBi .len (encRs l) S) P ↔ P (.int l.length) S := by
  unfold encRs; rw [d_lenT, List.length_map]
theorem e_lenR {l : Rec} : Wp (doBi .len (encR l) S) P ↔ P (.int l.length) S := by
  unfold encR; rw [d_lenT, List.length_map]
theorem e_U0 {keys : LL} {takes : List Tk} : Wp (doIdx (encU keys takes) (.int 0) S) P ↔ P (encK keys) S := by
  unfold encU; rw [d_idxT, nth_zero]; simp
theorem e_U1 {keys : LL} {takes : List Tk} : Wp (doIdx (encU keys takes) (.int 1) S) P ↔ P (.tup (takes.map encT)) S := by
  unfold encU; rw [d_idxT, nth_one]; simp
/-- an item of an encoded row -/
theorem e_at {α : Type} {e : α → D} {xs : List α} {i : Int} (h0 : 0 ≤ i) (h1 : i < xs.length) (dflt : α) : Wp (doIdx (.tup (xs.map e)) (.int i) S) P ↔ P (e (xs.getD i.toNat dflt)) S := by
  rw [d_idxT, nth_enc h0 h1 dflt]; simp
theorem e_atL {α : Type} {e : α → D} {xs : List α} {i : Int} (h0 : 0 ≤ i) (h1 : i < xs.length) (dflt : α) : Wp (doIdx (.lst (xs.map e)) (.int i) S) P ↔ P (e (xs.getD i.toNat dflt)) S := by
  rw [d_idxL, nth_enc h0 h1 dflt]; simp
theorem e_atK {xs : LL} {i : Int} (h0 : 0 ≤ i) (h1 : i < xs.length) : Wp (doIdx (encK xs) (.int i) S) P ↔ P (tupI (xs.getD i.toNat [])) S := e_at h0 h1 []
theorem e_atI {xs : List Int} {i : Int} (h0 : 0 ≤ i) (h1 : i < xs.length) : Wp (doIdx (tupI xs) (.int i) S) P ↔ P (.int (xs.getD i.toNat 0)) S := e_at h0 h1 0
theorem e_atRs {xs : List Rec} {i : Int} (h0 : 0 ≤ i) (h1 : i < xs.length) : Wp (doIdx (encRs xs) (.int i) S) P ↔ P (encR (xs.getD i.toNat [])) S := e_at h0 h1 []
theorem e_atR {xs : Rec} {i : Int} (h0 : 0 ≤ i) (h1 : i < xs.length) : Wp (doIdx (encR xs) (.int i) S) P ↔ P (encV (xs.getD i.toNat none)) S := e_at h0 h1 none
theorem e_tupLI {l : List Int} : Wp (doBi .tuple (.lst (l.map .int)) S) P ↔ P (tupI l) S := d_tupL
theorem e_tupLT {l : LL} : Wp (doBi .tuple (.lst (l.map tupI)) S) P ↔ P (encK l) S := d_tupL
end
/-! ### sorted, sorted(set) -/
theorem sSet_pw (l : List Int) : (sSet l).Pairwise (· < ·) := by
  unfold sSet
  rw [List.pairwise_map]
  have h1 := sortLL_srt (dedup (l.map fun n => [[n]]))
  have nd : (dedup (l.map fun n => [[n]])).Nodup := by
    generalize (l.map fun n => [[n]]) = m
    induction m with
    | nil => exact List.nodup_nil
    | cons x m ih =>
      unfold dedup
      split
      · exact ih
      · rename_i h
        refine List.nodup_cons.mpr ⟨fun z => h ?_, ih⟩
        have := dedup_mem'.mp z
        simpa using this
  have h2 : (sortLL (dedup (l.map fun n => [[n]]))).Nodup := (sortLL_perm _).nodup_iff.mpr nd
  have h3 : (sortLL (dedup (l.map fun n => [[n]]))).Pairwise fun a b => LeL a b ∧ a ≠ b := List.Pairwise.and h1 h2
  refine List.Pairwise.imp_of_mem (fun {a b} ha hb h => ?_) h3
  rw [sortLL_mem, dedup_mem', List.mem_map] at ha hb
  obtain ⟨x, hx, rfl⟩ := ha
  obtain ⟨y, hy, rfl⟩ := hb
  obtain ⟨q1, q2⟩ := h
  show x < y
  have q3 : x ≠ y := fun z => q2 (by rw [z])
  have q4 : lexLL [[y]] [[x]] = false := q1
  simp [lexLL, lexL, Ne.symm q3] at q4
  omega
theorem asc_of_pw {α : Type} {lt : α → α → Bool} : ∀ {l : List α}, l.Pairwise (fun a b => lt a b = true) → asc lt l = true
  | [], _ => rfl
  | [x], _ => rfl
  | x :: y :: r, h => by
    obtain ⟨h1, h2⟩ := List.pairwise_cons.mp h
    simp only [asc, h1 y List.mem_cons_self, asc_of_pw h2, Bool.and_self]
theorem pw_of_asc {α : Type} {lt : α → α → Bool} (tr : ∀ a b c, lt a b = true → lt b c = true → lt a c = true) : ∀ {l : List α}, asc lt l = true → l.Pairwise (fun a b => lt a b = true)
  | [], _ => List.Pairwise.nil
  | [x], _ => List.pairwise_singleton _ _
  | x :: y :: r, h => by
    simp only [asc, Bool.and_eq_true] at h
    have ih := pw_of_asc tr h.2
    refine List.pairwise_cons.mpr ⟨fun z hz => ?_, ih⟩
    rcases List.mem_cons.mp hz with rfl | hz
    · exact h.1
    · exact tr _ _ _ h.1 ((List.pairwise_cons.mp ih).1 z hz)
theorem asc_int_iff {l : List Int} : asc (fun a b => decide (a < b)) l = true ↔ l.Pairwise (· < ·) := by
  constructor
  · intro h
    have := pw_of_asc (lt := fun a b : Int => decide (a < b)) (fun a b c h1 h2 => by simp at *; omega) h
    exact this.imp fun h => by simpa using h
  · intro h
    exact asc_of_pw (h.imp fun h => by simpa using h)
theorem pw_ext {l m : List Int} (hl : l.Pairwise (· < ·)) (hm : m.Pairwise (· < ·)) (h : ∀ x, x ∈ l ↔ x ∈ m) : l = m := by
  induction l generalizing m with
  | nil =>
    cases m with
    | nil => rfl
    | cons y m => exact absurd ((h y).mpr List.mem_cons_self) (by simp)
  | cons x l ih =>
    cases m with
    | nil => exact absurd ((h x).mp List.mem_cons_self) (by simp)
    | cons y m =>
      obtain ⟨a1, a2⟩ := List.pairwise_cons.mp hl
      obtain ⟨b1, b2⟩ := List.pairwise_cons.mp hm
      have e : x = y := by
        rcases List.mem_cons.mp ((h x).mp List.mem_cons_self) with e | e
        · exact e
        · rcases List.mem_cons.mp ((h y).mpr List.mem_cons_self) with e2 | e2
          · exact e2.symm
          · have := a1 y e2; have := b1 x e; omega
      subst e
      rw [ih a2 b2 fun z => ?_]
      constructor
      · intro hz
        rcases List.mem_cons.mp ((h z).mp (List.mem_cons_of_mem _ hz)) with e | e
        · have := a1 z hz; omega
        · exact e
      · intro hz
        rcases List.mem_cons.mp ((h z).mpr (List.mem_cons_of_mem _ hz)) with e | e
        · have := b1 z hz; omega
        · exact e
theorem sSet_len (l : List Int) : (sSet l).length ≤ l.length := by
  unfold sSet
  rw [List.length_map, (sortLL_perm _).length_eq]
  refine Nat.le_trans ?_ (Nat.le_of_eq (List.length_map (as := l) (fun n => [[n]])))
  generalize (l.map fun n => [[n]]) = m
  induction m with
  | nil => exact Nat.le_refl _
  | cons x m ih =>
    unfold dedup
    split
    · exact Nat.le_succ_of_le ih
    · exact Nat.succ_le_succ ih
/-- sorted(set) of tuples -/
def sSetT (l : LL) : LL := (sortLL (dedup (l.map fun x => [x]))).map fun k => k.headD []
theorem sSetT_mem {l : LL} {x : List Int} : x ∈ sSetT l ↔ x ∈ l := by
  unfold sSetT
  rw [List.mem_map]
  constructor
  · rintro ⟨k, hk, rfl⟩
    rw [sortLL_mem, dedup_mem', List.mem_map] at hk
    obtain ⟨m, hm, rfl⟩ := hk
    exact hm
  · intro h
    exact ⟨[x], by rw [sortLL_mem, dedup_mem', List.mem_map]; exact ⟨x, h, rfl⟩, rfl⟩
theorem dedup_nd : ∀ m : List LL, (dedup m).Nodup
  | [] => List.nodup_nil
  | x :: m => by
    unfold dedup
    split
    · exact dedup_nd m
    · rename_i h
      refine List.nodup_cons.mpr ⟨fun z => h ?_, dedup_nd m⟩
      have := dedup_mem'.mp z
      simpa using this
theorem sSetT_pw (l : LL) : (sSetT l).Pairwise fun a b => lexL a b = true := by
  unfold sSetT
  rw [List.pairwise_map]
  have h1 := sortLL_srt (dedup (l.map fun x => [x]))
  have h2 : (sortLL (dedup (l.map fun x => [x]))).Nodup := (sortLL_perm _).nodup_iff.mpr (dedup_nd _)
  have h3 : (sortLL (dedup (l.map fun x => [x]))).Pairwise fun a b => LeL a b ∧ a ≠ b := List.Pairwise.and h1 h2
  refine List.Pairwise.imp_of_mem (fun {a b} ha hb h => ?_) h3
  rw [sortLL_mem, dedup_mem', List.mem_map] at ha hb
  obtain ⟨x, hx, rfl⟩ := ha
  obtain ⟨y, hy, rfl⟩ := hb
  obtain ⟨q1, q2⟩ := h
  show lexL x y = true
  have q3 : x ≠ y := fun z => q2 (by rw [z])
  have q4 : lexLL [y] [x] = false := q1
  simp only [lexLL, Ne.symm q3, if_false] at q4
  cases q : lexL x y with
  | true => rfl
  | false => exact absurd (lexL_tot _ _ q q4) q3
theorem dedup_len : ∀ m : List LL, (dedup m).length ≤ m.length
  | [] => Nat.le_refl _
  | x :: m => by
    unfold dedup
    split
    · exact Nat.le_succ_of_le (dedup_len m)
    · exact Nat.succ_le_succ (dedup_len m)
theorem sSetT_len (l : LL) : (sSetT l).length ≤ l.length := by
  unfold sSetT
  rw [List.length_map, (sortLL_perm _).length_eq]
  exact Nat.le_trans (dedup_len _) (by simp)
theorem kindT {ls : LL} (h0 : ls ≠ []) (h : ∀ l ∈ ls, l ≠ []) : kindOf (ls.map tupI) = some (.t, ls.map fun l => [l]) := by
  have hi : keysOf .i (ls.map tupI) = none := by
    cases ls with
    | nil => exact absurd rfl h0
    | cons l ls => simp [keysOf, keyOf, tupI]
  have ht : keysOf .t (ls.map tupI) = some (ls.map fun l => [l]) := by
    clear h0 hi
    induction ls with
    | nil => rfl
    | cons l ls ih =>
      have hl := h l List.mem_cons_self
      cases l with
      | nil => exact absurd rfl hl
      | cons x l =>
        have ih := ih fun z hz => h z (List.mem_cons_of_mem _ hz)
        have ea : asInts (D.int x :: l.map D.int) = some (x :: l) := asInts_map (x :: l)
        simp only [List.map_cons, keysOf, tupI, keyOf, ea, Option.map_some]
        rw [ih]
  unfold kindOf; simp only [hi, ht]
theorem sset_tups {l : LL} (hn : ∀ x ∈ l, x ≠ []) (h : l.length < 64) : sortSet (l.map tupI) = some ((sSetT l).map tupI) := by
  cases l with
  | nil => rfl
  | cons x l =>
    unfold sortSet
    rw [kindT (by simp) hn]
    simp only [Option.bind_some, List.length_map]
    rw [if_pos (by simp at h ⊢; exact h)]
    unfold sSetT
    rw [List.map_map]
    congr 1
    refine List.map_congr_left fun k hk => ?_
    rw [sortLL_mem, dedup_mem', List.mem_map] at hk
    obtain ⟨m, hm, rfl⟩ := hk
    rfl
/-- sorted of ints -/
def sInt (l : List Int) : List Int := (sortLL (l.map fun n => [[n]])).map unI
theorem sInt_enc (l : List Int) : sortD (l.map .int) = some ((sInt l).map .int) := by
  unfold sortD
  rw [kindI]
  simp only [Option.map_some, sInt, List.map_map]
  congr 1
  refine List.map_congr_left fun k hk => ?_
  rw [sortLL_mem, List.mem_map] at hk
  obtain ⟨m, hm, rfl⟩ := hk
  rfl
theorem sInt_perm (l : List Int) : (sInt l).Perm l := by
  have h := (sortLL_perm (l.map fun n => [[n]])).map unI
  rw [List.map_map] at h
  have e : (l.map (unI ∘ fun n => [[n]])) = l := by
    conv => rhs; rw [← List.map_id l]
    exact List.map_congr_left fun n _ => rfl
  rw [e] at h
  exact h
theorem sInt_le (l : List Int) : (sInt l).Pairwise (· ≤ ·) := by
  unfold sInt
  rw [List.pairwise_map]
  refine List.Pairwise.imp_of_mem (fun {a b} ha hb h => ?_) (sortLL_srt (l.map fun n => [[n]]))
  rw [sortLL_mem, List.mem_map] at ha hb
  obtain ⟨x, hx, rfl⟩ := ha
  obtain ⟨y, hy, rfl⟩ := hb
  show x ≤ y
  have q4 : lexLL [[y]] [[x]] = false := h
  simp only [lexLL, lexL] at q4
  by_cases e : y = x
  · omega
  · simp [e] at q4; omega
theorem sInt_lt {l : List Int} (hn : l.Nodup) : (sInt l).Pairwise (· < ·) := by
  have h2 := (sInt_perm l).nodup_iff.mpr hn
  exact (List.Pairwise.and (sInt_le l) h2).imp fun ⟨a, b⟩ => by omega
section
variable {S : Store} {P : D → Store → Prop}
theorem e_sortedT {l : List Int} : Wp (doBi .sorted (tupI l) S) P ↔ P (.lst ((sInt l).map .int)) S := by
  simp only [doBi, tupI, sInt_enc]; exact wp_ok
theorem e_sortedL {l : List Int} : Wp (doBi .sorted (.lst (l.map .int)) S) P ↔ P (.lst ((sInt l).map .int)) S := by
  simp only [doBi, sInt_enc]; exact wp_ok
theorem e_add {a b : List Int} (h : a.length + b.length ≤ lim) : doBin .add (tupI a) (tupI b) = some (tupI (a ++ b)) := by
  simp only [tupI, doBin, List.length_map, h, if_true, List.map_append]
end
end G11

/-! Lib10: one word that runs the interpreter; the drawn rules, parts, groups -/
namespace G11
local macro_rules | `(tactic| decreasing_tactic) => `(tactic| try simp only [wp_exs, wp_exs0, s_set, s_ret, s_ex, s_ife, s_cont, s_pass, s_setI, a_unp, a_par, w_var, w_glb, w_non, w_bl, w_int, w_str, w_es0, w_es, w_tup, w_lst, w_newL, w_bin, w_neg, w_cmp, w_isN, w_notN, w_chain, w_not, w_and, w_or, w_and1, w_or1, w_and2, w_or2, w_ife, w_idx, w_sl, w_o0, w_o1, w_call, w_bi, w_sset, w_meth, w_tupR, w_lstR, w_c1, d_lt, d_le, d_gt, d_ge, d_eqI, d_neI, d_isi, d_lenT, d_lenL, d_tupT, e_tupLI, e_tupLT, d_lstL, e_eqI, e_neI, e_eqI0, e_neI0, e_eqT, e_neT, e_eqK, e_neK, e_eqR, e_neR, e_eqLI, e_neLI, e_eqLI0, e_neLI0, e_inI, e_notI, e_inLI, e_notLI, e_eqB, e_neB, e_neTk, e_lenI, e_lenK, e_lenT, e_lenRs, e_lenR, e_U0, e_U1, e_sortedT, e_sortedL, startD, List.map_cons, List.map_nil, List.length_cons, List.length_nil, List.replicate, List.cons_append, List.nil_append, List.append_nil, List.set_cons_zero, List.set_cons_succ, List.getElem?_cons_zero, List.getElem?_cons_succ, setAll, bindTg, wipeD, Option.some.injEq, D.bl.injEq, D.int.injEq, D.tup.injEq, D.lst.injEq, exists_eq_left', exists_eq_left, isiD, Bool.false_eq_true, if_true, if_false, Bool.not_true, Bool.not_false, true_and, and_true, Nat.reduceSub, Nat.reduceAdd, Nat.sub_self, Nat.reduceLeDiff, Nat.reduceEqDiff, lim, List.length_map])
section
variable {T : Nat → Option Fn} {k : Nat} {S : Store} {ns : List Int}
theorem begun_ok (t : T 18 = some f18) : callI T GG (k + 1) 18 [] [] = .ok (.ref 1) [.dk [], .dk [(.s sCount, .int 0), (.s sRests, .ref 0)]] := by
  rw [callI_succ _ _ _ _ _ _ t]; rfl
theorem begun_town : Town [.dk [], .dk [(.s sCount, .int 0), (.s sRests, .ref 0)]] := ⟨[], 0, [], rfl, ⟨(fun _ h => by cases h), List.nodup_nil⟩⟩
/-- single draw in a context -/
theorem key_drawn {n : Nat} {a b : Int} (a0 : 0 ≤ a) (a1 : a < n) (b0 : 0 ≤ b) (b1 : b < n) : okKey n (sSet [a, b]) := by
  refine ⟨fun z => ?_, fun i hi => ?_, asc_int_iff.mpr (sSet_pw _)⟩
  · have : a ∈ sSet [a, b] := sSet_mem.mpr List.mem_cons_self
    rw [z] at this; cases this
  · rcases List.mem_cons.mp (sSet_mem.mp hi) with rfl | h
    · exact ⟨a0, a1⟩
    · rw [List.mem_singleton.mp h]; exact ⟨b0, b1⟩
theorem key_one {n : Nat} {a : Int} (a0 : 0 ≤ a) (a1 : a < n) : okKey n [a] :=
  ⟨by simp, fun i hi => by rw [List.mem_singleton.mp hi]; exact ⟨a0, a1⟩, rfl⟩
theorem mk_VU {n : Nat} {found : LL} {takes : List Tk} (n1 : 1 ≤ n) (n4 : n ≤ 4) (hf : found.length ≤ 5) (hk : ∀ key ∈ found, okKey n key) (hl : takes.length = n) : VU n (sSetT found) takes :=
  ⟨hl, n1, n4, Nat.le_trans (sSetT_len _) hf, fun key h => hk key (sSetT_mem.mp h), asc_of_pw (sSetT_pw _)⟩
theorem rules_drawnQ (q : Nat) (t : T 17 = some f17) (t2 : T q = some f19) (hns : ns.length ≤ 63) {n : Nat} (n1 : 1 ≤ n) (hn : n ≤ 4) (ht : Town S) :
    Wp (callI T GG (k + 2) q [.scl ns, .ref 1, .int n] S) fun d S' => ∃ keys takes, d = encU keys takes ∧ VU n keys takes ∧ keys.length ≤ 4 ∧ Town S' := by
  refine call_own t2 rfl rfl ?_
  unfold f19
  decreasing_tactic
  have F0 := Fill.new ht
  generalize S ++ [O.lst []] = S0 at F0 ⊢
  generalize S.length = j at F0 ⊢
  obtain ⟨_, S1, q1, v, rfl, v0, v1, st1⟩ := draw_ok (k := k) (many := 4) t hns (by decide) (by decide) F0.town
  have F1 := F0.step st1
  obtain ⟨_, S2, q2, w, rfl, w0, w1, st2⟩ := draw_ok (k := k) (many := 8) t hns (by decide) (by decide) F1.town
  have F2 := F1.step st2
  obtain ⟨c, hc0, hc4, hc⟩ : ∃ c : Nat, c ≤ 4 ∧ (w = 0 → v = c) ∧ (w ≠ 0 → v + 1 = c) := by
    by_cases hw : w = 0
    · exact ⟨v.toNat, by omega, fun _ => by omega, fun h => absurd hw h⟩
    · exact ⟨(v + 1).toNat, by omega, fun h => absurd h hw, fun _ => by omega⟩
  refine s_for (List.range' 0 c) (fun i => D.int (i : Nat)) (fun rest env S => ∃ found : LL, Fill S j (found.map tupI) ∧ found.length + rest.length = c ∧ (∀ key ∈ found, okKey n key) ∧ ∃ x4 x6 x7, env = [some (.scl ns), some (.ref 1), some (.int n), some (.ref j), x4, none, x6, x7, none]) ?_ ?_ ?_
  · refine sr_rng' ?_
    decreasing_tactic
    refine (wp_eq q1).mpr ((wp_eq q2).mpr ?_)
    decreasing_tactic
    by_cases hw : w = 0
    · rw [if_pos (by simpa using hw)]
      refine ⟨_, rfl, v, by simp, by omega, by omega, ?_, [], F2, by simp, (fun _ z => by cases z), _, _, _, rfl⟩
      rw [hc4 hw, Int.toNat_natCast, range0]
    · rw [if_neg (by simpa using hw)]
      refine ⟨_, rfl, v + 1, rfl, by omega, by omega, ?_, [], F2, by simp, (fun _ z => by cases z), _, _, _, rfl⟩
      rw [hc hw, Int.toNat_natCast, range0]
  · rintro x r env S3 ⟨found, F, hl, hk, x4, x6, x7, rfl⟩ _
    refine ⟨_, rfl, ?_⟩
    decreasing_tactic
    refine (draw_ok (k := k) (many := n) t hns (by omega) (by omega) F.town).mono ?_
    rintro _ S4 ⟨a, rfl, a0, a1, st4⟩
    refine (draw_ok (k := k) (many := n) t hns (by omega) (by omega) st4.town).mono ?_
    rintro _ S5 ⟨b, rfl, b0, b1, st5⟩
    decreasing_tactic
    have F5 := (F.step st4).step st5
    refine ⟨mt_list F5, ?_⟩
    refine (draw_ok (k := k) (many := 3) t hns (by decide) (by decide) F5.town).mono ?_
    rintro _ S6 ⟨u, rfl, u0, u1, st6⟩
    have F6 := F5.step st6
    decreasing_tactic
    have go : ∀ key : List Int, okKey n key → Wp (doMeth .append (.ref j) [tupI key] S6) fun _ S7 => ∃ found : LL, Fill S7 j (found.map tupI) ∧ found.length + r.length = c ∧ (∀ key ∈ found, okKey n key) ∧ ∃ x4 x6 x7, ([some (D.scl ns), some (.ref 1), some (.int n), some (.ref j), some (.int x), none, some (.int a), some (.int b), none] : EnvD) = [some (.scl ns), some (.ref 1), some (.int n), some (.ref j), x4, none, x6, x7, none] := fun key hkey => by
      obtain ⟨a1, a2⟩ := F6.app (tupI key) (by rw [List.length_map]; simp at hl; show _ < 1000000; omega)
      refine (wp_eq a1).mpr ⟨found ++ [key], by simpa using a2, by simp at hl ⊢; omega, fun y hy => ?_, _, _, _, rfl⟩
      rcases List.mem_append.mp hy with z | z
      · exact hk y z
      · rw [List.mem_singleton.mp z]; exact hkey
    by_cases hu : u = 0
    · rw [if_pos (by simpa using hu)]
      refine (d_ssetL (l := [a, b]) (by simp)).mpr (d_tupL.mpr ?_)
      exact go _ (key_drawn a0 a1 b0 b1)
    · rw [if_neg (by simpa using hu)]
      exact go [a] (key_one a0 a1)
  · rintro env S3 ⟨found, F, hl, hk, x4, x6, x7, rfl⟩
    simp only [List.length_nil] at hl
    decreasing_tactic
    refine wp_lcD (List.range' 0 n) (fun i => D.int (i : Nat)) encT (fun _ _ => True) F.town ?_ ?_ ?_
    · refine sr_rng' (w_var.mpr ⟨_, rfl, n, rfl, by omega, by omega, ?_, rfl⟩)
      rw [Int.toNat_natCast, range0]
    · intro x hx
      refine ⟨_, rfl, fun S4 ht4 => ?_⟩
      decreasing_tactic
      refine (draw_ok (k := k) (many := 5) t hns (by decide) (by decide) ht4).mono ?_
      rintro _ S5 ⟨a, rfl, a0, a1, st5⟩
      refine d_idxT.mpr ?_
      have ha : a = 0 ∨ a = 1 ∨ a = 2 ∨ a = 3 ∨ a = 4 := by omega
      rcases ha with rfl | rfl | rfl | rfl | rfl
      · exact ⟨_, rfl, .all, rfl, st5⟩
      · exact ⟨_, rfl, .first, rfl, st5⟩
      · exact ⟨_, rfl, .last, rfl, st5⟩
      · exact ⟨_, rfl, .first, rfl, st5⟩
      · exact ⟨_, rfl, .last, rfl, st5⟩
    · intro takes S4 hlt _ st4
      have F4 := F.step st4
      decreasing_tactic
      have e : doSset (.ref j) S4 = .ok (.lst ((sSetT found).map tupI)) S4 := by
        simp only [doSset, F4.here, sset_tups (fun x hx => (hk x hx).1) (show found.length < 64 by omega)]
      refine (wp_eq e).mpr (e_tupLT.mpr (d_tupL.mpr ⟨sSetT found, takes, rfl, mk_VU n1 hn (by omega) hk (by simpa using hlt), Nat.le_trans (sSetT_len _) (by omega), F4.town⟩))
theorem rules_drawn (t : T 17 = some f17) (t2 : T 19 = some f19) (hns : ns.length ≤ 63) {n : Nat} (n1 : 1 ≤ n) (hn : n ≤ 4) (ht : Town S) :
    Wp (callI T GG (k + 2) 19 [.scl ns, .ref 1, .int n] S) fun d S' => ∃ keys takes, d = encU keys takes ∧ VU n keys takes ∧ keys.length ≤ 4 ∧ Town S' := rules_drawnQ 19 t t2 hns n1 hn ht
end
end G11

/-! Lib11: comprehensions by shape; facts on values and keys -/
namespace G11
local macro_rules | `(tactic| decreasing_tactic) => `(tactic| try simp only [wp_exs, wp_exs0, s_set, s_ret, s_ex, s_ife, s_cont, s_pass, s_setI, a_unp, a_par, w_var, w_glb, w_non, w_bl, w_int, w_str, w_es0, w_es, w_tup, w_lst, w_newL, w_bin, w_neg, w_cmp, w_isN, w_notN, w_chain, w_not, w_and, w_or, w_and1, w_or1, w_and2, w_or2, w_ife, w_idx, w_sl, w_o0, w_o1, w_call, w_bi, w_sset, w_meth, w_tupR, w_lstR, w_c1, d_lt, d_le, d_gt, d_ge, d_eqI, d_neI, d_isi, d_lenT, d_lenL, d_tupT, e_tupLI, e_tupLT, d_lstL, e_eqI, e_neI, e_eqI0, e_neI0, e_eqT, e_neT, e_eqK, e_neK, e_eqR, e_neR, e_eqLI, e_neLI, e_eqLI0, e_neLI0, e_inI, e_notI, e_inLI, e_notLI, e_eqB, e_neB, e_neTk, e_lenI, e_lenK, e_lenT, e_lenRs, e_lenR, e_U0, e_U1, e_sortedT, e_sortedL, startD, List.map_cons, List.map_nil, List.length_cons, List.length_nil, List.replicate, List.cons_append, List.nil_append, List.append_nil, List.set_cons_zero, List.set_cons_succ, List.getElem?_cons_zero, List.getElem?_cons_succ, setAll, bindTg, wipeD, Option.some.injEq, D.bl.injEq, D.int.injEq, D.tup.injEq, D.lst.injEq, exists_eq_left', exists_eq_left, isiD, Bool.false_eq_true, if_true, if_false, Bool.not_true, Bool.not_false, true_and, and_true, Nat.reduceSub, Nat.reduceAdd, Nat.sub_self, Nat.reduceLeDiff, Nat.reduceEqDiff, lim, List.length_map])
section
variable {Γ : Nat → List D → M D} {G : List D} {env : EnvD} {S : Store} {P : D → Store → Prop} {own : List Nat} {tg : Tg} {sr : Sr} {c elt : E}
theorem filterMap_if {α β : Type} (p : α → Bool) (h : α → β) : ∀ xs : List α, xs.filterMap (fun x => if p x = true then some (h x) else none) = (xs.filter p).map h
  | [] => rfl
  | x :: xs => by
    rw [List.filterMap_cons, List.filter_cons]
    by_cases q : p x = true
    · simp only [q, if_true, filterMap_if p h xs, List.map_cons]
    · simp only [q, if_false, filterMap_if p h xs, Bool.false_eq_true]
/-- a comprehension without a condition -/
theorem wp_lcM {α β : Type} (xs : List α) (e : α → D) (b : β → D) (h : α → β)
    (h1 : Wp (evSr Γ G sr env S) fun ys S' => ys = xs.map e ∧ S' = S)
    (h2 : ∀ x ∈ xs, ∃ env', bindTg (wipeD env own) tg (e x) = some env' ∧ Wp (ev Γ G elt env' S) fun y S' => y = b (h x) ∧ S' = S)
    (h3 : P (.lst ((xs.map h).map b)) S) : Wp (ev Γ G (.lc own tg sr .nil elt) env S) P := by
  refine wp_lc xs e (fun x => some (b (h x))) h1 (fun x hx => ?_) ?_
  · obtain ⟨env', e1, e2⟩ := h2 x hx
    exact ⟨env', e1, true, S, by simp only [evC], rfl, .inr ⟨rfl, e2.mono fun y S' z => ⟨z.2, by rw [z.1]⟩⟩⟩
  · rw [filterMap_some (fun x => b (h x))]
    rw [List.map_map] at h3
    exact h3
/-- a comprehension with one -/
theorem wp_lcF {α β : Type} (xs : List α) (e : α → D) (b : β → D) (p : α → Bool) (h : α → β)
    (h1 : Wp (evSr Γ G sr env S) fun ys S' => ys = xs.map e ∧ S' = S)
    (h2 : ∀ x ∈ xs, ∃ env', bindTg (wipeD env own) tg (e x) = some env' ∧ (Wp (ev Γ G c env' S) fun d S' => d = .bl (p x) ∧ S' = S) ∧ (p x = true → Wp (ev Γ G elt env' S) fun y S' => y = b (h x) ∧ S' = S))
    (h3 : P (.lst (((xs.filter p).map h).map b)) S) : Wp (ev Γ G (.lc own tg sr (.cons c .nil) elt) env S) P := by
  refine wp_lc xs e (fun x => if p x = true then some (b (h x)) else none) h1 (fun x hx => ?_) ?_
  · obtain ⟨env', e1, e2, e3⟩ := h2 x hx
    refine ⟨env', e1, w_c1.mpr (e2.mono fun d S' z => ⟨p x, z.1, z.2, ?_⟩)⟩
    cases q : p x with
    | false => exact .inl ⟨rfl, by simp⟩
    | true => exact .inr ⟨rfl, (e3 q).mono fun y S' z => ⟨z.2, by rw [z.1]; simp⟩⟩
  · rw [filterMap_if p (fun x => b (h x))]
    rw [List.map_map] at h3
    exact h3
theorem w_c0 {Q : Bool → Store → Prop} : Wp (evC Γ G .nil env S) Q ↔ Q true S := by simp only [evC]; exact wp_ok
end
/-! ### facts -/
theorem vals_at (rs : List Rec) (takes : List Tk) (g : List Int) {f : Nat} (h : f < takes.length) : (vals rs takes g).getD f [] = takenS (takes.getD f .all) (somes rs f g) := by
  unfold vals
  rw [List.getD_eq_getElem?_getD, List.getD_eq_getElem?_getD, List.getElem?_map, List.getElem?_zipIdx, List.getElem?_eq_getElem h]
  simp
theorem taken_sub {t : Tk} {l : List Int} {v : Int} (h : v ∈ takenS t l) : v ∈ l := by
  cases t with
  | all => exact sSet_mem.mp h
  | first => exact List.mem_of_mem_take h
  | last => exact List.mem_of_mem_drop h
theorem taken_nil {t : Tk} {l : List Int} : takenS t l = [] ↔ l = [] := by
  constructor
  · intro h
    cases l with
    | nil => rfl
    | cons x l =>
      exfalso
      cases t with
      | all => exact absurd (sSet_mem (n := x) |>.mpr (List.mem_cons_self (l := l))) (by rw [show sSet (x :: l) = [] from h]; simp)
      | first => simp [takenS] at h
      | last =>
        have : (takenS .last (x :: l)).length = 0 := by rw [h]; rfl
        simp only [takenS, List.length_drop] at this
        simp at this
  · rintro rfl
    cases t <;> rfl
theorem taken_one {t : Tk} {l : List Int} (h : t ≠ .all) : (takenS t l).length ≤ 1 := by
  cases t with
  | all => exact absurd rfl h
  | first => simp only [takenS, List.length_take]; omega
  | last => simp only [takenS, List.length_drop]; omega
theorem taken_all {l : List Int} {v : Int} : v ∈ takenS .all l ↔ v ∈ l := sSet_mem
theorem agree_iff {a b : LL} {key : List Int} : agree a b key = true ↔ ∀ f ∈ key, ∃ v, v ∈ a.getD f.toNat [] ∧ v ∈ b.getD f.toNat [] := by
  simp only [agree, List.all_eq_true, List.any_eq_true, List.contains_iff_mem]
theorem agree_comm (a b : LL) (key : List Int) : agree a b key = agree b a key := by
  rw [Bool.eq_iff_iff, agree_iff, agree_iff]
  exact ⟨fun h f hf => let ⟨v, x, y⟩ := h f hf; ⟨v, y, x⟩, fun h f hf => let ⟨v, x, y⟩ := h f hf; ⟨v, y, x⟩⟩
theorem keysFor_comm (rs : List Rec) (keys : LL) (takes : List Tk) (g h : List Int) : keysFor rs keys takes g h = keysFor rs keys takes h g := by
  unfold keysFor
  congr 1
  funext p
  rw [agree_comm]
theorem keysFor_mem {rs : List Rec} {keys : LL} {takes : List Tk} {g h : List Int} {i : Int} : i ∈ keysFor rs keys takes g h ↔ ∃ j : Nat, ∃ key, i = j ∧ keys[j]? = some key ∧ agree (vals rs takes g) (vals rs takes h) key = true := by
  unfold keysFor
  rw [List.mem_filterMap]
  constructor
  · rintro ⟨⟨key, j⟩, hp, e⟩
    dsimp only at e
    split at e
    · rename_i q
      cases e
      refine ⟨j, key, rfl, ?_, q⟩
      have := List.mem_zipIdx_iff_getElem?.mp hp
      simpa using this
    · cases e
  · rintro ⟨j, key, rfl, e, q⟩
    refine ⟨(key, j), List.mem_zipIdx_iff_getElem?.mpr (by simpa using e), ?_⟩
    simp only [q, if_true]
/-- all fields take all -/
def alls (n : Nat) : List Tk := List.replicate n .all
theorem alls_at {n f : Nat} (h : f < n) : (alls n).getD f .all = .all := by
  unfold alls
  rw [List.getD_eq_getElem?_getD, List.getElem?_replicate]; split <;> rfl
theorem vals_sub_alls {rs : List Rec} {takes : List Tk} {n : Nat} (hl : takes.length = n) {g : List Int} {f : Nat} (hf : f < n) {v : Int} (h : v ∈ (vals rs takes g).getD f []) : v ∈ (vals rs (alls n) g).getD f [] := by
  rw [vals_at _ _ _ (by omega)] at h
  rw [vals_at _ _ _ (by simpa [alls] using hf), alls_at hf]
  exact taken_all.mpr (taken_sub h)
theorem somes_mono {rs : List Rec} {f : Nat} {g g' : List Int} (h : ∀ i ∈ g, i ∈ g') {v : Int} (hv : v ∈ somes rs f g) : v ∈ somes rs f g' := by
  unfold somes at hv ⊢
  obtain ⟨i, hi, e⟩ := List.mem_filterMap.mp hv
  exact List.mem_filterMap.mpr ⟨i, h i hi, e⟩
theorem vals_mono {rs : List Rec} {n : Nat} {g g' : List Int} (h : ∀ i ∈ g, i ∈ g') {f : Nat} (hf : f < n) {v : Int} (hv : v ∈ (vals rs (alls n) g).getD f []) : v ∈ (vals rs (alls n) g').getD f [] := by
  rw [vals_at _ _ _ (by simpa [alls] using hf), alls_at hf] at hv ⊢
  exact taken_all.mpr (somes_mono h (taken_all.mp hv))
theorem agree_mono {a b a' b' : LL} {key : List Int} (ha : ∀ f ∈ key, ∀ v, v ∈ a.getD f.toNat [] → v ∈ a'.getD f.toNat []) (hb : ∀ f ∈ key, ∀ v, v ∈ b.getD f.toNat [] → v ∈ b'.getD f.toNat []) (h : agree a b key = true) : agree a' b' key = true := by
  rw [agree_iff] at h ⊢
  intro f hf
  obtain ⟨v, x, y⟩ := h f hf
  exact ⟨v, ha f hf v x, hb f hf v y⟩
theorem VU.field {n : Nat} {keys : LL} {takes : List Tk} (v : VU n keys takes) {j : Nat} {key : List Int} (hk : keys[j]? = some key) {f : Int} (hf : f ∈ key) : 0 ≤ f ∧ f.toNat < n := by
  obtain ⟨a, b⟩ := (v.key key (List.mem_of_getElem? hk)).2.1 f hf
  exact ⟨a, by omega⟩
theorem keysFor_alls {n : Nat} {rs : List Rec} {keys : LL} {takes : List Tk} {g h : List Int} (v : VU n keys takes) {i : Int} (hi : i ∈ keysFor rs keys takes g h) : i ∈ keysFor rs keys (alls n) g h := by
  obtain ⟨j, key, rfl, e, q⟩ := keysFor_mem.mp hi
  refine keysFor_mem.mpr ⟨j, key, rfl, e, agree_mono (fun f hf w hw => ?_) (fun f hf w hw => ?_) q⟩
  · exact vals_sub_alls v.len (v.field e hf).2 hw
  · exact vals_sub_alls v.len (v.field e hf).2 hw
theorem keysFor_mono {n : Nat} {rs : List Rec} {keys : LL} {takes : List Tk} {g g' h : List Int} (v : VU n keys takes) (hg : ∀ i ∈ g, i ∈ g') {i : Int} (hi : i ∈ keysFor rs keys (alls n) g h) : i ∈ keysFor rs keys (alls n) g' h := by
  obtain ⟨j, key, rfl, e, q⟩ := keysFor_mem.mp hi
  exact keysFor_mem.mpr ⟨j, key, rfl, e, agree_mono (fun f hf w hw => vals_mono hg (v.field e hf).2 hw) (fun f hf w hw => hw) q⟩
theorem VU.alls {n : Nat} {keys : LL} {takes : List Tk} (v : VU n keys takes) : VU n keys (alls n) := ⟨by simp [G11.alls], v.n1, v.n4, v.few, v.key, v.asc⟩
theorem mul_alls {n : Nat} (n1 : 1 ≤ n) (n4 : n ≤ 4) : doBin .mul (.tup [.str [97, 108, 108]]) (.int n) = some (.tup ((alls n).map encT)) := by
  have h : n = 1 ∨ n = 2 ∨ n = 3 ∨ n = 4 := by omega
  rcases h with rfl | rfl | rfl | rfl <;> rfl
theorem encU_eq (keys : LL) (takes : List Tk) : D.tup [encK keys, .tup (takes.map encT)] = encU keys takes := rfl
/-- a single record has its own values -/
theorem valAt_len {n : Nat} {rs : List Rec} (vr : VR n rs) {i : Int} (h0 : 0 ≤ i) (h1 : i < rs.length) : (rs.getD i.toNat []).length = n := by
  have hj : i.toNat < rs.length := by omega
  have hm : rs.getD i.toNat [] ∈ rs := by
    rw [List.getD_eq_getElem?_getD, List.getElem?_eq_getElem hj]; exact List.getElem_mem hj
  exact (vr.row _ hm).1
theorem sSet_one (v : Int) : sSet [v] = [v] := rfl
theorem vals_one {n : Nat} {rs : List Rec} {takes : List Tk} (vr : VR n rs) (hl : takes.length = n) {i : Int} (h0 : 0 ≤ i) (h1 : i < rs.length) : vals rs takes [i] = (rs.getD i.toNat []).map Option.toList := by
  have hr := valAt_len vr h0 h1
  refine List.ext_getElem? fun f => ?_
  by_cases hf : f < n
  · have e1 : (vals rs takes [i])[f]? = some ((vals rs takes [i]).getD f []) := by
      rw [List.getD_eq_getElem?_getD, List.getElem?_eq_getElem (by rw [vals_len]; omega)]; rfl
    rw [e1, vals_at _ _ _ (by omega), List.getElem?_map, List.getElem?_eq_getElem (by omega : f < (rs.getD i.toNat []).length)]
    have e2 : somes rs f [i] = ((rs.getD i.toNat [])[f]'(by omega)).toList := by
      unfold somes valAt
      rw [List.filterMap_cons]
      rw [List.getD_eq_getElem?_getD (l := rs.getD i.toNat []), List.getElem?_eq_getElem (by omega : f < (rs.getD i.toNat []).length)]
      simp only [Option.getD_some, List.filterMap_nil]
      cases (rs.getD i.toNat [])[f]'(by omega) <;> rfl
    rw [e2]
    simp only [Option.map_some]
    cases (rs.getD i.toNat [])[f]'(by omega) with
    | none => congr 1; exact taken_nil.mpr rfl
    | some v => cases takes.getD f .all <;> rfl
  · rw [List.getElem?_eq_none (by rw [vals_len]; omega), List.getElem?_eq_none (by rw [List.length_map]; omega)]
/-- both parts' values -/
theorem vals_both {rs : List Rec} {n f : Nat} (hf : f < n) {g h w : List Int} (hw : ∀ i, i ∈ w ↔ i ∈ g ∨ i ∈ h) : (vals rs (alls n) w).getD f [] = sSet ((vals rs (alls n) g).getD f [] ++ (vals rs (alls n) h).getD f []) := by
  rw [vals_at _ _ _ (by simpa [alls] using hf), vals_at _ _ _ (by simpa [alls] using hf), vals_at _ _ _ (by simpa [alls] using hf), alls_at hf]
  refine pw_ext (sSet_pw _) (sSet_pw _) fun x => ?_
  simp only [takenS, sSet_mem, List.mem_append]
  unfold somes
  simp only [List.mem_filterMap, hw]
  constructor
  · rintro ⟨i, hi | hi, e⟩
    · exact .inl ⟨i, hi, e⟩
    · exact .inr ⟨i, hi, e⟩
  · rintro (⟨i, hi, e⟩ | ⟨i, hi, e⟩)
    · exact ⟨i, .inl hi, e⟩
    · exact ⟨i, .inr hi, e⟩
theorem vals_nil {rs : List Rec} {takes : List Tk} {n f : Nat} (hl : takes.length = n) (hf : f < n) {g : List Int} : (vals rs takes g).getD f [] = [] ↔ (vals rs (alls n) g).getD f [] = [] := by
  rw [vals_at _ _ _ (by omega), vals_at _ _ _ (by simpa [alls] using hf), taken_nil, taken_nil]
theorem vals_one_at_most {rs : List Rec} {takes : List Tk} {f : Nat} (hf : f < takes.length) (h : takes.getD f .all ≠ .all) {g : List Int} : ((vals rs takes g).getD f []).length ≤ 1 := by
  rw [vals_at _ _ _ hf]; exact taken_one h
/-! ### groups -/
theorem okKey_few {m : Nat} {g : List Int} (h : okKey m g) : g.length ≤ m := by
  obtain ⟨_, h2, h3⟩ := h
  have pw := asc_int_iff.mp h3
  have z := pigeon m (g.map Int.toNat) ?_ ?_
  · simpa using z
  · rw [List.Nodup, List.pairwise_map]
    refine List.Pairwise.imp_of_mem (fun {a b} ha hb hlt => ?_) pw
    have := (h2 a ha).1; omega
  · intro x hx
    obtain ⟨i, hi, rfl⟩ := List.mem_map.mp hx
    have := h2 i hi; omega
theorem mkVG {n : Nat} {rs : List Rec} (vr : VR n rs) {g : List Int} (h : okKey rs.length g) : VG rs g := ⟨h, by have := okKey_few h; have := vr.hi; omega⟩
theorem okKey_take {m : Nat} {g : List Int} (h : okKey m g) : okKey m (g.take 1) := by
  obtain ⟨h1, h2, h3⟩ := h
  cases g with
  | nil => exact absurd rfl h1
  | cons x g => exact ⟨by simp, fun i hi => h2 i (List.mem_of_mem_take hi), rfl⟩
theorem okKey_union {m : Nat} {g h : List Int} (hg : okKey m g) (hh : okKey m h) (hd : ∀ i ∈ g, i ∉ h) : okKey m (sInt (g ++ h)) := by
  refine ⟨fun z => ?_, fun i hi => ?_, asc_int_iff.mpr (sInt_lt ?_)⟩
  · have h1 := (sInt_perm (g ++ h)).length_eq
    rw [z] at h1
    have : g.length ≠ 0 := fun q => hg.1 (List.length_eq_zero_iff.mp q)
    simp at h1; omega
  · rcases List.mem_append.mp ((sInt_perm _).mem_iff.mp hi) with z | z
    · exact hg.2.1 i z
    · exact hh.2.1 i z
  · refine List.nodup_append.mpr ⟨(asc_int_iff.mp hg.2.2).imp fun h => by omega, (asc_int_iff.mp hh.2.2).imp fun h => by omega, fun a ha b hb e => hd a ha (e ▸ hb)⟩
theorem sInt_mem {l : List Int} {x : Int} : x ∈ sInt l ↔ x ∈ l := (sInt_perm l).mem_iff
end G11

/-! Lib12: _law_parted, _law_matched, the law k03 -/
namespace G11
local macro_rules | `(tactic| decreasing_tactic) => `(tactic| try simp only [wp_exs, wp_exs0, s_set, s_ret, s_ex, s_ife, s_cont, s_pass, s_setI, a_unp, a_par, w_var, w_glb, w_non, w_bl, w_int, w_str, w_es0, w_es, w_tup, w_lst, w_newL, w_bin, w_neg, w_cmp, w_isN, w_notN, w_chain, w_not, w_and, w_or, w_and1, w_or1, w_and2, w_or2, w_ife, w_idx, w_sl, w_o0, w_o1, w_call, w_bi, w_sset, w_meth, w_tupR, w_lstR, w_c1, d_lt, d_le, d_gt, d_ge, d_eqI, d_neI, d_isi, d_lenT, d_lenL, d_tupT, e_tupLI, e_tupLT, d_lstL, e_eqI, e_neI, e_eqI0, e_neI0, e_eqT, e_neT, e_eqK, e_neK, e_eqR, e_neR, e_eqLI, e_neLI, e_eqLI0, e_neLI0, e_inI, e_notI, e_inLI, e_notLI, e_eqB, e_neB, e_neTk, e_lenI, e_lenK, e_lenT, e_lenRs, e_lenR, e_U0, e_U1, e_sortedT, e_sortedL, startD, List.map_cons, List.map_nil, List.length_cons, List.length_nil, List.replicate, List.cons_append, List.nil_append, List.append_nil, List.set_cons_zero, List.set_cons_succ, List.getElem?_cons_zero, List.getElem?_cons_succ, setAll, bindTg, wipeD, Option.some.injEq, D.bl.injEq, D.int.injEq, D.tup.injEq, D.lst.injEq, exists_eq_left', exists_eq_left, isiD, Bool.false_eq_true, if_true, if_false, Bool.not_true, Bool.not_false, true_and, and_true, Nat.reduceSub, Nat.reduceAdd, Nat.sub_self, Nat.reduceLeDiff, Nat.reduceEqDiff, lim, List.length_map])
section
variable {T : Nat → Option Fn} {k : Nat} {S : Store} {ns : List Int}
/-- the numbers below m with a mark -/
theorem picked_ok {m : Nat} (p : Nat → Bool) (hne : ((List.range' 0 m).filter p).map (fun i : Nat => (i : Int)) ≠ []) : okKey m (((List.range' 0 m).filter p).map fun i : Nat => (i : Int)) := by
  refine ⟨hne, fun i hi => ?_, asc_int_iff.mpr ?_⟩
  · obtain ⟨j, hj, rfl⟩ := List.mem_map.mp hi
    have := (List.mem_filter.mp hj).1
    have := List.mem_range'_1.mp this
    omega
  · rw [List.pairwise_map]
    exact (List.Pairwise.filter _ List.pairwise_lt_range').imp fun h => by omega
theorem parted_drawn (t : T 17 = some f17) (t2 : T 21 = some f21) (hns : ns.length ≤ 63) {m : Nat} (hm : m ≤ 6) (ht : Town S) :
    Wp (callI T GG (k + 2) 21 [.scl ns, .ref 1, .int m] S) fun d S' => Town S' ∧ (d = .non ∨ ∃ g h, d = .tup [tupI g, tupI h] ∧ okKey m g ∧ okKey m h ∧ ∀ i ∈ g, i ∉ h) := by
  refine call_own t2 rfl rfl ?_
  unfold f21
  decreasing_tactic
  refine wp_lcD (List.range' 0 m) (fun i => D.int (i : Nat)) D.int (fun _ _ => True) ht ?_ ?_ ?_
  · refine sr_rng' (w_var.mpr ⟨_, rfl, m, rfl, by omega, by omega, ?_, rfl⟩)
    rw [Int.toNat_natCast, range0]
  · intro x hx
    refine ⟨_, rfl, fun S4 ht4 => ?_⟩
    decreasing_tactic
    refine (draw_ok (k := k) (many := 3) t hns (by decide) (by decide) ht4).mono ?_
    rintro _ S5 ⟨a, rfl, a0, a1, st5⟩
    exact ⟨a, rfl, st5⟩
  · intro sides S1 hl _ st
    rw [List.length_range'] at hl
    decreasing_tactic
    have pick : ∀ (c : Int) (x4 : Option D) (P : D → Store → Prop), P (.lst ((((List.range' 0 m).filter fun i => decide (sides.getD i 0 = c)).map fun i : Nat => (i : Int)).map D.int)) S1 → Wp (ev (callI T GG (k + 1)) GG (.lc [6] (.nm 6) (.rng (.var 2)) (.cons (.cmp .eq (.idx (.var 3) (.var 6)) (.int c)) .nil) (.var 6)) [some (.scl ns), some (.ref 1), some (.int m), some (.lst (sides.map .int)), x4, none, none] S1) P := by
      intro c x4 P hP
      refine wp_lcF (List.range' 0 m) (fun i => D.int (i : Nat)) D.int (fun i => decide (sides.getD i 0 = c)) (fun i => (i : Int)) ?_ ?_ hP
      · refine sr_rng' (w_var.mpr ⟨_, rfl, m, rfl, by omega, by omega, ?_, rfl⟩)
        rw [Int.toNat_natCast, range0]
      · intro x hx
        have hx' := List.mem_range'_1.mp hx
        refine ⟨_, rfl, ?_, fun _ => ?_⟩
        · decreasing_tactic
          refine (e_atL (e := D.int) (by omega) (by omega) 0).mpr ?_
          decreasing_tactic
          simp
        · decreasing_tactic
    refine pick 1 _ _ ?_
    decreasing_tactic
    refine pick 2 _ _ ?_
    decreasing_tactic
    generalize hg : (((List.range' 0 m).filter fun i => decide (sides.getD i 0 = 1)).map fun i : Nat => (i : Int)) = g
    generalize hh : (((List.range' 0 m).filter fun i => decide (sides.getD i 0 = 2)).map fun i : Nat => (i : Int)) = h
    by_cases q1 : g = []
    · simp only [q1, decide_true, Bool.not_true, Bool.false_eq_true, if_false, true_or, and_true]; exact st.town
    by_cases q2 : h = []
    · simp only [q1, q2, decide_true, decide_false, Bool.not_true, Bool.not_false, Bool.false_eq_true, if_true, if_false, true_or, and_true]; exact st.town
    simp only [q1, q2, decide_true, decide_false, Bool.not_true, Bool.not_false, Bool.false_eq_true, if_true, if_false]
    refine ⟨st.town, .inr ⟨g, h, rfl, ?_, ?_, ?_⟩⟩
    · rw [← hg] at q1 ⊢; exact picked_ok _ q1
    · rw [← hh] at q2 ⊢; exact picked_ok _ q2
    · intro i hi hj
      rw [← hg] at hi; rw [← hh] at hj
      obtain ⟨a, ha, rfl⟩ := List.mem_map.mp hi
      obtain ⟨b, hb, e⟩ := List.mem_map.mp hj
      have e' : b = a := by omega
      subst e'
      have z1 := (List.mem_filter.mp ha).2
      have z2 := (List.mem_filter.mp hb).2
      simp only [decide_eq_true_eq] at z1 z2
      omega
/-- nothing beyond -/
theorem none_beyond {l m : List Int} (h : ∀ x ∈ l, x ∈ m) : (l.filter fun x => !decide (x ∈ m)) = [] := by
  rw [List.filter_eq_nil_iff]
  intro x hx
  simp [h x hx]
/-- [x for x in l if x not in m] -/
theorem beyond_ok {Γ : Nat → List D → M D} {G : List D} {env : EnvD} {S : Store} {P : D → Store → Prop} {l m : List Int} {v : Nat} {ms : E} {sr : E}
    (h1 : Wp (ev Γ G sr env S) fun d S' => (d = tupI l ∨ d = .lst (l.map .int)) ∧ S' = S) (hv : v < env.length)
    (h2 : ∀ x ∈ l, Wp (ev Γ G ms (((wipeD env [v])).set v (some (.int x))) S) fun d S' => (d = tupI m ∨ d = .lst (m.map .int)) ∧ S' = S)
    (h3 : P (.lst ((l.filter fun x => !decide (x ∈ m)).map .int)) S) : Wp (ev Γ G (.lc [v] (.nm v) (.val sr) (.cons (.cmp .notin (.var v) ms) .nil) (.var v)) env S) P := by
  refine wp_lcF l D.int D.int (fun x => !decide (x ∈ m)) id ?_ ?_ (by rw [List.map_id]; exact h3)
  · refine sr_val' (h1.mono fun d S' h => ?_)
    obtain ⟨h | h, rfl⟩ := h
    · exact ⟨_, by rw [h]; rfl, rfl, rfl⟩
    · exact ⟨_, by rw [h]; rfl, rfl, rfl⟩
  · intro x hx
    have hl : v < (wipeD env [v]).length := by simp [wipeD, hv]
    refine ⟨_, rfl, ?_, fun _ => ?_⟩
    · rw [w_cmp]
      refine w_var.mpr ⟨.int x, by rw [List.getElem?_set_self hl], ?_⟩
      refine (h2 x hx).mono fun d S' h => ?_
      obtain ⟨rfl | rfl, rfl⟩ := h
      · exact e_notI.mpr ⟨rfl, rfl⟩
      · exact e_notLI.mpr ⟨rfl, rfl⟩
    · exact w_var.mpr ⟨.int x, by rw [List.getElem?_set_self hl], rfl, rfl⟩
theorem cut1 (l : List Int) : doSl (tupI l) none (some 1) = some (tupI (l.take 1)) := by
  simp only [tupI, doSl, cut_first, List.map_take]
theorem matched_ok (t : TG9 T) (t16 : T 16 = some f16) (t2 : T 22 = some f22) {n : Nat} {rs : List Rec} {keys : LL} {takes : List Tk} {g h : List Int} (vr : VR n rs) (vu : VU n keys takes) (vg : VG rs g) (vh : VG rs h) (hd : ∀ i ∈ g, i ∉ h) :
    callI T GG (k + 7) 22 [encRs rs, encU keys takes, tupI g, tupI h] S = .ok (.bl true) S := by
  refine call_pure t2 rfl (by simp only [dats, dat_Rs, dat_U, dat_tupI, Bool.and_self]) rfl ?_
  have hd' : ∀ i ∈ h, i ∉ g := fun i hi hg => hd i hg hi
  have vw := vu.alls
  have vt : VG rs (g.take 1) := mkVG vr (okKey_take vg.ok)
  have hdt : ∀ i ∈ g.take 1, i ∉ h := fun i hi => hd i (List.mem_of_mem_take hi)
  have q1 := fun S => matching_ok (k := k) (S := S) t t16 vr vu vg vh hd
  have q2 := fun S => matching_ok (k := k) (S := S) t t16 vr vu vh vg hd'
  have q3 := fun S => matching_ok (k := k) (S := S) t t16 vr vw vg vh hd
  have q4 := fun S => matching_ok (k := k) (S := S) t t16 vr vw vt vh hdt
  have hc := keysFor_comm rs keys takes h g
  rw [hc] at q2
  unfold f22
  decreasing_tactic
  simp only [List.length_map, vu.len, mul_alls vu.n1 vu.n4, q1, q2, wp_ok, Option.some.injEq, exists_eq_left', encU_eq, e_neI, decide_true, Bool.not_true, D.bl.injEq, Bool.false_eq_true, if_false, q3, q4, cut1]
  generalize hw : keysFor rs keys (alls n) g h = found
  refine beyond_ok (l := keysFor rs keys takes g h) (m := found) ?_ (by simp) ?_ ?_
  · decreasing_tactic
    simp only [q1, wp_ok, true_or, and_self]
  · intro x hx
    decreasing_tactic
    simp only [true_or]
  rw [none_beyond (fun x hx => by rw [← hw]; exact keysFor_alls vu hx)]
  refine e_neLI0.mpr ?_
  simp only [decide_true, Bool.not_true, D.bl.injEq, exists_eq_left', Bool.false_eq_true, if_false, q4, wp_ok]
  refine beyond_ok (l := keysFor rs keys (alls n) (g.take 1) h) (m := found) ?_ (by simp) ?_ ?_
  · decreasing_tactic
    simp only [true_or]
  · intro x hx
    decreasing_tactic
    simp only [true_or]
  rw [none_beyond (fun x hx => by rw [← hw]; exact keysFor_mono vu (fun i hi => List.mem_of_mem_take hi) hx)]
  refine e_neLI0.mpr ?_
  simp only [decide_true, Bool.not_true, D.bl.injEq, exists_eq_left', Bool.false_eq_true, if_false]
  generalize D.tup [] = dn
  refine s_for found D.int (fun rest env S => ∃ x4 x6 x7 x8 x9, S = [] ∧ env = [some (encRs rs), some (encU keys takes), some (tupI g), some (tupI h), x4, some (tupI found), x6, x7, x8, x9, none]) ?_ ?_ ?_
  · refine sr_val' ?_
    decreasing_tactic
    exact ⟨_, rfl, rfl, _, _, _, _, _, rfl⟩
  · rintro at' r env S ⟨x4, x6, x7, x8, x9, rfl, rfl⟩ ⟨l, hl⟩
    refine ⟨_, rfl, ?_⟩
    have hat : at' ∈ found := by rw [hl]; simp
    rw [← hw] at hat
    obtain ⟨j, key, rfl, hj, hag⟩ := keysFor_mem.mp hat
    have hjl : j < keys.length := (List.getElem?_eq_some_iff.mp hj).1
    decreasing_tactic
    refine s_for keys.zipIdx (fun p => D.tup [.int (p.2 : Nat), tupI p.1]) (fun rest env S => ∃ x4 x6 x8 x9, S = [] ∧ env = [some (encRs rs), some (encU keys takes), some (tupI g), some (tupI h), x4, some (tupI found), x6, some (.int j), x8, x9, none]) ?_ ?_ ?_
    · refine sr_enum' ?_
      decreasing_tactic
      exact ⟨_, rfl, enum_enc tupI keys 0, _, _, _, _, rfl⟩
    · rintro ⟨key2, j2⟩ r2 env S ⟨x4, x6, x8, x9, rfl, rfl⟩ ⟨l2, hl2⟩
      refine ⟨_, rfl, ?_⟩
      have hm : (key2, j2) ∈ keys.zipIdx := by rw [hl2]; simp
      have hj2 : keys[j2]? = some key2 := by simpa using List.mem_zipIdx_iff_getElem?.mp hm
      decreasing_tactic
      refine beyond_ok (l := key2) (m := key) ?_ (by simp) ?_ ?_
      · decreasing_tactic
        simp only [true_or]
      · intro x hx
        decreasing_tactic
        refine (e_atK (by omega) (by omega)).mpr ?_
        have e : keys.getD (j : Int).toNat [] = key := by rw [List.getD_eq_getElem?_getD, Int.toNat_natCast, hj]; rfl
        rw [e]
        simp only [true_or, and_self]
      refine e_eqLI0.mpr ?_
      simp only [D.bl.injEq, exists_eq_left']
      by_cases hsub : (key2.filter fun x => !decide (x ∈ key)) = []
      · have hin : (j2 : Int) ∈ found := by
          rw [← hw]
          refine keysFor_mem.mpr ⟨j2, key2, rfl, hj2, ?_⟩
          rw [agree_iff] at hag ⊢
          intro f hf
          refine hag f ?_
          have := List.filter_eq_nil_iff.mp hsub f hf
          simpa using this
        simp only [hsub, hin, decide_true, Bool.not_true, if_true, Bool.false_eq_true, if_false]
        exact ⟨_, _, _, _, trivial, rfl⟩
      · simp only [hsub, decide_false, Bool.false_eq_true, if_false]
        exact ⟨_, _, _, _, trivial, rfl⟩
    · rintro env S ⟨x4, x6, x8, x9, rfl, rfl⟩
      decreasing_tactic
      exact ⟨_, _, _, _, _, rfl⟩
  · rintro env S ⟨x4, x6, x7, x8, x9, rfl, rfl⟩
    rfl
end
end G11

/-! Lib34: calls that raise -/
namespace G11
local macro_rules | `(tactic| decreasing_tactic) => `(tactic| try simp only [wp_exs, wp_exs0, s_set, s_ret, s_ex, s_ife, s_cont, s_pass, s_setI, a_unp, a_par, w_var, w_glb, w_non, w_bl, w_int, w_str, w_es0, w_es, w_tup, w_lst, w_newL, w_bin, w_neg, w_cmp, w_isN, w_notN, w_chain, w_not, w_and, w_or, w_and1, w_or1, w_and2, w_or2, w_ife, w_idx, w_sl, w_o0, w_o1, w_call, w_bi, w_sset, w_meth, w_tupR, w_lstR, w_c1, d_lt, d_le, d_gt, d_ge, d_eqI, d_neI, d_isi, d_lenT, d_lenL, d_tupT, e_tupLI, e_tupLT, d_lstL, e_eqI, e_neI, e_eqI0, e_neI0, e_eqT, e_neT, e_eqK, e_neK, e_eqR, e_neR, e_eqLI, e_neLI, e_eqLI0, e_neLI0, e_inI, e_notI, e_inLI, e_notLI, e_eqB, e_neB, e_neTk, e_lenI, e_lenK, e_lenT, e_lenRs, e_lenR, e_U0, e_U1, e_sortedT, e_sortedL, startD, List.map_cons, List.map_nil, List.length_cons, List.length_nil, List.replicate, List.cons_append, List.nil_append, List.append_nil, List.set_cons_zero, List.set_cons_succ, List.getElem?_cons_zero, List.getElem?_cons_succ, setAll, bindTg, wipeD, Option.some.injEq, D.bl.injEq, D.int.injEq, D.tup.injEq, D.lst.injEq, exists_eq_left', exists_eq_left, isiD, Bool.false_eq_true, if_true, if_false, Bool.not_true, Bool.not_false, true_and, and_true, Nat.reduceSub, Nat.reduceAdd, Nat.sub_self, Nat.reduceLeDiff, Nat.reduceEqDiff, lim, List.length_map])
section
variable {T : Nat → Option Fn} {k : Nat} {S : Store}
/-- a pure def raises -/
theorem call_raise {G : List D} {f : Nat} {fn : Fn} {ds : List D} {c : Nat} {S' : Store} (h : T f = some fn) (hp : fn.pur = true) (hd : dats ds = true) (hl : ds.length = fn.pars)
    (hw : exs (callI T G k) G fn.body (startD fn.names ds) [] = .exc c S') : callI T G (k + 1) f ds S = .exc c S := by
  rw [callI_succ _ _ _ _ _ _ h]
  simp only [hp, if_true, hd]
  unfold runBody
  rw [if_pos hl, hw]
theorem exc6 (t : TG T) {d : D} (hd : dat d = true) (q : ∀ S, callI T GG k 3 [d] S = .ok (.bl false) S) : callI T GG (k + 1) 6 [d] S = .exc 1 S := by
  refine call_raise t.t6 rfl (by simp only [dats, hd, Bool.and_self]) rfl (S' := []) ?_
  simp [f6, startD, exs, ex, ev, evs, M.bind, M.pure, q]
theorem exc7 (t : TG T) {d : D} (hd : dat d = true) (q : ∀ S, callI T GG k 5 [d] S = .ok (.bl false) S) : callI T GG (k + 1) 7 [d] S = .exc 2 S := by
  refine call_raise t.t7 rfl (by simp only [dats, hd, Bool.and_self]) rfl (S' := []) ?_
  simp [f7, startD, exs, ex, ev, evs, M.bind, M.pure, q]
theorem exc8a (t : TG T) {d e : D} (hd : dat d = true) (he : dat e = true) (q : ∀ S, callI T GG k 6 [d] S = .exc 1 S) : callI T GG (k + 1) 8 [d, e] S = .exc 1 S := by
  refine call_raise t.t8 rfl (by simp only [dats, hd, he, Bool.and_self]) rfl (S' := []) ?_
  simp [f8, startD, exs, ex, ev, evs, M.bind, M.pure, q]
theorem exc8b (t : TG T) {d e : D} (hd : dat d = true) (he : dat e = true) (q0 : ∀ S, callI T GG k 6 [d] S = .ok .non S) (q : ∀ S, callI T GG k 7 [e] S = .exc 2 S) : callI T GG (k + 1) 8 [d, e] S = .exc 2 S := by
  refine call_raise t.t8 rfl (by simp only [dats, hd, he, Bool.and_self]) rfl (S' := []) ?_
  simp [f8, startD, exs, ex, ev, evs, M.bind, M.pure, q, q0]
theorem exc10 (t : TG9 T) {rs : List Rec} {d : D} (hd : dat d = true) (hr : rs.length ≤ 6) (q : ∀ S, callI T GG k 9 [.int rs.length, d] S = .ok (.bl false) S) : callI T GG (k + 1) 10 [encRs rs, d] S = .exc 3 S := by
  refine call_raise t.t10 rfl (by simp only [dats, hd, dat_Rs, Bool.and_self]) rfl (S' := []) ?_
  simp [f10, startD, exs, ex, ev, evs, M.bind, M.pure, encRs, doBi, q]
theorem exc13a (t13 : T 13 = some f13) {a b c : D} (ha : dat a = true) (hb : dat b = true) (hc : dat c = true) {e : Nat} (q : ∀ S, callI T GG k 8 [a, b] S = .exc e S) : callI T GG (k + 1) 13 [a, b, c] S = .exc e S := by
  refine call_raise t13 rfl (by simp only [dats, ha, hb, hc, Bool.and_self]) rfl (S' := []) ?_
  simp [f13, startD, exs, ex, ev, evs, M.bind, M.pure, q]
theorem exc13b (t13 : T 13 = some f13) {a b c : D} (ha : dat a = true) (hb : dat b = true) (hc : dat c = true) (q0 : ∀ S, callI T GG k 8 [a, b] S = .ok .non S) {e : Nat} (q : ∀ S, callI T GG k 10 [a, c] S = .exc e S) : callI T GG (k + 1) 13 [a, b, c] S = .exc e S := by
  refine call_raise t13 rfl (by simp only [dats, ha, hb, hc, Bool.and_self]) rfl (S' := []) ?_
  simp [f13, startD, exs, ex, ev, evs, M.bind, M.pure, q, q0]
theorem exc16a (t16 : T 16 = some f16) {a b c d : D} (ha : dat a = true) (hb : dat b = true) (hc : dat c = true) (hd : dat d = true) {e : Nat} (q : ∀ S, callI T GG k 8 [a, b] S = .exc e S) : callI T GG (k + 1) 16 [a, b, c, d] S = .exc e S := by
  refine call_raise t16 rfl (by simp only [dats, ha, hb, hc, hd, Bool.and_self]) rfl (S' := []) ?_
  simp [f16, startD, exs, ex, ev, evs, M.bind, M.pure, q]
theorem exc16b (t16 : T 16 = some f16) {a b c d : D} (ha : dat a = true) (hb : dat b = true) (hc : dat c = true) (hd : dat d = true) (q0 : ∀ S, callI T GG k 8 [a, b] S = .ok .non S) {e : Nat} (q : ∀ S, callI T GG k 10 [a, c] S = .exc e S) : callI T GG (k + 1) 16 [a, b, c, d] S = .exc e S := by
  refine call_raise t16 rfl (by simp only [dats, ha, hb, hc, hd, Bool.and_self]) rfl (S' := []) ?_
  simp [f16, startD, exs, ex, ev, evs, M.bind, M.pure, q, q0]
theorem exc16c (t16 : T 16 = some f16) {a b c d : D} (ha : dat a = true) (hb : dat b = true) (hc : dat c = true) (hd : dat d = true) (q0 : ∀ S, callI T GG k 8 [a, b] S = .ok .non S) (q1 : ∀ S, callI T GG k 10 [a, c] S = .ok .non S) {e : Nat} (q : ∀ S, callI T GG k 10 [a, d] S = .exc e S) : callI T GG (k + 1) 16 [a, b, c, d] S = .exc e S := by
  refine call_raise t16 rfl (by simp only [dats, ha, hb, hc, hd, Bool.and_self]) rfl (S' := []) ?_
  simp [f16, startD, exs, ex, ev, evs, M.bind, M.pure, q, q0, q1]
theorem exc16d (t16 : T 16 = some f16) {a b : D} (ha : dat a = true) (hb : dat b = true) (q0 : ∀ S, callI T GG k 8 [a, b] S = .ok .non S) (q1 : ∀ S, callI T GG k 10 [a, .tup [.int 0]] S = .ok .non S) : callI T GG (k + 1) 16 [a, b, .tup [.int 0], .tup [.int 0]] S = .exc 3 S := by
  refine call_raise t16 rfl (by simp only [dats, ha, hb, dat, Bool.and_self]) rfl (S' := []) ?_
  simp [f16, startD, exs, ex, ev, evs, evSr, evC, M.bind, M.pure, q0, q1, lcM, bindTg, wipeD, M.of, seqD, doCmpS, doCmp, okD, okDs, anyEq, deq, noExc, doBi, bools]
theorem between_bl (h : T 0 = some f0) (b : Bool) (lo hi : Int) : callI T GG (k + 1) 0 [.bl b, .int lo, .int hi] S = .ok (.bl false) S := by
  refine call_pure h rfl rfl rfl ?_
  simp [f0, startD, wp_exs, s_ret, w_and, w_and2, w_and1, w_bi, w_var, w_not, w_chain, d_isi, d_le, isiD, freeze, dat]
/-- a tuple as a group: all within, and ascending -/
theorem group_tup (t : TG9 T) {m : Nat} {xs : List D} (hne : xs ≠ []) (hd : dats xs = true) (ho : okDs 59 xs = true) (bt : D → Bool) (h : ∀ x ∈ xs, ∀ S, callI T GG k 0 [x, .int 0, .int ((m : Int) - 1)] S = .ok (.bl (bt x)) S) {b : Bool}
    (ha : xs.all bt = true → ∀ S, callI T GG k 1 [.tup xs] S = .ok (.bl b) S) : callI T GG (k + 1) 9 [.int m, .tup xs] S = .ok (.bl (xs.all bt && b)) S := by
  refine call_pure t.t9 rfl (by simp only [dats, dat, hd, Bool.and_true, Bool.and_self]) rfl ?_
  have hne : deq (.tup xs) (.tup []) = false := by
    cases xs with
    | nil => exact absurd rfl hne
    | cons x l => exact deq_tupI_nil _ _
  have ok1 : okD 60 (.tup xs) = true := by simp only [okD]; exact ho
  simp only [f9, startD, wp_exs, s_ife, s_ret, w_or, w_or2, w_or1, w_not, w_bi, w_cmp, w_tup, w_es0, d_isi]
  simp [w_var, isiD, d_eq ok1 (show okD 60 (.tup []) = true from rfl), hne, lim]
  refine wp_lc xs id (fun v => some (.bl (bt v))) ?_ ?_ ?_
  · exact sr_val' (by simp [w_var, seqD])
  · intro x hx
    refine ⟨_, rfl, ⟨true, _, by simp only [evC], rfl, .inr ⟨rfl, ?_⟩⟩⟩
    have q := h x hx
    simp [w_call, w_es, w_es0, w_var, wipeD, w_int, w_bin, doBin, wp_ok, q]
  · have e : (xs.filterMap fun v => some (D.bl (bt v))) = (xs.map bt).map D.bl := by
      rw [filterMap_some, List.map_map]; rfl
    have e2 : (xs.map bt).all id = xs.all bt := by rw [List.all_map]; rfl
    rw [e, d_all, e2]
    cases q : xs.all bt with
    | false => simp [freeze, dat, w_bl]
    | true =>
      have z := ha q
      simp [freeze, dat, w_bl, wp_exs0, w_call, w_es, w_es0, w_var, z, wp_ok]
/-- what is no group -/
theorem bad_group (t : TG9 T) {m : Nat} (hm : 1 ≤ m) {d : D} (h : d ∈ ([.non, .tup [], .tup [.int 0, .int 0], .tup [.int m], .tup [.int (-1)], .lst [.int 0], .tup [.bl false], .int 0] : List D)) : callI T GG (k + 2) 9 [.int m, d] S = .ok (.bl false) S := by
  simp only [List.mem_cons, List.not_mem_nil, or_false] at h
  have easy : ∀ d, isiD .tuple d = some false → dat d = true → callI T GG (k + 2) 9 [.int m, d] S = .ok (.bl false) S := fun d hi hd => by
    refine call_pure t.t9 rfl (by simp only [dats, dat, hd, Bool.and_self]) rfl ?_
    simp [f9, startD, wp_exs, s_ife, s_ret, w_bl, w_or, w_or2, w_or1, w_not, w_bi, d_isi, w_var, hi, freeze, dat]
  have one : ∀ i : Int, (decide ((0 : Int) ≤ i) && decide (i ≤ (m : Int) - 1)) = false → callI T GG (k + 2) 9 [.int m, .tup [.int i]] S = .ok (.bl false) S := fun i hi => by
    have z := group_tup (k := k + 1) (S := S) (m := m) (xs := [.int i]) (b := true) t (by simp) rfl rfl (fun _ => false) (fun x hx S => by
      simp at hx; subst hx
      rw [between_ok t.t0, hi]) (fun z => by simp at z)
    simpa using z
  rcases h with rfl | rfl | rfl | rfl | rfl | rfl | rfl | rfl
  · exact easy _ rfl rfl
  · refine call_pure t.t9 rfl rfl rfl ?_
    simp [f9, startD, wp_exs, s_ife, s_ret, w_bl, w_or, w_or2, w_or1, w_not, w_bi, w_cmp, w_tup, w_es0, d_isi, w_var, isiD, d_eq (show okD 60 (.tup []) = true from rfl) (show okD 60 (.tup []) = true from rfl), deq, deqs, lim, freeze, dat]
  · have a1 := fun S => ascending_ok (k := k) (S := S) t.t1 D.int (fun a b => decide (a < b)) dat_I (fun a b => rfl) [0, 0]
    have z := group_tup (k := k + 1) (S := S) (m := m) (xs := [.int 0, .int 0]) (b := false) t (by simp) rfl rfl (fun _ => true) (fun x hx S => by
      simp at hx; subst hx
      have : (0 : Int) ≤ (m : Int) - 1 := by omega
      rw [between_ok t.t0]
      simp only [this, Int.le_refl, decide_true, Bool.and_self]) (fun _ S => by rw [show ([.int 0, .int 0] : List D) = ([0, 0] : List Int).map D.int from rfl, a1]; rfl)
    simpa using z
  · exact one _ (by simp; omega)
  · exact one _ (by simp)
  · exact easy _ rfl rfl
  · have z := group_tup (k := k + 1) (S := S) (m := m) (xs := [.bl false]) (b := true) t (by simp) rfl rfl (fun _ => false) (fun x hx S => by
      simp at hx; subst hx
      rw [between_bl t.t0]) (fun z => by simp at z)
    simpa using z
  · exact easy _ rfl rfl
/-- what is neither records nor rules -/
theorem no_records (t : TG T) {d : D} (h : d = .non ∨ d = .tup []) : callI T GG (k + 1) 3 [d] S = .ok (.bl false) S := by
  rcases h with rfl | rfl
  · refine call_pure t.t3 rfl rfl rfl ?_
    simp [f3, startD, wp_exs, s_ife, s_ret, w_bl, w_or, w_or2, w_or1, w_not, w_bi, d_isi, w_var, isiD, freeze, dat]
  · refine call_pure t.t3 rfl rfl rfl ?_
    simp [f3, startD, wp_exs, s_ife, s_ret, w_bl, w_or, w_or2, w_or1, w_not, w_bi, w_chain, w_int, w_glb, d_isi, d_lenT, d_le, w_var, isiD, freeze, dat]
theorem no_rules (t : TG T) {d : D} (h : d = .non ∨ d = .tup []) : callI T GG (k + 1) 5 [d] S = .ok (.bl false) S := by
  rcases h with rfl | rfl
  · refine call_pure t.t5 rfl rfl rfl ?_
    simp [f5, startD, wp_exs, s_ife, s_ret, w_bl, w_or, w_or2, w_or1, w_not, w_bi, d_isi, w_var, isiD, freeze, dat]
  · refine call_pure t.t5 rfl rfl rfl ?_
    simp [f5, startD, wp_exs, s_ife, s_ret, w_bl, w_or, w_or2, w_or1, w_not, w_bi, w_cmp, w_int, d_isi, d_lenT, d_neI, w_var, isiD, freeze, dat]
end
end G11

/-! Lib35: _law_values, _law_keys of k02 -/
namespace G11
local macro_rules | `(tactic| decreasing_tactic) => `(tactic| try simp only [wp_exs, wp_exs0, s_set, s_ret, s_ex, s_ife, s_cont, s_pass, s_setI, a_unp, a_par, w_var, w_glb, w_non, w_bl, w_int, w_str, w_es0, w_es, w_tup, w_lst, w_newL, w_bin, w_neg, w_cmp, w_isN, w_notN, w_chain, w_not, w_and, w_or, w_and1, w_or1, w_and2, w_or2, w_ife, w_idx, w_sl, w_o0, w_o1, w_call, w_bi, w_sset, w_meth, w_tupR, w_lstR, w_c1, d_lt, d_le, d_gt, d_ge, d_eqI, d_neI, d_isi, d_lenT, d_lenL, d_tupT, e_tupLI, e_tupLT, d_lstL, e_eqI, e_neI, e_eqI0, e_neI0, e_eqT, e_neT, e_eqK, e_neK, e_eqR, e_neR, e_eqLI, e_neLI, e_eqLI0, e_neLI0, e_inI, e_notI, e_inLI, e_notLI, e_eqB, e_neB, e_neTk, e_lenI, e_lenK, e_lenT, e_lenRs, e_lenR, e_U0, e_U1, e_sortedT, e_sortedL, startD, List.map_cons, List.map_nil, List.length_cons, List.length_nil, List.replicate, List.cons_append, List.nil_append, List.append_nil, List.set_cons_zero, List.set_cons_succ, List.getElem?_cons_zero, List.getElem?_cons_succ, setAll, bindTg, wipeD, Option.some.injEq, D.bl.injEq, D.int.injEq, D.tup.injEq, D.lst.injEq, exists_eq_left', exists_eq_left, isiD, Bool.false_eq_true, if_true, if_false, Bool.not_true, Bool.not_false, true_and, and_true, Nat.reduceSub, Nat.reduceAdd, Nat.sub_self, Nat.reduceLeDiff, Nat.reduceEqDiff, lim, List.length_map])
section
variable {T : Nat → Option Fn} {k : Nat} {S : Store}
theorem take_last {l : List Int} (h : l ≠ []) : l.drop (l.length - 1) = [l.getD (l.length - 1) 0] := by
  have hl : 0 < l.length := List.length_pos_iff.mpr h
  rw [List.drop_eq_getElem_cons (by omega), List.drop_eq_nil_of_le (by omega), List.getD_eq_getElem?_getD, List.getElem?_eq_getElem (by omega)]; rfl
theorem take_first {l : List Int} (h : l ≠ []) : l.take 1 = [l.getD 0 0] := by
  cases l with
  | nil => exact absurd rfl h
  | cons a r => rfl
theorem frz_K {S : Store} (l : LL) : freeze S (encK l) = some (encK l) := by
  unfold freeze encK
  exact if_pos (dat_K l)
theorem lvals_ok (t : T 105 = some f105) {n : Nat} {rs : List Rec} {takes : List Tk} {g : List Int} (vr : VR n rs) (hl : takes.length = n) (vg : VG rs g) : callI T GG (k + 1) 105 [encRs rs, .tup (takes.map encT), tupI g] S = .ok (encK (vals rs takes g)) S := by
  refine call_pure t rfl (by simp only [dats, dat, dat_Rs, dat_tupI, dats_map _ dat_T, Bool.and_self]) rfl ?_
  have at' : ∀ f, f < n → ∀ i ∈ g, nth (rs.map encR) i = some (encR (rs.getD i.toNat [])) ∧ nth ((rs.getD i.toNat []).map encV) (f : Int) = some (encV (valAt rs f i)) := fun f hf i hi => by
    obtain ⟨h1, h2⟩ := vg.ok.2.1 i hi
    refine ⟨nth_enc h1 h2 [], ?_⟩
    have hm : rs.getD i.toNat [] ∈ rs := by
      have hj : i.toNat < rs.length := by omega
      rw [List.getD_eq_getElem?_getD, List.getElem?_eq_getElem hj]; exact List.getElem_mem hj
    have hl := (vr.row _ hm).1
    exact nth_enc (by omega) (by omega) none
  unfold f105
  decreasing_tactic
  refine s_for takes.zipIdx (fun p => D.tup [.int (p.2 : Nat), encT p.1]) (fun rest env S => ∃ done : LL, done ++ (rest.map fun p => takenS p.1 (somes rs p.2 g)) = vals rs takes g ∧ ∃ x4 x5 x6 x7, env = [some (encRs rs), some (.tup (takes.map encT)), some (tupI g), some (encK done), x4, x5, x6, x7]) ?_ ?_ ?_
  · refine sr_enum' ?_
    decreasing_tactic
    exact ⟨enum_enc encT takes 0, [], rfl, _, _, _, _, rfl⟩
  · rintro ⟨tk, f⟩ r env S1 ⟨done, hdone, x4, x5, x6, x7, rfl⟩ ⟨l, hl2⟩
    refine ⟨_, rfl, ?_⟩
    have hm : (tk, f) ∈ takes.zipIdx := by rw [hl2]; simp
    have hf : f < n := by
      have := List.mem_zipIdx_iff_getElem?.mp hm
      have := (List.getElem?_eq_some_iff.mp this).1
      omega
    have hdl : done.length < lim := by
      have e := congrArg List.length hdone
      rw [List.length_append, vals_len, hl] at e
      have := vr.n4
      show _ < 1000000; omega
    decreasing_tactic
    refine s_for g D.int (fun rest env S => ∃ acc : List Int, acc ++ somes rs f rest = somes rs f g ∧ acc.length + rest.length ≤ g.length ∧ S[S1.length]? = some (.lst (acc.map .int)) ∧ ∃ x7, env = [some (encRs rs), some (.tup (takes.map encT)), some (tupI g), some (encK done), some (.int f), some (encT tk), some (.ref S1.length), x7]) ?_ ?_ ?_
    · refine sr_val' ?_
      decreasing_tactic
      exact ⟨_, rfl, rfl, [], rfl, by simp, by simp, _, rfl⟩
    · rintro i r2 env S2 ⟨acc, hacc, hlen, hS2, x7, rfl⟩ ⟨l2, hl3⟩
      refine ⟨_, rfl, ?_⟩
      have hi : i ∈ g := by rw [hl3]; simp
      obtain ⟨a1, a2⟩ := at' f hf i hi
      decreasing_tactic
      have g1 : ∀ (S : Store) (P : D → Store → Prop), (Wp (doIdx (encRs rs) (D.int i) S) P ↔ P (encR (rs.getD i.toNat [])) S) := fun S P => by
        unfold encRs
        rw [d_idxT, a1]
        simp
      have g2 : ∀ (S : Store) (P : D → Store → Prop), (Wp (doIdx (encR (rs.getD i.toNat [])) (D.int f) S) P ↔ P (encV (valAt rs f i)) S) := fun S P => by
        unfold encR
        rw [d_idxT, a2]
        simp
      have hsm : somes rs f (i :: r2) = (valAt rs f i).toList ++ somes rs f r2 := by
        unfold somes
        rw [List.filterMap_cons]
        cases valAt rs f i <;> rfl
      rw [hsm] at hacc
      simp only [g1, g2, isNon_V]
      cases hv : valAt rs f i with
      | none =>
        rw [hv] at hacc
        simp only [Option.isNone_none, Bool.not_true, Bool.false_eq_true, if_false]
        exact ⟨acc, by simpa using hacc, by simp at hlen; omega, hS2, _, rfl⟩
      | some v =>
        rw [hv] at hacc
        simp only [Option.isNone_some, Bool.not_false, if_true]
        have hb : acc.length < lim := by have := vg.few; simp at hlen; show _ < 1000000; omega
        refine ⟨by unfold mtOk; simp only [hS2]; rfl, ?_⟩
        have hap : doMeth .append (.ref (List.length S1)) [encV (some v)] S2 = .ok .non (S2.set (List.length S1) (.lst (acc.map D.int ++ [encV (some v)]))) := by
          simp only [doMeth, hS2]
          exact if_pos (by rw [List.length_map]; exact hb)
        refine (wp_eq hap).mpr ⟨acc ++ [v], by simpa using hacc, by simp at hlen ⊢; omega, ?_, _, rfl⟩
        rw [List.getElem?_set_self (List.getElem?_eq_some_iff.mp hS2).1]
        simp [encV]
    · rintro env S2 ⟨acc, hacc, hlen, hS2, x7, rfl⟩
      have hacc : acc = somes rs f g := by simpa [somes] using hacc
      subst hacc
      have hlt : (somes rs f g).length < 64 := by have := vg.few; simp at hlen; omega
      have fin : ∀ v6 : Option D, ∃ z, doBin .add (encK done) (.tup [tupI (takenS tk (somes rs f g))]) = some z ∧ ∃ done : LL, done ++ List.map (fun p => takenS p.fst (somes rs p.snd g)) r = vals rs takes g ∧ ∃ x4 x5 x6 x7_1,
          ([some (encRs rs), some (D.tup (List.map encT takes)), some (tupI g), some z, some (D.int f), some (encT tk), v6, x7] : EnvD) = [some (encRs rs), some (D.tup (List.map encT takes)), some (tupI g), some (encK done), x4, x5, x6, x7_1] := fun v6 => by
        refine ⟨encK (done ++ [takenS tk (somes rs f g)]), ?_, done ++ [takenS tk (somes rs f g)], by simpa using hdone, _, _, _, _, rfl⟩
        unfold encK
        simp only [doBin, List.length_map, List.length_cons, List.length_nil]
        rw [if_pos (by omega), List.map_append]
        rfl
      have c1 : ∀ (tk : Tk) (S : Store), doCmpS .eq (encT tk) (.str [97, 108, 108]) S = .ok (.bl (decide (tk = .all))) S := fun tk S => by cases tk <;> rfl
      have c2 : ∀ (tk : Tk) (S : Store), doCmpS .eq (encT tk) (.str [102, 105, 114, 115, 116]) S = .ok (.bl (decide (tk = .first))) S := fun tk S => by cases tk <;> rfl
      decreasing_tactic
      simp only [c1, c2, wp_ok, D.bl.injEq, exists_eq_left']
      by_cases hall : tk = .all
      · subst hall
        simp only [decide_true, if_true]
        have e : doSset (.ref (List.length S1)) S2 = .ok (.lst ((sSet (somes rs f g)).map .int)) S2 := by
          simp only [doSset, hS2, sset_ints hlt]
        exact (wp_eq e).mpr (d_tupL.mpr (fin _))
      · simp only [hall, decide_false, Bool.false_eq_true, if_false]
        have e : ∀ P : D → Store → Prop, (Wp (doCmpS .ne (.ref (List.length S1)) (.lst []) S2) P ↔ Wp (doCmpS .ne (.lst ((somes rs f g).map .int)) (.lst []) S2) P) := fun P => by
          simp only [doCmpS, derefL, hS2]
        rw [e]
        refine e_neLI0.mpr ?_
        simp only [D.bl.injEq, exists_eq_left']
        by_cases hnil : somes rs f g = []
        · simp only [hnil, decide_true, Bool.not_true, Bool.false_eq_true, if_false]
          have e2 : doBi .tuple (.ref (List.length S1)) S2 = .ok (tupI (takenS tk (somes rs f g))) S2 := by
            have e3 : takenS tk (somes rs f g) = [] := taken_nil.mpr hnil
            rw [e3]
            simp only [doBi, hS2, hnil, tupI]
          exact (wp_eq e2).mpr (fin _)
        · simp only [hnil, decide_false, Bool.not_false, if_true]
          have last : ∀ x : Int, takenS tk (somes rs f g) = [x] → Wp (doBi .tuple (.ref (List.length S2)) (S2 ++ [O.lst [.int x]])) fun x S1_4 => ∃ z, doBin .add (encK done) (.tup [x]) = some z ∧ ∃ done : LL, done ++ List.map (fun p => takenS p.fst (somes rs p.snd g)) r = vals rs takes g ∧ ∃ x4 x5 x6 x7_1,
              ([some (encRs rs), some (D.tup (List.map encT takes)), some (tupI g), some z, some (D.int f), some (encT tk), some (.ref (List.length S2)), x7] : EnvD) = [some (encRs rs), some (D.tup (List.map encT takes)), some (tupI g), some (encK done), x4, x5, x6, x7_1] := fun x hx => by
            have e2 : doBi .tuple (.ref (List.length S2)) (S2 ++ [O.lst [.int x]]) = .ok (tupI (takenS tk (somes rs f g))) (S2 ++ [O.lst [.int x]]) := by
              simp [doBi, hx, tupI]
            exact (wp_eq e2).mpr (fin _)
          have hpos : 0 < (somes rs f g).length := List.length_pos_iff.mpr hnil
          have at0 : ∀ j : Int, 0 ≤ j → j < ((somes rs f g).length : Int) → ∀ P : D → Store → Prop, (Wp (doIdx (.ref (List.length S1)) (.int j) S2) P ↔ P (.int ((somes rs f g).getD j.toNat 0)) S2) := fun j h0 h1 P => by
            rw [d_idxR]
            have : getK S2 (List.length S1) (.int j) = some (.int ((somes rs f g).getD j.toNat 0)) := by
              simp only [getK, hS2]
              exact nth_enc h0 h1 0
            rw [this]
            simp
          by_cases hfi : tk = .first
          · subst hfi
            simp only [decide_true, if_true]
            rw [at0 0 (by omega) (by omega)]
            exact last _ (take_first hnil)
          · simp only [hfi, decide_false, Bool.false_eq_true, if_false]
            have e4 : doBi .len (.ref (List.length S1)) S2 = .ok (.int ((somes rs f g).length : Int)) S2 := by
              simp only [doBi, hS2, List.length_map]
            refine (wp_eq e4).mpr ⟨.int (((somes rs f g).length : Int) - 1), rfl, ?_⟩
            rw [at0 _ (by omega) (by omega)]
            have e5 : (((somes rs f g).length : Int) - 1).toNat = (somes rs f g).length - 1 := by omega
            rw [e5]
            have htl : tk = .last := by cases tk <;> simp_all
            subst htl
            exact last _ (take_last hnil)
  · rintro env S1 ⟨done, hdone, x4, x5, x6, x7, rfl⟩
    rw [List.map_nil, List.append_nil] at hdone
    subst hdone
    decreasing_tactic
    exact frz_K _
theorem e_addL {a b : List Int} (h : a.length + b.length ≤ lim) : doBin .add (.lst (a.map .int)) (.lst (b.map .int)) = some (.lst ((a ++ b).map .int)) := by
  simp only [doBin, List.length_map]
  rw [if_pos h, List.map_append]
theorem lkeys_ok (t : T 105 = some f105) (t2 : T 106 = some f106) {n : Nat} {rs : List Rec} {keys : LL} {takes : List Tk} {g h : List Int} (vr : VR n rs) (vu : VU n keys takes) (vg : VG rs g) (vh : VG rs h) :
    callI T GG (k + 2) 106 [encRs rs, encU keys takes, tupI g, tupI h] S = .ok (.lst ((keysFor rs keys takes g h).map .int)) S := by
  refine call_pure t2 rfl (by simp only [dats, dat, dat_Rs, dat_U, dat_tupI, Bool.and_self]) rfl ?_
  have q1 := fun S => lvals_ok (k := k) (S := S) t vr vu.len vg
  have q2 := fun S => lvals_ok (k := k) (S := S) t vr vu.len vh
  unfold f106
  decreasing_tactic
  simp only [q1, q2, wp_ok]
  refine s_for keys.zipIdx (fun p => D.tup [.int (p.2 : Nat), tupI p.1]) (fun rest env S => ∃ done : List Int, done ++ (rest.filterMap fun p => if agree (vals rs takes g) (vals rs takes h) p.1 then some (p.2 : Int) else none) = keysFor rs keys takes g h ∧ done.length + rest.length ≤ keys.length ∧ ∃ x7 x8 x9, env = [some (encRs rs), some (encU keys takes), some (tupI g), some (tupI h), some (encK (vals rs takes g)), some (encK (vals rs takes h)), some (.lst (done.map .int)), x7, x8, x9, none, none]) ?_ ?_ ?_
  · refine sr_enum' ?_
    decreasing_tactic
    exact ⟨_, rfl, enum_enc tupI keys 0, [], rfl, by simp, _, _, _, rfl⟩
  · rintro ⟨key, j⟩ r env S1 ⟨done, hdone, hlen, x7, x8, x9, rfl⟩ ⟨l, hl2⟩
    refine ⟨_, rfl, ?_⟩
    have hm : (key, j) ∈ keys.zipIdx := by rw [hl2]; simp
    have hj : keys[j]? = some key := List.mem_zipIdx_iff_getElem?.mp hm
    have lg : (vals rs takes g).length = n := by rw [vals_len, vu.len]
    have lh : (vals rs takes h).length = n := by rw [vals_len, vu.len]
    decreasing_tactic
    refine wp_lcF key D.int D.int (fun f => decide ((((vals rs takes g).getD f.toNat []).filter fun v => decide (v ∈ (vals rs takes h).getD f.toNat [])) = [])) id ?_ ?_ ?_
    · refine sr_val' ?_
      decreasing_tactic
      exact ⟨_, rfl, rfl⟩
    · intro f hf
      obtain ⟨f0, f1⟩ := vu.field hj hf
      refine ⟨_, rfl, ?_, fun _ => ?_⟩
      · decreasing_tactic
        refine wp_lcF ((vals rs takes g).getD f.toNat []) D.int D.int (fun v => decide (v ∈ (vals rs takes h).getD f.toNat [])) id ?_ ?_ ?_
        · refine sr_val' ?_
          decreasing_tactic
          refine (e_atK f0 (by rw [lg]; omega)).mpr ⟨_, rfl, rfl, rfl⟩
        · intro v hv
          refine ⟨_, rfl, ?_, fun _ => ?_⟩
          · decreasing_tactic
            refine (e_atK f0 (by rw [lh]; omega)).mpr ?_
            decreasing_tactic
          · decreasing_tactic
            rfl
        · rw [List.map_id]
          decreasing_tactic
      · decreasing_tactic
        rfl
    · rw [List.map_id]
      decreasing_tactic
      have key_iff : (key.filter fun f => decide ((((vals rs takes g).getD f.toNat []).filter fun v => decide (v ∈ (vals rs takes h).getD f.toNat [])) = [])) = [] ↔ agree (vals rs takes g) (vals rs takes h) key = true := by
        rw [List.filter_eq_nil_iff, agree_iff]
        refine forall_congr' fun f => forall_congr' fun hf => ?_
        rw [decide_eq_true_eq, List.filter_eq_nil_iff]
        constructor
        · intro z
          refine Classical.byContradiction fun hc => ?_
          exact z fun v hv hv2 => hc ⟨v, hv, of_decide_eq_true hv2⟩
        · rintro ⟨v, h1, h2⟩ z
          exact z v h1 (decide_eq_true h2)
      have hb : done.length + 1 ≤ lim := by have := vu.few; simp at hlen; show _ ≤ 1000000; omega
      rw [List.filterMap_cons] at hdone
      by_cases ha : agree (vals rs takes g) (vals rs takes h) key = true
      · have e := key_iff.mpr ha
        simp only [ha, if_true] at hdone
        simp only [e, decide_true, if_true]
        refine ⟨_, e_addL (a := done) (b := [(j : Int)]) hb, done ++ [(j : Int)], by simpa using hdone, by simp at hlen ⊢; omega, _, _, _, rfl⟩
      · have e : ¬ ((key.filter fun f => decide ((((vals rs takes g).getD f.toNat []).filter fun v => decide (v ∈ (vals rs takes h).getD f.toNat [])) = [])) = []) := fun z => ha (key_iff.mp z)
        simp only [ha, if_false] at hdone
        simp only [e, decide_false, Bool.false_eq_true, if_false]
        refine ⟨_, e_addL (a := done) (b := []) (by simp; omega), done, by simpa using hdone, by simp at hlen; omega, _, _, _, (by rw [List.append_nil])⟩
  · rintro env S1 ⟨done, hdone, hlen, x7, x8, x9, rfl⟩
    rw [List.filterMap_nil, List.append_nil] at hdone
    subst hdone
    decreasing_tactic
    unfold freeze
    exact if_pos (by simp only [dat]; exact dats_map _ dat_I _)
end
end G11

/-! K02Law: the law k02, in plain Lean -/
namespace G11
section
variable {Γ : Nat → List D → M D} {G : List D} {env : EnvD} {S : Store} {P : D → Store → Prop}
theorem w_callK {f : Nat} {es ks : Es} : Wp (ev Γ G (.callK f es ks) env S) P ↔ Wp (evs Γ G es env S) fun ds S1 => Wp (evs Γ G ks env S1) fun cs S2 => Wp (Γ f (ds ++ cs) S2) P := by
  simp only [ev, wp_bind]
theorem w_cat {a b : E} : Wp (ev Γ G (.cat a b) env S) P ↔ Wp (ev Γ G a env S) fun x S1 => Wp (ev Γ G b env S1) fun y S2 => Wp (doCat x y S2) P := by
  simp only [ev, wp_bind]
end
end G11
namespace K02
open G11
local macro_rules | `(tactic| decreasing_tactic) => `(tactic| try simp (maxSteps := 3000000) only [wp_exs, wp_exs0, s_set, s_ret, s_ex, s_ife, s_cont, s_pass, s_setI, a_unp, a_par, w_var, w_glb, w_non, w_bl, w_int, w_str, w_es0, w_es, w_tup, w_lst, w_newL, w_bin, w_neg, w_cmp, w_isN, w_notN, w_chain, w_not, w_and, w_or, w_and1, w_or1, w_and2, w_or2, w_ife, w_idx, w_sl, w_o0, w_o1, w_call, w_callK, w_cat, w_bi, w_sset, w_meth, w_tupR, w_lstR, w_c1, d_lt, d_le, d_gt, d_ge, d_eqI, d_neI, d_isi, d_lenT, d_lenL, d_tupT, e_tupLI, e_tupLT, d_lstL, e_eqI, e_neI, e_eqI0, e_neI0, e_eqT, e_neT, e_eqK, e_neK, e_eqR, e_neR, e_eqLI, e_neLI, e_eqLI0, e_neLI0, e_inI, e_notI, e_inLI, e_notLI, e_eqB, e_neB, e_neTk, e_lenI, e_lenK, e_lenT, e_lenRs, e_lenR, e_U0, e_U1, e_sortedT, e_sortedL, startD, List.map_cons, List.map_nil, List.length_cons, List.length_nil, List.replicate, List.cons_append, List.nil_append, List.append_nil, List.set_cons_zero, List.set_cons_succ, List.getElem?_cons_zero, List.getElem?_cons_succ, setAll, bindTg, wipeD, Option.some.injEq, D.bl.injEq, D.int.injEq, D.tup.injEq, D.lst.injEq, exists_eq_left', exists_eq_left, isiD, Bool.false_eq_true, if_true, if_false, Bool.not_true, Bool.not_false, true_and, and_true, Nat.reduceSub, Nat.reduceAdd, Nat.sub_self, Nat.reduceLeDiff, Nat.reduceEqDiff, lim, List.length_map])
theorem tg : TG9 T := ⟨⟨rfl, rfl, rfl, rfl, rfl, rfl, rfl, rfl, rfl, rfl, rfl, rfl, rfl⟩, rfl, rfl⟩
theorem G_eq : G = GG := rfl
abbrev sGroup : D := .tup [.str [103, 114, 111, 117, 112]]
abbrev sRecords : D := .tup [.str [114, 101, 99, 111, 114, 100, 115]]
abbrev sRules : D := .tup [.str [114, 117, 108, 101, 115]]
theorem res_of {f k : Nat} {ds : List D} {S : Store} {c : Nat} {w : List Nat} (h : callI T GG k f ds S = .exc c S) (hw : wordC c = some w) (hT : T (resN + f) = none) : callI T GG (k + 2) (resN + f) ds S = .ok (.tup [.str w]) S := by
  rw [callI_res _ _ _ _ _ _ hT, h]
  simp only [resOf, hw]
theorem law_true (ns : List Int) (hns : ns.length ≤ 63) : ∃ S, callI T G 30 107 [.scl ns] [] = .ok (.bl true) S := by
  rw [G_eq]
  suffices h : Wp (callI T GG (29 + 1) 107 [.scl ns] []) fun d _ => d = .bl true by
    obtain ⟨d, S, e, rfl⟩ := h
    exact ⟨S, e⟩
  refine call_own (fn := f107) rfl rfl rfl ?_
  unfold f107
  decreasing_tactic
  refine (wp_eq (begun_ok (T := T) (k := 28) rfl)).mpr ?_
  refine s_for (List.range' 0 5) (fun i => D.int (i : Nat)) (fun rest env S => Town S ∧ ∃ x2 x3 x4 x5 x6 x7 x8 x9 x10 x11 x12 x13 x14 x15, env = [some (.scl ns), some (.ref 1), x2, x3, x4, x5, x6, x7, x8, x9, x10, x11, x12, x13, x14, x15, none]) ?_ ?_ ?_
  · refine sr_rng' ?_
    decreasing_tactic
    exact ⟨by decide, by decide, rfl, begun_town, _, _, _, _, _, _, _, _, _, _, _, _, _, _, rfl⟩
  · rintro x r env S ⟨ht, x2, x3, x4, x5, x6, x7, x8, x9, x10, x11, x12, x13, x14, x15, rfl⟩ _
    refine ⟨_, rfl, ?_⟩
    decreasing_tactic
    refine (draw_ok (k := 28) (many := 4) rfl hns (by decide) (by decide) ht).mono ?_
    rintro _ S1 ⟨v, rfl, v0, v1, st1⟩
    obtain ⟨n, hn⟩ : ∃ n : Nat, 1 + v = n := ⟨(1 + v).toNat, by omega⟩
    have n1 : 1 ≤ n := by omega
    have n4 : n ≤ 4 := by omega
    refine ⟨.int n, by simp only [doBin, hn], ?_⟩
    refine (records_drawn (k := 27) (most := 6) rfl rfl hns n4 (by decide) (by decide) st1.town).mono ?_
    rintro _ S2 ⟨rs, rfl, dr, ht2⟩
    refine (rules_drawnQ (k := 27) 104 rfl rfl hns n1 n4 ht2).mono ?_
    rintro _ S3 ⟨keys, takes, rfl, vu, _, ht3⟩
    have vr : VR n rs := ⟨dr.lo, dr.hi, n1, n4, fun r hr => ⟨(dr.row r hr).1, fun v hv => by
      rcases (dr.row r hr).2 v hv with rfl | rfl | rfl | rfl <;> rfl⟩⟩
    have hlen1 : 1 ≤ rs.length := dr.lo
    have hlen6 : rs.length ≤ 6 := dr.hi
    have dRs := dat_Rs rs
    have dU := dat_U keys takes
    have vg0 : VG rs [0] := mkVG vr (key_one (by omega) (by omega))
    have k8 : ∀ S, callI T GG 26 8 [encRs rs, encU keys takes] S = .ok .non S := fun S => check8 (k := 21) (S := S) tg.toTG vr vu
    have k10 : ∀ S, callI T GG 26 10 [encRs rs, .tup [.int 0]] S = .ok .non S := fun S => check10 (k := 23) (S := S) (rs := rs) (g := [0]) tg vg0.ok
    have b10 : ∀ d, d ∈ ([.non, .tup [], .tup [.int 0, .int 0], .tup [.int rs.length], .tup [.int (-1)], .lst [.int 0], .tup [.bl false], .int 0] : List D) → dat d = true → ∀ S, callI T GG 26 10 [encRs rs, d] S = .exc 3 S := fun d hd hdt S =>
      exc10 (k := 25) tg hdt hlen6 (fun S => bad_group (k := 23) tg hlen1 hd)
    have r13 : ∀ d, d ∈ ([.non, .tup [], .tup [.int 0, .int 0], .tup [.int rs.length], .tup [.int (-1)], .lst [.int 0], .tup [.bl false], .int 0] : List D) → dat d = true → ∀ S, callI T GG 29 100013 [encRs rs, encU keys takes, d] S = .ok sGroup S := fun d hd hdt S =>
      res_of (k := 27) (f := 13) (exc13b (k := 26) rfl dRs dU hdt k8 (b10 d hd hdt)) rfl rfl
    have r16 : ∀ d, d ∈ ([.non, .tup [], .tup [.int 0, .int 0], .tup [.int rs.length], .tup [.int (-1)], .lst [.int 0], .tup [.bl false], .int 0] : List D) → dat d = true → ∀ S, callI T GG 29 100016 [encRs rs, encU keys takes, d, .non] S = .ok sGroup S := fun d hd hdt S =>
      res_of (k := 27) (f := 16) (exc16b (k := 26) rfl dRs dU hdt rfl k8 (b10 d hd hdt)) rfl rfl
    have r16b : ∀ d, d ∈ ([.non, .tup [], .tup [.int 0, .int 0], .tup [.int rs.length], .tup [.int (-1)], .lst [.int 0], .tup [.bl false], .int 0] : List D) → dat d = true → ∀ S, callI T GG 29 100016 [encRs rs, encU keys takes, .tup [.int 0], d] S = .ok sGroup S := fun d hd hdt S =>
      res_of (k := 27) (f := 16) (exc16c (k := 26) rfl dRs dU rfl hdt k8 k10 (b10 d hd hdt)) rfl rfl
    have z6 : ∀ d, d = .non ∨ d = .tup [] → dat d = true → ∀ S, callI T GG 25 6 [d] S = .exc 1 S := fun d h hd S => exc6 (k := 24) tg.toTG hd fun S => no_records (k := 23) tg.toTG h
    have z7 : ∀ d, d = .non ∨ d = .tup [] → dat d = true → ∀ S, callI T GG 25 7 [d] S = .exc 2 S := fun d h hd S => exc7 (k := 24) tg.toTG hd fun S => no_rules (k := 23) tg.toTG h
    have c6 : ∀ S, callI T GG 25 6 [encRs rs] S = .ok .non S := fun S => check6 (k := 21) (S := S) tg.toTG vr
    have s1 : ∀ S, callI T GG 29 100013 [.non, .non, .non] S = .ok sRecords S := fun S =>
      res_of (k := 27) (f := 13) (exc13a (k := 26) rfl rfl rfl rfl (fun S => exc8a (k := 25) tg.toTG rfl rfl (z6 _ (.inl rfl) rfl))) rfl rfl
    have s2 : ∀ S, callI T GG 29 100013 [encRs rs, .tup [], .non] S = .ok sRules S := fun S =>
      res_of (k := 27) (f := 13) (exc13a (k := 26) rfl dRs rfl rfl (fun S => exc8b (k := 25) tg.toTG dRs rfl c6 (z7 _ (.inr rfl) rfl))) rfl rfl
    have s3 : ∀ S, callI T GG 29 100016 [encRs rs, encU keys takes, .tup [.int 0], .tup [.int 0]] S = .ok sGroup S := fun S =>
      res_of (k := 27) (f := 16) (exc16d (k := 26) rfl dRs dU k8 k10) rfl rfl
    have s4 : ∀ S, callI T GG 29 100016 [.tup [], .non, .tup [.int 0], .tup [.int 1]] S = .ok sRecords S := fun S =>
      res_of (k := 27) (f := 16) (exc16a (k := 26) rfl rfl rfl rfl rfl (fun S => exc8a (k := 25) tg.toTG rfl rfl (z6 _ (.inr rfl) rfl))) rfl rfl
    decreasing_tactic
    refine s_for (List.range' 0 4) (fun i => D.int (i : Nat)) (fun rest env S => Town S ∧ ∃ x2 x7 x8 x9 x10 x11 x12 x13 x14 x15, env = [some (.scl ns), some (.ref 1), x2, some (.int n), some (encRs rs), some (encU keys takes), some (.int rs.length), x7, x8, x9, x10, x11, x12, x13, x14, x15, none]) ?_ ?_ ?_
    · refine sr_rng' ?_
      decreasing_tactic
      exact ⟨by decide, by decide, rfl, ht3, _, _, _, _, _, _, _, _, _, _, rfl⟩
    · rintro y r2 env S4 ⟨ht4, x2, x7, x8, x9, x10, x11, x12, x13, x14, x15, rfl⟩ _
      refine ⟨_, rfl, ?_⟩
      decreasing_tactic
      refine wp_lcD (List.range' 0 rs.length) (fun i => D.int (i : Nat)) D.int (fun _ _ => True) ht4 ?_ ?_ ?_
      · refine sr_rng' (w_var.mpr ⟨_, rfl, rs.length, rfl, by omega, by omega, ?_, rfl⟩)
        rw [Int.toNat_natCast, range0]
      · intro z hz
        refine ⟨_, rfl, fun S5 ht5 => ?_⟩
        decreasing_tactic
        refine (draw_ok (k := 28) (many := 3) rfl hns (by decide) (by decide) ht5).mono ?_
        rintro _ S6 ⟨a, rfl, a0, a1, st6⟩
        exact ⟨a, rfl, st6⟩
      intro sides S5 hl _ st
      rw [List.length_range'] at hl
      have ht5 := st.town
      decreasing_tactic
      have pick : ∀ (c : E) (p : Int → Bool) (hc : ∀ (x : Nat), x < rs.length → ∀ (e : EnvD), e[10]? = some (some (.lst (sides.map .int))) → e[16]? = some (some (.int (x : Int))) → Wp (ev (callI T GG 29) GG c e S5) fun d S' => d = .bl (p (sides.getD x 0)) ∧ S' = S5) (x7 x8 x9 x11 x12 x13 x14 x15 : Option D) (P : D → Store → Prop),
          P (.lst ((((List.range' 0 rs.length).filter fun i => p (sides.getD i 0)).map fun i : Nat => (i : Int)).map D.int)) S5 → Wp (ev (callI T GG 29) GG (.lc [16] (.nm 16) (.rng (.var 6)) (.cons c .nil) (.var 16)) [some (.scl ns), some (.ref 1), x2, some (.int n), some (encRs rs), some (encU keys takes), some (.int rs.length), x7, x8, x9, some (.lst (sides.map .int)), x11, x12, x13, x14, x15, none] S5) P := by
        intro c p hc x7 x8 x9 x11 x12 x13 x14 x15 P hP
        refine wp_lcF (List.range' 0 rs.length) (fun i => D.int (i : Nat)) D.int (fun i => p (sides.getD i 0)) (fun i => (i : Int)) ?_ ?_ hP
        · refine sr_rng' (w_var.mpr ⟨_, rfl, rs.length, rfl, by omega, by omega, ?_, rfl⟩)
          rw [Int.toNat_natCast, range0]
        · intro x hx
          have hx' := List.mem_range'_1.mp hx
          refine ⟨_, rfl, ?_, fun _ => ?_⟩
          · exact hc x (by omega) _ rfl rfl
          · exact w_var.mpr ⟨_, rfl, rfl, rfl⟩
      have hgt : ∀ (x : Nat), x < rs.length → ∀ (e : EnvD), e[10]? = some (some (.lst (sides.map .int))) → e[16]? = some (some (.int (x : Int))) → Wp (ev (callI T GG 29) GG (.cmp .gt (.idx (.var 10) (.var 16)) (.int 0)) e S5) fun d S' => d = .bl (decide (0 < sides.getD x 0)) ∧ S' = S5 := fun x hx e e1 e2 => by
        rw [w_cmp, w_idx]
        refine w_var.mpr ⟨_, e1, w_var.mpr ⟨_, e2, (e_atL (e := D.int) (by omega) (by omega) 0).mpr (w_int.mpr (d_gt.mpr ⟨by simp, rfl⟩))⟩⟩
      have heq : ∀ c : Int, ∀ (x : Nat), x < rs.length → ∀ (e : EnvD), e[10]? = some (some (.lst (sides.map .int))) → e[16]? = some (some (.int (x : Int))) → Wp (ev (callI T GG 29) GG (.cmp .eq (.idx (.var 10) (.var 16)) (.int c)) e S5) fun d S' => d = .bl (decide (sides.getD x 0 = c)) ∧ S' = S5 := fun c x hx e e1 e2 => by
        rw [w_cmp, w_idx]
        refine w_var.mpr ⟨_, e1, w_var.mpr ⟨_, e2, (e_atL (e := D.int) (by omega) (by omega) 0).mpr (w_int.mpr (d_eqI.mpr ⟨by simp, rfl⟩))⟩⟩
      refine pick _ (fun a => decide (0 < a)) hgt _ _ _ _ _ _ _ _ _ ?_
      decreasing_tactic
      generalize hg0 : (((List.range' 0 rs.length).filter fun i => decide (0 < sides.getD i 0)).map fun i : Nat => (i : Int)) = g0
      by_cases q0 : g0 = []
      case' pos => simp only [q0, decide_true, Bool.not_true, Bool.false_eq_true, if_false]
      case' neg =>
        have vg : VG rs g0 := mkVG vr (by rw [← hg0] at q0 ⊢; exact picked_ok _ q0)
        have u1 := fun S => lvals_ok (T := T) (k := 28) (S := S) rfl vr vu.len vg
        have u2 := fun S => values_of_ok (k := 23) (S := S) tg rfl vr vu vg
        simp only [q0, decide_false, Bool.not_false, if_true, u1, u2, wp_ok]
        decreasing_tactic
        simp only [decide_true, Bool.not_true, Bool.false_eq_true, if_false]
      all_goals
        refine pick _ (fun a => decide (a = 1)) (heq 1) _ _ _ _ _ _ _ _ _ ?_
        decreasing_tactic
        refine pick _ (fun a => decide (a = 2)) (heq 2) _ _ _ _ _ _ _ _ _ ?_
        decreasing_tactic
        generalize hg : (((List.range' 0 rs.length).filter fun i => decide (sides.getD i 0 = 1)).map fun i : Nat => (i : Int)) = g
        generalize hh : (((List.range' 0 rs.length).filter fun i => decide (sides.getD i 0 = 2)).map fun i : Nat => (i : Int)) = h
        by_cases q1 : g = []
        · simp only [q1, decide_true, Bool.not_true, Bool.false_eq_true, if_false]
          exact ⟨ht5, _, _, _, _, _, _, _, _, _, _, rfl⟩
        by_cases q2 : h = []
        · simp only [q1, q2, decide_true, decide_false, Bool.not_true, Bool.not_false, Bool.false_eq_true, if_true, if_false]
          exact ⟨ht5, _, _, _, _, _, _, _, _, _, _, rfl⟩
        have vg1 : VG rs g := mkVG vr (by rw [← hg] at q1 ⊢; exact picked_ok _ q1)
        have vh1 : VG rs h := mkVG vr (by rw [← hh] at q2 ⊢; exact picked_ok _ q2)
        have hdis : ∀ i ∈ g, i ∉ h := fun i hi hj => by
          rw [← hg] at hi; rw [← hh] at hj
          obtain ⟨a, ha, rfl⟩ := List.mem_map.mp hi
          obtain ⟨b, hb, e⟩ := List.mem_map.mp hj
          have e' : b = a := by omega
          subst e'
          have z1 := (List.mem_filter.mp ha).2
          have z2 := (List.mem_filter.mp hb).2
          simp only [decide_eq_true_eq] at z1 z2
          omega
        have u3 := fun S => lkeys_ok (T := T) (k := 27) (S := S) rfl rfl vr vu vg1 vh1
        have u4 := fun S => matching_ok (k := 23) (S := S) tg rfl vr vu vg1 vh1 hdis
        simp only [q1, q2, decide_true, decide_false, Bool.not_true, Bool.not_false, Bool.false_eq_true, if_true, if_false, u3, u4, wp_ok]
        decreasing_tactic
        simp only [decide_true, Bool.not_true, Bool.false_eq_true, if_false]
        exact ⟨ht5, _, _, _, _, _, _, _, _, _, _, rfl⟩
    · rintro env S4 ⟨ht4, x2, x7, x8, x9, x10, x11, x12, x13, x14, x15, rfl⟩
      decreasing_tactic
      refine s_for ([.non, .tup [], .tup [.int 0, .int 0], .tup [.int rs.length], .tup [.int (-1)], .lst [.int 0], .tup [.bl false], .int 0] : List D) id (fun rest env S => Town S ∧ ∃ x2 x7 x8 x9 x10 x11 x12 x13 x14 x15, env = [some (.scl ns), some (.ref 1), x2, some (.int n), some (encRs rs), some (encU keys takes), some (.int rs.length), x7, x8, x9, x10, x11, x12, x13, x14, x15, none]) ?_ ?_ ?_
      · refine sr_val' ?_
        decreasing_tactic
        exact ⟨_, rfl, by simp, ht4, _, _, _, _, _, _, _, _, _, _, rfl⟩
      · rintro d r2 env S5 ⟨ht5, x2, x7, x8, x9, x10, x11, x12, x13, x14, x15, rfl⟩ ⟨l2, hl2⟩
        refine ⟨_, rfl, ?_⟩
        have hd : d ∈ ([.non, .tup [], .tup [.int 0, .int 0], .tup [.int rs.length], .tup [.int (-1)], .lst [.int 0], .tup [.bl false], .int 0] : List D) := by rw [hl2]; simp
        have hdt : dat d = true := by
          simp only [List.mem_cons, List.not_mem_nil, or_false] at hd
          rcases hd with rfl | rfl | rfl | rfl | rfl | rfl | rfl | rfl <;> rfl
        have e1 := r13 d hd hdt
        have e2 := r16 d hd hdt
        have e3 := r16b d hd hdt
        decreasing_tactic
        simp only [id, e1, e2, e3, wp_ok]
        have F0 : Fill (S5 ++ [O.lst [sGroup]]) (List.length S5) [sGroup] := ⟨ht5.add _, ht5.two, by simp⟩
        refine ⟨mt_list F0, ?_⟩
        obtain ⟨a1, F1⟩ := F0.app sGroup (by decide)
        refine (wp_eq a1).mpr ?_
        generalize List.set (S5 ++ [O.lst [sGroup]]) (List.length S5) (O.lst ([sGroup] ++ [sGroup])) = S6 at F1 ⊢
        have c : doCat (.ref (List.length S5)) (.lst [sGroup]) S6 = .ok (.lst [sGroup, sGroup, sGroup]) S6 := by
          simp only [doCat, F1.here]
          rfl
        refine (wp_eq c).mpr ⟨_, rfl, ?_⟩
        refine (wp_eq (show doCmpS .ne (.lst [sGroup, sGroup, sGroup]) (.lst [sGroup, sGroup, sGroup]) S6 = .ok (.bl false) S6 from rfl)).mpr ⟨false, rfl, ?_⟩
        simp only [Bool.false_eq_true, if_false]
        exact ⟨F1.town, _, _, _, _, _, _, _, _, _, _, rfl⟩
      · rintro env S5 ⟨ht5, x2, x7, x8, x9, x10, x11, x12, x13, x14, x15, rfl⟩
        decreasing_tactic
        simp only [s1, s2, s3, s4, wp_ok]
        have F0 : Fill (S5 ++ [O.lst [sRecords]]) (List.length S5) [sRecords] := ⟨ht5.add _, ht5.two, by simp⟩
        generalize List.length S5 = j at F0 ⊢
        refine ⟨mt_list F0, ?_⟩
        obtain ⟨a1, F1⟩ := F0.app sRules (by decide)
        refine (wp_eq a1).mpr ⟨mt_list F1, ?_⟩
        obtain ⟨a2, F2⟩ := F1.app sGroup (by decide)
        refine (wp_eq a2).mpr ⟨mt_list F2, ?_⟩
        obtain ⟨a3, F3⟩ := F2.app sRecords (by decide)
        refine (wp_eq a3).mpr ?_
        generalize List.set _ j (O.lst ([sRecords] ++ [sRules] ++ [sGroup] ++ [sRecords])) = S6 at F3 ⊢
        have c : doCmpS .ne (.ref j) (.lst [sRecords, sRules, sGroup, sRecords]) S6 = .ok (.bl false) S6 := by
          simp only [doCmpS, derefL, F3.here]
          rfl
        refine (wp_eq c).mpr ⟨false, rfl, ?_⟩
        simp only [Bool.false_eq_true, if_false]
        exact ⟨F3.town, _, _, _, _, _, _, _, _, _, _, _, _, _, _, rfl⟩
  · rintro env S ⟨ht, x2, x3, x4, x5, x6, x7, x8, x9, x10, x11, x12, x13, x14, x15, rfl⟩
    decreasing_tactic
end K02

/-! the head of law_k02_groups, printed by gen.py -/
open PySem PySem.W PyProof.Rows
set_option maxHeartbeats 0 in
theorem PySem.Challenge.cw_onerecords_k02_groups_holds : PySem.Challenge.rw_onerecords_k02_groups.Holds := by
  w_on; o_law; k_head; (case hw => w_witness2)
  k_fill
  refine G11.walk_tabs (l := PySem.Challenge.rw_onerecords_k02_groups) (n := 63) (k := 30) (x := "script") (CXw := fun w => L2.CX (PySem.Challenge.rw_onerecords_k02_groups).prog w) rfl (by decide) rfl ⟨rfl, by decide, by decide⟩ (fun w h Y => by first | exact PySem.W.kIn_of Y | exact PySem.W.km_in_of Y) ?F (fun w H s e s' h => G11.no_cx h)
  case F =>
    intro w mg fa h KX G hmg own
    refine' K02.all_mk KX G hmg own K02.law_true ?yy_g0 ?yy_l0 ?yy_c0 ?yy_k0 ?yy_g1 ?yy_l1 ?yy_c1 ?yy_k1 ?yy_g2 ?yy_l2 ?yy_c2 ?yy_k2 ?yy_g3 ?yy_l3 ?yy_c3 ?yy_k3 ?yy_g4 ?yy_l4 ?yy_c4 ?yy_k4 ?yy_g5 ?yy_l5 ?yy_c5 ?yy_k5 ?yy_g6 ?yy_l6 ?yy_c6 ?yy_k6 ?yy_g7 ?yy_l7 ?yy_c7 ?yy_k7 ?yy_g8 ?yy_l8 ?yy_c8 ?yy_k8 ?yy_g9 ?yy_l9 ?yy_c9 ?yy_k9 ?yy_g10 ?yy_l10 ?yy_c10 ?yy_k10 ?yy_g11 ?yy_l11 ?yy_c11 ?yy_k11 ?yy_g12 ?yy_l12 ?yy_c12 ?yy_k12 ?yy_g13 ?yy_l13 ?yy_c13 ?yy_k13 ?yy_g14 ?yy_l14 ?yy_c14 ?yy_k14 ?yy_g15 ?yy_l15 ?yy_c15 ?yy_k15 ?yy_g16 ?yy_l16 ?yy_c16 ?yy_k16 ?yy_g17 ?yy_l17 ?yy_c17 ?yy_k17 ?yy_g18 ?yy_l18 ?yy_c18 ?yy_k18 ?yy_g104 ?yy_l104 ?yy_c104 ?yy_k104 ?yy_g20 ?yy_l20 ?yy_c20 ?yy_k20 ?yy_g105 ?yy_l105 ?yy_c105 ?yy_k105 ?yy_g106 ?yy_l106 ?yy_c106 ?yy_k106 ?yy_g107 ?yy_l107 ?yy_c107 ?yy_k107 ?yy_hc107 ?yy_ho107 ?yy_hp107 ?yy_rq107 ?yy_m0 ?yy_n0 ?yy_m1 ?yy_x0 ?yy_y0 ?yy_z0 ?yy_u0 ?yy_v0 ?yy_x1 ?yy_y1 ?yy_z1 ?yy_u1 ?yy_v1 ?yy_x2 ?yy_y2 ?yy_z2 ?yy_u2 ?yy_v2 ?yy_x3 ?yy_y3 ?yy_z3 ?yy_u3 ?yy_v3 ?yy_x4 ?yy_y4 ?yy_z4 ?yy_u4 ?yy_v4 ?yy_x5 ?yy_y5 ?yy_z5 ?yy_u5 ?yy_v5 ?yy_x6 ?yy_y6 ?yy_z6 ?yy_u6 ?yy_v6 ?yy_x7 ?yy_y7 ?yy_z7 ?yy_u7 ?yy_v7 ?yy_x8 ?yy_y8 ?yy_z8 ?yy_u8 ?yy_v8 ?yy_x9 ?yy_y9 ?yy_z9 ?yy_u9 ?yy_v9 ?yy_x10 ?yy_y10 ?yy_z10 ?yy_u10 ?yy_v10 ?yy_x11 ?yy_y11 ?yy_z11 ?yy_u11 ?yy_v11 ?yy_x12 ?yy_y12 ?yy_z12 ?yy_u12 ?yy_v12 ?yy_b0 ?yy_b1 ?yy_b2 ?yy_b3 ?yy_b4 ?yy_b5 ?yy_b6 ?yy_b7 ?yy_b8 ?yy_b9 ?yy_b10 ?yy_b11 ?yy_b12 ?yy_b13 ?yy_gR ?yy_lR ?yy_cR ?yy_kR ?yy_bV ?yy_hnR ?yy_htR ?yy_xa1 ?yy_xb1 ?yy_xd1 ?yy_xe1 ?yy_xm1 ?yy_xt1 ?yy_xv1 ?yy_xi1_1 ?yy_xi1_2 ?yy_xi1_3 ?yy_xi1_4 ?yy_xi1_5 ?yy_xi1_6 ?yy_xi1_7 ?yy_xi1_8 ?yy_xi1_9 ?yy_xi1_10 ?yy_xi1_11 ?yy_xi1_12 ?yy_xa2 ?yy_xb2 ?yy_xd2 ?yy_xe2 ?yy_xm2 ?yy_xt2 ?yy_xv2 ?yy_xi2_1 ?yy_xi2_2 ?yy_xi2_3 ?yy_xi2_4 ?yy_xi2_5 ?yy_xi2_6 ?yy_xi2_7 ?yy_xi2_8 ?yy_xi2_9 ?yy_xi2_10 ?yy_xi2_11 ?yy_xi2_12 ?yy_xa3 ?yy_xb3 ?yy_xd3 ?yy_xe3 ?yy_xm3 ?yy_xt3 ?yy_xv3 ?yy_xi3_1 ?yy_xi3_2 ?yy_xi3_3 ?yy_xi3_4 ?yy_xi3_5 ?yy_xi3_6 ?yy_xi3_7 ?yy_xi3_8 ?yy_xi3_9 ?yy_xi3_10 ?yy_xi3_11 ?yy_xi3_12 ?yy_xa4 ?yy_xb4 ?yy_xd4 ?yy_xe4 ?yy_xm4 ?yy_xt4 ?yy_xv4 ?yy_xi4_1 ?yy_xi4_2 ?yy_xi4_3 ?yy_xi4_4 ?yy_xi4_5 ?yy_xi4_6 ?yy_xi4_7 ?yy_xi4_8 ?yy_xi4_9 ?yy_xi4_10 ?yy_xi4_11 ?yy_xi4_12 ?yy_xa5 ?yy_xb5 ?yy_xd5 ?yy_xe5 ?yy_xm5 ?yy_xt5 ?yy_xv5 ?yy_xi5_1 ?yy_xi5_2 ?yy_xi5_3 ?yy_xi5_4 ?yy_xi5_5 ?yy_xi5_6 ?yy_xi5_7 ?yy_xi5_8 ?yy_xi5_9 ?yy_xi5_10 ?yy_xi5_11 ?yy_xi5_12 ?yy_xa6 ?yy_xb6 ?yy_xd6 ?yy_xe6 ?yy_xm6 ?yy_xt6 ?yy_xv6 ?yy_xi6_1 ?yy_xi6_2 ?yy_xi6_3 ?yy_xi6_4 ?yy_xi6_5 ?yy_xi6_6 ?yy_xi6_7 ?yy_xi6_8 ?yy_xi6_9 ?yy_xi6_10 ?yy_xi6_11 ?yy_xi6_12 ?yy_xa7 ?yy_xb7 ?yy_xd7 ?yy_xe7 ?yy_xm7 ?yy_xt7 ?yy_xv7 ?yy_xi7_1 ?yy_xi7_2 ?yy_xi7_3 ?yy_xi7_4 ?yy_xi7_5 ?yy_xi7_6 ?yy_xi7_7 ?yy_xi7_8 ?yy_xi7_9 ?yy_xi7_10 ?yy_xi7_11 ?yy_xi7_12 ?yy_xa8 ?yy_xb8 ?yy_xd8 ?yy_xe8 ?yy_xm8 ?yy_xt8 ?yy_xv8 ?yy_xi8_1 ?yy_xi8_2 ?yy_xi8_3 ?yy_xi8_4 ?yy_xi8_5 ?yy_xi8_6 ?yy_xi8_7 ?yy_xi8_8 ?yy_xi8_9 ?yy_xi8_10 ?yy_xi8_11 ?yy_xi8_12 ?yy_xa9 ?yy_xb9 ?yy_xd9 ?yy_xe9 ?yy_xm9 ?yy_xt9 ?yy_xv9 ?yy_xi9_1 ?yy_xi9_2 ?yy_xi9_3 ?yy_xi9_4 ?yy_xi9_5 ?yy_xi9_6 ?yy_xi9_7 ?yy_xi9_8 ?yy_xi9_9 ?yy_xi9_10 ?yy_xi9_11 ?yy_xi9_12 ?yy_xa10 ?yy_xb10 ?yy_xd10 ?yy_xe10 ?yy_xm10 ?yy_xt10 ?yy_xv10 ?yy_xi10_1 ?yy_xi10_2 ?yy_xi10_3 ?yy_xi10_4 ?yy_xi10_5 ?yy_xi10_6 ?yy_xi10_7 ?yy_xi10_8 ?yy_xi10_9 ?yy_xi10_10 ?yy_xi10_11 ?yy_xi10_12 ?yy_xa11 ?yy_xb11 ?yy_xd11 ?yy_xe11 ?yy_xm11 ?yy_xt11 ?yy_xv11 ?yy_xi11_1 ?yy_xi11_2 ?yy_xi11_3 ?yy_xi11_4 ?yy_xi11_5 ?yy_xi11_6 ?yy_xi11_7 ?yy_xi11_8 ?yy_xi11_9 ?yy_xi11_10 ?yy_xi11_11 ?yy_xi11_12 ?yy_xa12 ?yy_xb12 ?yy_xd12 ?yy_xe12 ?yy_xm12 ?yy_xt12 ?yy_xv12 ?yy_xi12_1 ?yy_xi12_2 ?yy_xi12_3 ?yy_xi12_4 ?yy_xi12_5 ?yy_xi12_6 ?yy_xi12_7 ?yy_xi12_8 ?yy_xi12_9 ?yy_xi12_10 ?yy_xi12_11 ?yy_xi12_12
    (case yy_g0 => k_is); (case yy_l0 => k_is); (case yy_c0 => k_is); (case yy_k0 => k_is); (case yy_g1 => k_is); (case yy_l1 => k_is); (case yy_c1 => k_is); (case yy_k1 => k_is); (case yy_g2 => k_is); (case yy_l2 => k_is); (case yy_c2 => k_is); (case yy_k2 => k_is); (case yy_g3 => k_is); (case yy_l3 => k_is); (case yy_c3 => k_is); (case yy_k3 => k_is); (case yy_g4 => k_is); (case yy_l4 => k_is); (case yy_c4 => k_is); (case yy_k4 => k_is); (case yy_g5 => k_is); (case yy_l5 => k_is); (case yy_c5 => k_is); (case yy_k5 => k_is); (case yy_g6 => k_is); (case yy_l6 => k_is); (case yy_c6 => k_is); (case yy_k6 => k_is); (case yy_g7 => k_is); (case yy_l7 => k_is); (case yy_c7 => k_is); (case yy_k7 => k_is); (case yy_g8 => k_is); (case yy_l8 => k_is); (case yy_c8 => k_is); (case yy_k8 => k_is); (case yy_g9 => k_is); (case yy_l9 => k_is); (case yy_c9 => k_is); (case yy_k9 => k_is); (case yy_g10 => k_is); (case yy_l10 => k_is); (case yy_c10 => k_is); (case yy_k10 => k_is); (case yy_g11 => k_is); (case yy_l11 => k_is); (case yy_c11 => k_is); (case yy_k11 => k_is); (case yy_g12 => k_is); (case yy_l12 => k_is); (case yy_c12 => k_is); (case yy_k12 => k_is); (case yy_g13 => k_is); (case yy_l13 => k_is); (case yy_c13 => k_is); (case yy_k13 => k_is); (case yy_g14 => k_is); (case yy_l14 => k_is); (case yy_c14 => k_is); (case yy_k14 => k_is); (case yy_g15 => k_is); (case yy_l15 => k_is); (case yy_c15 => k_is); (case yy_k15 => k_is); (case yy_g16 => k_is); (case yy_l16 => k_is); (case yy_c16 => k_is); (case yy_k16 => k_is); (case yy_g17 => k_is); (case yy_l17 => k_is); (case yy_c17 => k_is); (case yy_k17 => k_is); (case yy_g18 => k_is); (case yy_l18 => k_is); (case yy_c18 => k_is); (case yy_k18 => k_is); (case yy_g104 => k_is); (case yy_l104 => k_is); (case yy_c104 => k_is); (case yy_k104 => k_is); (case yy_g20 => k_is); (case yy_l20 => k_is); (case yy_c20 => k_is); (case yy_k20 => k_is); (case yy_g105 => k_is); (case yy_l105 => k_is); (case yy_c105 => k_is); (case yy_k105 => k_is); (case yy_g106 => k_is); (case yy_l106 => k_is); (case yy_c106 => k_is); (case yy_k106 => k_is); (case yy_g107 => k_is); (case yy_l107 => k_is); (case yy_c107 => k_is); (case yy_k107 => k_is); (case yy_hc107 => k_is); (case yy_ho107 => exact ⟨rfl, rfl, ⟨_, _, rfl⟩, ⟨_, _, rfl⟩, ⟨_, rfl⟩, ⟨_, _, rfl⟩, by decide⟩); (case yy_hp107 => rfl); (case yy_rq107 => rfl); (case yy_m0 => k_is); (case yy_n0 => k_is); (case yy_m1 => k_is); (case yy_x0 => k_is); (case yy_y0 => k_exc); (case yy_z0 => k_is); (case yy_u0 => k_is); (case yy_v0 => k_is); (case yy_x1 => k_is); (case yy_y1 => k_exc); (case yy_z1 => k_is); (case yy_u1 => k_is); (case yy_v1 => k_is); (case yy_x2 => k_is); (case yy_y2 => k_exc); (case yy_z2 => k_is); (case yy_u2 => k_is); (case yy_v2 => k_is); (case yy_x3 => k_is); (case yy_y3 => k_exc); (case yy_z3 => k_is); (case yy_u3 => k_is); (case yy_v3 => k_is); (case yy_x4 => k_is); (case yy_y4 => k_exc); (case yy_z4 => k_is); (case yy_u4 => k_is); (case yy_v4 => k_is); (case yy_x5 => k_is); (case yy_y5 => k_exc); (case yy_z5 => k_is); (case yy_u5 => k_is); (case yy_v5 => k_is); (case yy_x6 => k_is); (case yy_y6 => k_exc); (case yy_z6 => k_is); (case yy_u6 => k_is); (case yy_v6 => k_is); (case yy_x7 => k_is); (case yy_y7 => k_exc); (case yy_z7 => k_is); (case yy_u7 => k_is); (case yy_v7 => k_is); (case yy_x8 => k_is); (case yy_y8 => k_exc); (case yy_z8 => k_is); (case yy_u8 => k_is); (case yy_v8 => k_is); (case yy_x9 => k_is); (case yy_y9 => k_exc); (case yy_z9 => k_is); (case yy_u9 => k_is); (case yy_v9 => k_is); (case yy_x10 => k_is); (case yy_y10 => k_exc); (case yy_z10 => k_is); (case yy_u10 => k_is); (case yy_v10 => k_is); (case yy_x11 => k_is); (case yy_y11 => k_exc); (case yy_z11 => k_is); (case yy_u11 => k_is); (case yy_v11 => k_is); (case yy_x12 => k_is); (case yy_y12 => k_exc); (case yy_z12 => k_is); (case yy_u12 => k_is); (case yy_v12 => k_is); (case yy_b0 => k_is); (case yy_b1 => k_is); (case yy_b2 => k_is); (case yy_b3 => k_is); (case yy_b4 => k_is); (case yy_b5 => k_is); (case yy_b6 => k_is); (case yy_b7 => k_is); (case yy_b8 => k_is); (case yy_b9 => k_is); (case yy_b10 => k_is); (case yy_b11 => k_is); (case yy_b12 => k_is); (case yy_b13 => k_is); (case yy_gR => k_is); (case yy_lR => k_is); (case yy_cR => k_is); (case yy_kR => k_is); (case yy_bV => k_is); (case yy_hnR => k_is); (case yy_htR => k_is); (case yy_xa1 => k_is); (case yy_xb1 => k_is); (case yy_xd1 => k_is); (case yy_xe1 => k_is); (case yy_xm1 => k_is); (case yy_xt1 => kts_exm); (case yy_xv1 => kit_is); (case yy_xi1_1 => kit_is); (case yy_xi1_2 => kit_is); (case yy_xi1_3 => kit_is); (case yy_xi1_4 => kit_is); (case yy_xi1_5 => kit_is); (case yy_xi1_6 => kit_is); (case yy_xi1_7 => kit_is); (case yy_xi1_8 => kit_is); (case yy_xi1_9 => kit_is); (case yy_xi1_10 => kit_is); (case yy_xi1_11 => kit_is); (case yy_xi1_12 => kit_is); (case yy_xa2 => k_is); (case yy_xb2 => k_is); (case yy_xd2 => k_is); (case yy_xe2 => k_is); (case yy_xm2 => k_is); (case yy_xt2 => kts_exm); (case yy_xv2 => kit_is); (case yy_xi2_1 => kit_is); (case yy_xi2_2 => kit_is); (case yy_xi2_3 => kit_is); (case yy_xi2_4 => kit_is); (case yy_xi2_5 => kit_is); (case yy_xi2_6 => kit_is); (case yy_xi2_7 => kit_is); (case yy_xi2_8 => kit_is); (case yy_xi2_9 => kit_is); (case yy_xi2_10 => kit_is); (case yy_xi2_11 => kit_is); (case yy_xi2_12 => kit_is); (case yy_xa3 => k_is); (case yy_xb3 => k_is); (case yy_xd3 => k_is); (case yy_xe3 => k_is); (case yy_xm3 => k_is); (case yy_xt3 => kts_exm); (case yy_xv3 => kit_is); (case yy_xi3_1 => kit_is); (case yy_xi3_2 => kit_is); (case yy_xi3_3 => kit_is); (case yy_xi3_4 => kit_is); (case yy_xi3_5 => kit_is); (case yy_xi3_6 => kit_is); (case yy_xi3_7 => kit_is); (case yy_xi3_8 => kit_is); (case yy_xi3_9 => kit_is); (case yy_xi3_10 => kit_is); (case yy_xi3_11 => kit_is); (case yy_xi3_12 => kit_is); (case yy_xa4 => k_is); (case yy_xb4 => k_is); (case yy_xd4 => k_is); (case yy_xe4 => k_is); (case yy_xm4 => k_is); (case yy_xt4 => kts_exm); (case yy_xv4 => kit_is); (case yy_xi4_1 => kit_is); (case yy_xi4_2 => kit_is); (case yy_xi4_3 => kit_is); (case yy_xi4_4 => kit_is); (case yy_xi4_5 => kit_is); (case yy_xi4_6 => kit_is); (case yy_xi4_7 => kit_is); (case yy_xi4_8 => kit_is); (case yy_xi4_9 => kit_is); (case yy_xi4_10 => kit_is); (case yy_xi4_11 => kit_is); (case yy_xi4_12 => kit_is); (case yy_xa5 => k_is); (case yy_xb5 => k_is); (case yy_xd5 => k_is); (case yy_xe5 => k_is); (case yy_xm5 => k_is); (case yy_xt5 => kts_exm); (case yy_xv5 => kit_is); (case yy_xi5_1 => kit_is); (case yy_xi5_2 => kit_is); (case yy_xi5_3 => kit_is); (case yy_xi5_4 => kit_is); (case yy_xi5_5 => kit_is); (case yy_xi5_6 => kit_is); (case yy_xi5_7 => kit_is); (case yy_xi5_8 => kit_is); (case yy_xi5_9 => kit_is); (case yy_xi5_10 => kit_is); (case yy_xi5_11 => kit_is); (case yy_xi5_12 => kit_is); (case yy_xa6 => k_is); (case yy_xb6 => k_is); (case yy_xd6 => k_is); (case yy_xe6 => k_is); (case yy_xm6 => k_is); (case yy_xt6 => kts_exm); (case yy_xv6 => kit_is); (case yy_xi6_1 => kit_is); (case yy_xi6_2 => kit_is); (case yy_xi6_3 => kit_is); (case yy_xi6_4 => kit_is); (case yy_xi6_5 => kit_is); (case yy_xi6_6 => kit_is); (case yy_xi6_7 => kit_is); (case yy_xi6_8 => kit_is); (case yy_xi6_9 => kit_is); (case yy_xi6_10 => kit_is); (case yy_xi6_11 => kit_is); (case yy_xi6_12 => kit_is); (case yy_xa7 => k_is); (case yy_xb7 => k_is); (case yy_xd7 => k_is); (case yy_xe7 => k_is); (case yy_xm7 => k_is); (case yy_xt7 => kts_exm); (case yy_xv7 => kit_is); (case yy_xi7_1 => kit_is); (case yy_xi7_2 => kit_is); (case yy_xi7_3 => kit_is); (case yy_xi7_4 => kit_is); (case yy_xi7_5 => kit_is); (case yy_xi7_6 => kit_is); (case yy_xi7_7 => kit_is); (case yy_xi7_8 => kit_is); (case yy_xi7_9 => kit_is); (case yy_xi7_10 => kit_is); (case yy_xi7_11 => kit_is); (case yy_xi7_12 => kit_is); (case yy_xa8 => k_is); (case yy_xb8 => k_is); (case yy_xd8 => k_is); (case yy_xe8 => k_is); (case yy_xm8 => k_is); (case yy_xt8 => kts_exm); (case yy_xv8 => kit_is); (case yy_xi8_1 => kit_is); (case yy_xi8_2 => kit_is); (case yy_xi8_3 => kit_is); (case yy_xi8_4 => kit_is); (case yy_xi8_5 => kit_is); (case yy_xi8_6 => kit_is); (case yy_xi8_7 => kit_is); (case yy_xi8_8 => kit_is); (case yy_xi8_9 => kit_is); (case yy_xi8_10 => kit_is); (case yy_xi8_11 => kit_is); (case yy_xi8_12 => kit_is); (case yy_xa9 => k_is); (case yy_xb9 => k_is); (case yy_xd9 => k_is); (case yy_xe9 => k_is); (case yy_xm9 => k_is); (case yy_xt9 => kts_exm); (case yy_xv9 => kit_is); (case yy_xi9_1 => kit_is); (case yy_xi9_2 => kit_is); (case yy_xi9_3 => kit_is); (case yy_xi9_4 => kit_is); (case yy_xi9_5 => kit_is); (case yy_xi9_6 => kit_is); (case yy_xi9_7 => kit_is); (case yy_xi9_8 => kit_is); (case yy_xi9_9 => kit_is); (case yy_xi9_10 => kit_is); (case yy_xi9_11 => kit_is); (case yy_xi9_12 => kit_is); (case yy_xa10 => k_is); (case yy_xb10 => k_is); (case yy_xd10 => k_is); (case yy_xe10 => k_is); (case yy_xm10 => k_is); (case yy_xt10 => kts_exm); (case yy_xv10 => kit_is); (case yy_xi10_1 => kit_is); (case yy_xi10_2 => kit_is); (case yy_xi10_3 => kit_is); (case yy_xi10_4 => kit_is); (case yy_xi10_5 => kit_is); (case yy_xi10_6 => kit_is); (case yy_xi10_7 => kit_is); (case yy_xi10_8 => kit_is); (case yy_xi10_9 => kit_is); (case yy_xi10_10 => kit_is); (case yy_xi10_11 => kit_is); (case yy_xi10_12 => kit_is); (case yy_xa11 => k_is); (case yy_xb11 => k_is); (case yy_xd11 => k_is); (case yy_xe11 => k_is); (case yy_xm11 => k_is); (case yy_xt11 => kts_exm); (case yy_xv11 => kit_is); (case yy_xi11_1 => kit_is); (case yy_xi11_2 => kit_is); (case yy_xi11_3 => kit_is); (case yy_xi11_4 => kit_is); (case yy_xi11_5 => kit_is); (case yy_xi11_6 => kit_is); (case yy_xi11_7 => kit_is); (case yy_xi11_8 => kit_is); (case yy_xi11_9 => kit_is); (case yy_xi11_10 => kit_is); (case yy_xi11_11 => kit_is); (case yy_xi11_12 => kit_is); (case yy_xa12 => k_is); (case yy_xb12 => k_is); (case yy_xd12 => k_is); (case yy_xe12 => k_is); (case yy_xm12 => k_is); (case yy_xt12 => kts_exm); (case yy_xv12 => kit_is); (case yy_xi12_1 => kit_is); (case yy_xi12_2 => kit_is); (case yy_xi12_3 => kit_is); (case yy_xi12_4 => kit_is); (case yy_xi12_5 => kit_is); (case yy_xi12_6 => kit_is); (case yy_xi12_7 => kit_is); (case yy_xi12_8 => kit_is); (case yy_xi12_9 => kit_is); (case yy_xi12_10 => kit_is); (case yy_xi12_11 => kit_is); (case yy_xi12_12 => kit_is)
