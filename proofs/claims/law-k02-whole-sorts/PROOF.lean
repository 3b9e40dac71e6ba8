import PyProof.Rows.All
import Wide.All
import OpenK.AllK
import Wide.FinOn
import HandS.ForMost
import HandS.ForExc
import HandS.TupAny
import HandS.Zip
import HandS.Walk
import KE.DataEq
import HandS.Text
import HandS.IsInst
import HandS.WordsDict
import HandS.Steps
import HandS.SetKeys
import HandS.Small
import HandS.TupMul
import HandS.ExcOwn
import HandS.TryOnly
import PyProof.Rows.SortStr
import HandS.List
import KE.KUnpackStar
import HandS.Head0
import HandS.Head1
import HandS.Head2
import HandS.HeadEnd
import HandS.HeadHook1
import HandS.HeadHook2
import PyProof.ExcBaseAll.ValueError
import HandS.SetFor
import HandS.Strs
import PySem.Challenge.RW_sortjudge_k02_whole_sorts
/-! MP: a small language (the part of Python that the program and its laws use), its values, and its run.  -/
set_option linter.all false
namespace MP

inductive Val where
  | und | none | bool (b : Bool) | int (i : Int) | str (s : List Nat) | byt (s : List Nat)
  | tup (xs : List Val) | ref (a : Nat) | exn (c : Nat) (fs : List Val) | fn (f : Nat) | cls (c : Nat)
  deriving Inhabited
inductive Cmp where | eq | ne | lt | le | gt | ge | isin | notin | is | isnot
inductive Bin where | add | sub | mul | fdiv | mod | pow | shr | band
inductive Ty where | int | str | bool | tup | lst | byt | dct | valErr | exc | cls (c : Nat)
inductive CK where | inst | exc (ve : Bool) (f : Option Nat)
structure Cls where
  kind : CK
  anc : List Nat
  init : Option Nat
  meths : List (Nat × Nat)
  flds : List Nat
inductive Tree (α : Type) where
  | nil | node (v : α) (l r : Tree α)
def Tree.get {α : Type} : Tree α → Nat → Option α
  | .nil, _ => .none
  | .node v l r, i => match Nat.beq i 0 with
    | true => some v
    | false => match Nat.beq (i % 2) 1 with
      | true => l.get (i / 2)
      | false => r.get (i / 2 - 1)
/-- set, or the next place made -/
def Tree.set {α : Type} (x : α) : Tree α → Nat → Tree α
  | .nil, _ => .node x .nil .nil
  | .node v l r, i => match Nat.beq i 0 with
    | true => .node x l r
    | false => match Nat.beq (i % 2) 1 with
      | true => .node v (l.set x (i / 2)) r
      | false => .node v l (r.set x (i / 2 - 1))
inductive Obj where
  | lst (xs : List Val) | rol (xs : List Val) | dct (kvs : List (Val × Val)) | rod (kvs : List (Val × Val)) | set (xs : List Val)
  | ins (c : Nat) (fs : List (Nat × Val)) | lam (k : Nat) (σ : List Val)
structure M where
  n : Nat
  t : Tree Obj
inductive R (α : Type) where
  | ok (a : α) (m : M) | ex (v : Val) (m : M) | bad (n : Nat)
def R.bind {α β : Type} (r : R α) (f : α → M → R β) : R β := match r with
  | .ok a m => f a m
  | .ex v m => .ex v m
  | .bad n => .bad n
def mkObj (m : M) (o : Obj) : R Val := .ok (.ref m.n) ⟨m.n + 1, m.t.set o m.n⟩
def putObj (m : M) (a : Nat) (o : Obj) : M := ⟨m.n, m.t.set o a⟩
def SIZE : Nat := 16777216

/-! ### equality -/
inductive Tri where | yes | no | odd
def Tri.ofB : Bool → Tri
  | true => .yes
  | false => .no
def Tri.neg : Tri → Tri
  | .yes => .no
  | .no => .yes
  | .odd => .odd
def strEq : List Nat → List Nat → Bool
  | [], t => match t with
    | [] => true
    | _ :: _ => false
  | a :: s, t => match t with
    | [] => false
    | b :: t => match Nat.beq a b with
      | true => strEq s t
      | false => false
/-- data of another kind -/
def eqOther (m : M) (b : Val) : Tri := match b with
  | .ref y => match m.t.get y with
    | some o => match o with
      | .lst _ => .no
      | .rol _ => .no
      | _ => .odd
    | .none => .odd
  | .none => .no
  | .bool _ => .no
  | .int _ => .no
  | .str _ => .no
  | .tup _ => .no
  | _ => .odd
def eqStr (m : M) (s : List Nat) (b : Val) : Tri := match b with
  | .str t => .ofB (strEq s t)
  | b => eqOther m b
def b2i (b : Bool) : Int := match b with
  | true => 1
  | false => 0
def eqInt (m : M) (i : Int) (b : Val) : Tri := match b with
  | .int j => .ofB (decide (i = j))
  | .bool y => .ofB (decide (i = b2i y))
  | b => eqOther m b
def eqBool (m : M) (x : Bool) (b : Val) : Tri := match b with
  | .bool y => .ofB (x == y)
  | .int j => .ofB (decide (b2i x = j))
  | b => eqOther m b
def eqNone (m : M) (b : Val) : Tri := match b with
  | .none => .yes
  | b => eqOther m b
def eqL (rec : Val → Val → Tri) : List Val → List Val → Tri
  | [], ys => match ys with
    | [] => .yes
    | _ :: _ => .no
  | x :: xs, ys => match ys with
    | [] => .no
    | y :: ys => match rec x y with
      | .yes => eqL rec xs ys
      | r => r
def eqTup (rec : Val → Val → Tri) (m : M) (xs : List Val) (b : Val) : Tri := match b with
  | .tup ys => eqL rec xs ys
  | b => eqOther m b
def lstAt (m : M) (a : Nat) : Option (List Val) := match m.t.get a with
  | some o => match o with
    | .lst xs => some xs
    | .rol xs => some xs
    | _ => .none
  | .none => .none
def dctAt (m : M) (a : Nat) : Option (List (Val × Val)) := match m.t.get a with
  | some o => match o with
    | .dct xs => some xs
    | .rod xs => some xs
    | _ => .none
  | .none => .none
/-- what a dict has at a key, by a given equality -/
def lookF (eq : Val → Val → Tri) (k : Val) : List (Val × Val) → Option (Option Val)
  | [] => some .none
  | q :: r => match eq q.1 k with
    | .yes => some (some q.2)
    | .no => lookF eq k r
    | .odd => .none
/-- eqv of dicts: as many pairs, each there with an equal value -/
def eqDs (eq : Val → Val → Tri) (ys : List (Val × Val)) : List (Val × Val) → Tri
  | [] => .yes
  | q :: r => match lookF eq q.1 ys with
    | some o => match o with
      | some w => match eq q.2 w with
        | .yes => eqDs eq ys r
        | t => t
      | .none => .no
    | .none => .odd
def eqDct (eq : Val → Val → Tri) (m : M) (xs : List (Val × Val)) (b : Val) : Tri := match b with
  | .ref y => match dctAt m y with
    | some ys => match Nat.beq xs.length ys.length with
      | true => eqDs eq ys xs
      | false => .no
    | .none => .odd
  | _ => .odd
def eqRef (rec : Val → Val → Tri) (m : M) (x : Nat) (b : Val) : Tri := match lstAt m x with
  | some xs => match b with
    | .ref y => match lstAt m y with
      | some ys => eqL rec xs ys
      | .none => .odd
    | b => eqOther m b
  | .none => match dctAt m x with
    | some xs => eqDct rec m xs b
    | .none => .odd
def eqByt (s : List Nat) (b : Val) : Tri := match b with
  | .byt t => .ofB (strEq s t)
  | _ => .odd
def eqF (rec : Val → Val → Tri) (m : M) (a b : Val) : Tri := match a with
  | .str s => eqStr m s b
  | .byt s => eqByt s b
  | .int i => eqInt m i b
  | .none => eqNone m b
  | .bool x => eqBool m x b
  | .tup xs => eqTup rec m xs b
  | .ref x => eqRef rec m x b
  | _ => .odd
def eqN (m : M) : Nat → Val → Val → Tri
  | 0 => fun _ _ => .odd
  | n + 1 => eqF (eqN m n) m
def EQN : Nat := 120
/-- data: no dict, no object within -/
def datL (rec : Val → Bool) : List Val → Bool
  | [] => true
  | x :: r => match rec x with
    | true => datL rec r
    | false => false
def datF (rec : Val → Bool) (m : M) (v : Val) : Bool := match v with
  | .none => true
  | .bool _ => true
  | .int _ => true
  | .str _ => true
  | .tup xs => datL rec xs
  | .ref a => match lstAt m a with
    | some xs => datL rec xs
    | .none => false
  | _ => false
def datN (m : M) : Nat → Val → Bool
  | 0 => fun _ => false
  | n + 1 => datF (datN m n) m
def eqB (m : M) (n : Nat) (a b : Val) : Tri := match datN m n a with
  | true => match datN m n b with
    | true => eqN m n a b
    | false => .odd
  | false => .odd
def eqv (m : M) (a b : Val) : Tri := match a with
  | .byt _ => eqN m EQN a b
  | _ => eqB m EQN a b

/-! ### dicts -/
/-- keys: whole numbers, texts -/
def isKey : Val → Bool
  | .int _ => true
  | .str _ => true
  | _ => false
def keyEq (a k : Val) : Bool := match a with
  | .int i => match k with
    | .int j => decide (i = j)
    | _ => false
  | .str s => match k with
    | .str t => strEq s t
    | _ => false
  | _ => false
def lookK (k : Val) : List (Val × Val) → Option Val
  | [] => .none
  | q :: r => match keyEq q.1 k with
    | true => some q.2
    | false => lookK k r
def look (m : M) (k : Val) (kvs : List (Val × Val)) : Option (Option Val) := match isKey k with
  | true => some (lookK k kvs)
  | false => .none
def mapK (k v : Val) : List (Val × Val) → List (Val × Val)
  | [] => []
  | q :: r => match keyEq q.1 k with
    | true => (q.1, v) :: mapK k v r
    | false => q :: mapK k v r
def putK (k v : Val) (kvs : List (Val × Val)) : List (Val × Val) := match lookK k kvs with
  | some _ => mapK k v kvs
  | .none => kvs ++ [(k, v)]
def dput (m : M) (k v : Val) (kvs : List (Val × Val)) : Option (List (Val × Val)) := match isKey k with
  | true => match Nat.blt kvs.length SIZE with
    | true => some (putK k v kvs)
    | false => .none
  | false => .none
/-! ### order -/
def strLt : List Nat → List Nat → Bool
  | [], t => match t with
    | [] => false
    | _ :: _ => true
  | a :: s, t => match t with
    | [] => false
    | b :: t => match Nat.beq a b with
      | true => strLt s t
      | false => Nat.blt a b
def ltL (rec : Val → Val → Tri) (m : M) : List Val → List Val → Tri
  | [], ys => match ys with
    | [] => .no
    | _ :: _ => .yes
  | x :: xs, ys => match ys with
    | [] => .no
    | y :: ys => match eqv m x y with
      | .yes => ltL rec m xs ys
      | .no => rec x y
      | .odd => .odd
def ltF (rec : Val → Val → Tri) (m : M) (a b : Val) : Tri := match a with
  | .int i => match b with
    | .int j => .ofB (decide (i < j))
    | _ => .odd
  | .str s => match b with
    | .str t => .ofB (strLt s t)
    | _ => .odd
  | .tup xs => match b with
    | .tup ys => ltL rec m xs ys
    | _ => .odd
  | _ => .odd
def ltN (m : M) : Nat → Val → Val → Tri
  | 0 => fun _ _ => .odd
  | n + 1 => ltF (ltN m n) m
def ltv (m : M) (a b : Val) : Tri := ltN m EQN a b
def insV (m : M) (key : Val → Val) (x : Val) : List Val → Option (List Val)
  | [] => some [x]
  | y :: r => match ltv m (key x) (key y) with
    | .yes => some (x :: y :: r)
    | .no => match insV m key x r with
      | some r' => some (y :: r')
      | .none => .none
    | .odd => .none
/-- stable: one after another, each behind what isn't greater -/
def sortV (m : M) (key : Val → Val) : List Val → List Val → Option (List Val)
  | [], acc => some acc
  | x :: r, acc => match insV m key x acc with
    | some acc' => sortV m key r acc'
    | .none => .none

/-- texts, sorted -/
def insS (x : List Nat) : List (List Nat) → List (List Nat)
  | [] => [x]
  | y :: r => match strLt x y with
    | true => x :: y :: r
    | false => y :: insS x r
def sortS : List (List Nat) → List (List Nat)
  | [] => []
  | x :: r => insS x (sortS r)
/-! ### texts, numbers -/
def digits : Nat → Nat → List Nat → List Nat
  | 0, _, acc => acc
  | f + 1, n, acc => match Nat.blt n 10 with
    | true => (48 + n) :: acc
    | false => digits f (n / 10) ((48 + n % 10) :: acc)
def natStr (n : Nat) : List Nat := digits 700 n []
def intStr : Int → List Nat
  | .ofNat n => natStr n
  | .negSucc n => 45 :: natStr (n + 1)
def natOf : List Nat → Nat → Option Nat
  | [], acc => some acc
  | c :: r, acc => match Nat.ble 48 c with
    | false => .none
    | true => match Nat.ble c 57 with
      | false => .none
      | true => natOf r (acc * 10 + (c - 48))
def intOf (s : List Nat) : Option Int := match s with
  | [] => .none
  | c :: r => match Nat.beq c 45 with
    | true => match r with
      | [] => .none
      | _ => (natOf r 0).map fun n => -(Int.ofNat n)
    | false => (natOf s 0).map Int.ofNat
def pre : List Nat → List Nat → Bool
  | [], _ => true
  | a :: s, t => match t with
    | [] => false
    | b :: t => match Nat.beq a b with
      | true => pre s t
      | false => false
def isIn (x : List Nat) : List Nat → Bool
  | [] => pre x []
  | b :: t => match pre x (b :: t) with
    | true => true
    | false => isIn x t
def splitOn1 (c : Nat) : List Nat → List Nat → List (List Nat)
  | [], acc => [acc.reverse]
  | b :: t, acc => match Nat.beq b c with
    | true => acc.reverse :: splitOn1 c t []
    | false => splitOn1 c t (b :: acc)
def replaceF (x y : List Nat) : Nat → List Nat → List Nat
  | 0, s => s
  | f + 1, s => match s with
    | [] => []
    | b :: t => match pre x s with
      | true => y ++ replaceF x y f (s.drop x.length)
      | false => b :: replaceF x y f t
def joinS (sep : List Nat) : List (List Nat) → List Nat
  | [] => []
  | x :: r => match r with
    | [] => x
    | _ :: _ => x ++ (sep ++ joinS sep r)
def txts : List Val → Option (List (List Nat))
  | [] => some []
  | x :: r => match x with
    | .str s => match txts r with
      | some l => some (s :: l)
      | .none => .none
    | _ => .none
def nats : List Val → Option (List Nat)
  | [] => some []
  | x :: r => match x with
    | .int i => match i with
      | .ofNat n => match Nat.blt n 256 with
        | true => match nats r with
          | some l => some (n :: l)
          | .none => .none
        | false => .none
      | .negSucc _ => .none
    | _ => .none
def nums : List Val → Option (List Int)
  | [] => some []
  | x :: r => match x with
    | .int i => match nums r with
      | some l => some (i :: l)
      | .none => .none
    | _ => .none
def bools : List Val → Option (List Bool)
  | [] => some []
  | x :: r => match x with
    | .bool b => match bools r with
      | some l => some (b :: l)
      | .none => .none
    | _ => .none
def allB : List Bool → Bool
  | [] => true
  | b :: r => match b with
    | true => allB r
    | false => false
def anyB : List Bool → Bool
  | [] => false
  | b :: r => match b with
    | true => true
    | false => anyB r
def hexC (n : Nat) : Nat := match Nat.blt n 10 with
  | true => 48 + n
  | false => 87 + n
def hexS : List Nat → List Nat
  | [] => []
  | b :: r => hexC (b / 16) :: hexC (b % 16) :: hexS r
def unhexC (c : Nat) : Option Nat := match Nat.blt c 58 with
  | true => match Nat.blt c 48 with
    | true => .none
    | false => some (c - 48)
  | false => match Nat.blt c 97 with
    | true => .none
    | false => match Nat.blt c 103 with
      | true => some (c - 87)
      | false => .none
def unhexS : List Nat → Option (List Nat)
  | [] => some []
  | [_] => .none
  | a :: b :: r => match unhexC a with
    | some x => match unhexC b with
      | some y => match unhexS r with
        | some z => some ((16 * x + y) :: z)
        | .none => .none
      | .none => .none
    | .none => .none
def fldGet (f : Nat) : List (Nat × Val) → Option Val
  | [] => .none
  | q :: r => match Nat.beq q.1 f with
    | true => some q.2
    | false => fldGet f r
def fldPut (f : Nat) (v : Val) : List (Nat × Val) → List (Nat × Val)
  | [] => [(f, v)]
  | q :: r => match Nat.beq q.1 f with
    | true => (q.1, v) :: r
    | false => q :: fldPut f v r
def asc (m : Nat) : List (Nat × Nat) → Option Nat
  | [] => .none
  | q :: r => match Nat.beq q.1 m with
    | true => some q.2
    | false => asc m r
def hasN (c : Nat) : List Nat → Bool
  | [] => false
  | a :: r => match Nat.beq a c with
    | true => true
    | false => hasN c r
def nth {α : Type} : List α → Nat → Option α
  | [], _ => .none
  | x :: r, i => match i with
    | 0 => some x
    | i + 1 => nth r i
def setN (v : Val) : List Val → Nat → List Val
  | [], _ => []
  | x :: r, i => match i with
    | 0 => v :: r
    | i + 1 => x :: setN v r i
/-- a place by an index, from behind where it is negative -/
def ixOf (i : Int) (n : Nat) : Option Nat := match i with
  | .ofNat k => match Nat.blt k n with
    | true => some k
    | false => .none
  | .negSucc k => match Nat.blt k n with
    | true => some (n - (k + 1))
    | false => .none
/-- a slice's end, cut to the length -/
def cutOf (i : Int) (n : Nat) : Nat := match i with
  | .ofNat k => match Nat.blt k n with
    | true => k
    | false => n
  | .negSucc k => n - (k + 1)
def slice {α : Type} (xs : List α) (lo hi : Nat) : List α := (xs.take hi).drop lo
def rep {α : Type} (xs : List α) : Nat → List α
  | 0 => []
  | n + 1 => xs ++ rep xs n

/-! ### operators -/
def fits {α : Type} (xs : List α) (k : R Val) : R Val := match Nat.ble xs.length SIZE with
  | true => k
  | false => .bad 1
def addInt (i : Int) (b : Val) (m : M) : R Val := match b with
  | .int j => .ok (.int (i + j)) m
  | _ => .bad 2
def addStr (s : List Nat) (b : Val) (m : M) : R Val := match b with
  | .str t => fits (s ++ t) (.ok (.str (s ++ t)) m)
  | _ => .bad 3
def addTup (s : List Val) (b : Val) (m : M) : R Val := match b with
  | .tup t => fits (s ++ t) (.ok (.tup (s ++ t)) m)
  | _ => .bad 4
def lstO (m : M) (a : Nat) : Option (List Val) := match m.t.get a with
  | some o => match o with
    | .lst xs => some xs
    | _ => .none
  | .none => .none
def addLst (x : Nat) (b : Val) (m : M) : R Val := match lstO m x with
  | some xs => match b with
    | .ref y => match lstO m y with
      | some ys => fits (xs ++ ys) (mkObj m (.lst (xs ++ ys)))
      | .none => .bad 5
    | _ => .bad 5
  | .none => .bad 5
def addV (a b : Val) (m : M) : R Val := match a with
  | .int i => addInt i b m
  | .str s => addStr s b m
  | .tup s => addTup s b m
  | .ref x => addLst x b m
  | _ => .bad 6
def int2 (a b : Val) (k : Int → Int → R Val) : R Val := match a with
  | .int i => match b with
    | .int j => k i j
    | _ => .bad 7
  | _ => .bad 7
def idxOk (i : Int) : Bool := decide (-4611686018427387904 ≤ i) && decide (i < 4611686018427387904)
def small (i : Int) : Bool := decide (-18446744073709551616 < i) && decide (i < 18446744073709551616)
def mulInt (i : Int) (b : Val) (m : M) : R Val := match b with
  | .int j => match small i || small j with
    | true => .ok (.int (i * j)) m
    | false => .bad 8
  | _ => .bad 8
def repT (s : List Val) (n : Nat) (m : M) : R Val := match Nat.ble n 1000 && Nat.ble s.length 1000 with
  | true => .ok (.tup (rep s n)) m
  | false => .bad 9
def repL (s : List Val) (n : Nat) (m : M) : R Val := match Nat.ble n 1000 && Nat.ble s.length 1000 with
  | true => mkObj m (.lst (rep s n))
  | false => .bad 9
def mulV (a b : Val) (m : M) : R Val := match a with
  | .int i => mulInt i b m
  | .tup s => match b with
    | .int j => match j with
      | .ofNat n => repT s n m
      | .negSucc _ => .bad 9
    | _ => .bad 9
  | .ref x => match lstO m x with
    | some xs => match b with
      | .int j => match j with
        | .ofNat n => repL xs n m
        | .negSucc _ => .bad 9
      | _ => .bad 9
    | .none => .bad 9
  | _ => .bad 9
def fdivI (i j : Int) (m : M) : R Val := match decide (0 < j) && decide (j < 1073741824) with
  | true => .ok (.int (i / j)) m
  | false => .bad 10
def modI (i j : Int) (m : M) : R Val := match decide (0 < j) with
  | true => .ok (.int (i % j)) m
  | false => .bad 11
def powI (i j : Int) (m : M) : R Val := match decide (0 ≤ j) && decide (j ≤ 1000000) && decide (i.natAbs < 18446744073709551616) with
  | true => .ok (.int (i ^ j.toNat)) m
  | false => .bad 12
def shrI (i j : Int) (m : M) : R Val := match decide (0 ≤ j) with
  | true => .ok (.int (i / 2 ^ j.toNat)) m
  | false => .bad 13
def bandI (i j : Int) (m : M) : R Val := match i with
  | .ofNat x => match j with
    | .ofNat y => .ok (.int (.ofNat (Nat.land x y))) m
    | .negSucc _ => .bad 14
  | .negSucc _ => .bad 14
def binop (op : Bin) (a b : Val) (m : M) : R Val := match op with
  | .add => addV a b m
  | .sub => int2 a b fun i j => .ok (.int (i - j)) m
  | .mul => mulV a b m
  | .fdiv => int2 a b fun i j => fdivI i j m
  | .mod => int2 a b fun i j => modI i j m
  | .pow => int2 a b fun i j => powI i j m
  | .shr => int2 a b fun i j => shrI i j m
  | .band => int2 a b fun i j => bandI i j m
def augOp (op : Bin) (a b : Val) (m : M) : R Val := match op with
  | .add => match a with
    | .int i => addInt i b m
    | .str s => addStr s b m
    | _ => .bad 114
  | .sub => int2 a b fun i j => .ok (.int (i - j)) m
  | _ => .bad 114
def memG (m : M) (n : Nat) (x : Val) : List Val → Tri
  | [] => .no
  | y :: r => match eqN m n y x with
    | .yes => .yes
    | .no => memG m n x r
    | .odd => .odd
def memL (m : M) (x : Val) (xs : List Val) : Tri := match datN m EQN x with
  | true => match datL (datN m EQN) xs with
    | true => memG m EQN x xs
    | false => .odd
  | false => .odd
def memD (m : M) (x : Val) (kvs : List (Val × Val)) : Tri := match look m x kvs with
  | some o => match o with
    | some _ => .yes
    | .none => .no
  | .none => .odd
def memRef (m : M) (a : Val) (x : Nat) : Tri := match lstAt m x with
  | some xs => memL m a xs
  | .none => .odd
def memStr (a : Val) (t : List Nat) : Tri := match a with
  | .str s => match s with
    | [c] => .ofB (hasN c t)
    | _ => .odd
  | _ => .odd
def member (m : M) (a b : Val) : Tri := match b with
  | .str t => memStr a t
  | .tup xs => memL m a xs
  | .ref x => memRef m a x
  | _ => .odd
def isNone : Val → Bool
  | .none => true
  | _ => false
def isV (a b : Val) : Tri := match b with
  | .none => .ofB (isNone a)
  | _ => .odd
def ltS (a b : Val) : Tri := match a with
  | .int i => match b with
    | .int j => .ofB (decide (i < j))
    | _ => .odd
  | .str s => match b with
    | .str t => .ofB (strLt s t)
    | _ => .odd
  | _ => .odd
def ltI (a b : Val) : Tri := match a with
  | .int i => match b with
    | .int j => .ofB (decide (i < j))
    | _ => .odd
  | _ => .odd
def cmpop (op : Cmp) (m : M) (a b : Val) : Tri := match op with
  | .eq => eqv m a b
  | .ne => (eqv m a b).neg
  | .lt => ltS a b
  | .gt => ltI b a
  | .le => (ltI b a).neg
  | .ge => (ltI a b).neg
  | .isin => member m a b
  | .notin => (member m a b).neg
  | .is => isV a b
  | .isnot => (isV a b).neg
def charsV : List Nat → List Val
  | [] => []
  | c :: r => .str [c] :: charsV r
def natsV : List Nat → List Val
  | [] => []
  | c :: r => .int (Int.ofNat c) :: natsV r
def keysV : List (Val × Val) → List Val
  | [] => []
  | q :: r => q.1 :: keysV r
def valsV : List (Val × Val) → List Val
  | [] => []
  | q :: r => q.2 :: valsV r
def itemsV : List (Val × Val) → List Val
  | [] => []
  | q :: r => .tup [q.1, q.2] :: itemsV r
def setAt (m : M) (a : Nat) : Option (List Val) := match m.t.get a with
  | some o => match o with
    | .set xs => some xs
    | _ => .none
  | .none => .none
def lenRef (m : M) (a : Nat) : R Val := match lstAt m a with
  | some xs => .ok (.int (Int.ofNat xs.length)) m
  | .none => match dctAt m a with
    | some xs => .ok (.int (Int.ofNat xs.length)) m
    | .none => match setAt m a with
      | some xs => .ok (.int (Int.ofNat xs.length)) m
      | .none => .bad 15
def lenV (v : Val) (m : M) : R Val := match v with
  | .str s => fits s (.ok (.int (Int.ofNat s.length)) m)
  | .byt s => .ok (.int (Int.ofNat s.length)) m
  | .tup s => .ok (.int (Int.ofNat s.length)) m
  | .ref a => lenRef m a
  | _ => .bad 16
/-- what is walked, as it stands -/
inductive ItV where
  | seq (a : Nat) | vals (xs : List Val) | dict (a n : Nat) (k : Nat) | rng (lo st : Int) (n : Nat) | zip (x y : ItV) | enum (x : ItV)
inductive Nx where | done | item (v : Val) | odd
def nxOf : Option Val → Nx
  | some v => .item v
  | .none => .done
def ItV.next (m : M) : ItV → Nat → Nx
  | .seq a, i => match lstAt m a with
    | some xs => nxOf (nth xs i)
    | .none => .odd
  | .vals xs, i => nxOf (nth xs i)
  | .dict a n k, i => match dctAt m a with
    | some kvs => match Nat.beq kvs.length n with
      | true => match nth kvs i with
        | some q => match k with
          | 0 => .item q.1
          | 1 => .item q.2
          | _ => .item (.tup [q.1, q.2])
        | .none => .done
      | false => .odd
    | .none => .odd
  | .rng lo st n, i => match Nat.blt i n with
    | true => .item (.int (lo + Int.ofNat i * st))
    | false => .done
  | .zip x y, i => match x.next m i with
    | .item v => match y.next m i with
      | .item w => .item (.tup [v, w])
      | r => r
    | .done => match y.next m i with
      | .odd => .odd
      | _ => .done
    | .odd => .odd
  | .enum x, i => match x.next m i with
    | .item v => .item (.tup [.int (Int.ofNat i), v])
    | r => r
def rngLen (lo hi st : Int) : Nat := if st > 0 then ((hi - lo + st - 1) / st).toNat else ((lo - hi - st - 1) / (-st)).toNat
def itRef (m : M) (a : Nat) : Option ItV := match lstAt m a with
  | some _ => some (.seq a)
  | .none => .none
def itOf (m : M) (v : Val) : Option ItV := match v with
  | .tup xs => some (.vals xs)
  | .str s => some (.vals (charsV s))
  | .ref a => itRef m a
  | _ => .none
def drain (m : M) (it : ItV) : Nat → Nat → List Val → Option (List Val)
  | 0, _, _ => .none
  | f + 1, i, acc => match it.next m i with
    | .done => some acc.reverse
    | .item v => drain m it f (i + 1) (v :: acc)
    | .odd => .none
def isTup : Val → Bool
  | .tup _ => true
  | _ => false
def isStr : Val → Bool
  | .str _ => true
  | _ => false
def isByt : Val → Bool
  | .byt _ => true
  | _ => false
def isBoolV : Val → Bool
  | .bool _ => true
  | _ => false
def isIntV : Val → Bool
  | .int _ => true
  | .bool _ => true
  | _ => false
def isSome {α : Type} : Option α → Bool
  | some _ => true
  | .none => false
def isLst (m : M) : Val → Bool
  | .ref a => isSome (lstAt m a)
  | _ => false
def isDct (m : M) : Val → Bool
  | .ref a => isSome (dctAt m a)
  | _ => false
def excVE (p : Tree Cls) (c : Nat) : Option Bool := match p.get c with
  | some k => match k.kind with
    | .exc ve _ => some ve
    | .inst => .none
  | .none => .none
def clsOf (m : M) (a : Nat) : Option Nat := match m.t.get a with
  | some o => match o with
    | .ins c _ => some c
    | _ => .none
  | .none => .none
def hasC (p : Tree Cls) (c d : Nat) : Option Bool := match p.get d with
  | some k => some (hasN c k.anc)
  | .none => .none
/-- the built-in types of values -/
inductive TyN where | none | bool | int | str | tup | lst | dct | byt
def tyRef (m : M) (a : Nat) : Option TyN := match lstAt m a with
  | some _ => some .lst
  | .none => match dctAt m a with
    | some _ => some .dct
    | .none => .none
def tyN (m : M) (v : Val) : Option TyN := match v with
  | .none => some .none
  | .bool _ => some .bool
  | .int _ => some .int
  | .str _ => some .str
  | .byt _ => some .byt
  | .tup _ => some .tup
  | .ref a => tyRef m a
  | _ => .none
def TyN.is (n : TyN) (t : Ty) : Bool := match n with
  | .none => false
  | .bool => match t with
    | .bool => true
    | .int => true
    | _ => false
  | .int => match t with
    | .int => true
    | _ => false
  | .str => match t with
    | .str => true
    | _ => false
  | .byt => match t with
    | .byt => true
    | _ => false
  | .tup => match t with
    | .tup => true
    | _ => false
  | .lst => match t with
    | .lst => true
    | _ => false
  | .dct => match t with
    | .dct => true
    | _ => false
def isBlt (m : M) (v : Val) (t : Ty) : Option Bool := match tyN m v with
  | some n => some (n.is t)
  | .none => .none
def hasTy (p : Tree Cls) (m : M) (v : Val) (t : Ty) : Option Bool := match t with
  | .valErr => match v with
    | .exn c _ => excVE p c
    | _ => .none
  | .exc => match v with
    | .exn _ _ => some true
    | _ => .none
  | .cls c => match v with
    | .exn d _ => match excVE p d with
      | some _ => match excVE p c with
        | some _ => hasC p c d
        | .none => .none
      | .none => .none
    | .ref a => match clsOf m a with
      | some d => hasC p c d
      | .none => some false
    | _ => some false
  | t => isBlt m v t
def hasTys (p : Tree Cls) (m : M) (v : Val) : List Ty → Option Bool
  | [] => some false
  | t :: r => match hasTy p m v t with
    | some b => match b with
      | true => some true
      | false => hasTys p m v r
    | .none => .none
def getAt {α : Type} (xs : List α) (i : Val) (k : α → R Val) : R Val := match i with
  | .int i => match ixOf i xs.length with
    | some j => match nth xs j with
      | some v => k v
      | .none => .bad 17
    | .none => .bad 18
  | _ => .bad 19
def item (a i : Val) (m : M) : R Val := match a with
  | .tup xs => getAt xs i fun v => .ok v m
  | .str xs => fits xs (getAt xs i fun c => .ok (.str [c]) m)
  | .byt xs => getAt xs i fun c => .ok (.int (Int.ofNat c)) m
  | .ref x => match lstAt m x with
    | some xs => getAt xs i fun v => .ok v m
    | .none => match dctAt m x with
      | some kvs => match look m i kvs with
        | some o => match o with
          | some v => .ok v m
          | .none => .bad 20
        | .none => .bad 21
      | .none => .bad 22
  | _ => .bad 23
def bound (v : Option Int) (d n : Nat) (k : Nat → R Val) : R Val := match v with
  | .none => k d
  | some i => k (cutOf i n)
def sliced (a : Val) (lo hi : Option Int) (m : M) : R Val := match a with
  | .tup xs => bound lo 0 xs.length fun l => bound hi xs.length xs.length fun h => .ok (.tup (slice xs l h)) m
  | .str xs => fits xs (bound lo 0 xs.length fun l => bound hi xs.length xs.length fun h => .ok (.str (slice xs l h)) m)
  | .byt xs => bound lo 0 xs.length fun l => bound hi xs.length xs.length fun h => .ok (.byt (slice xs l h)) m
  | .ref x => match lstAt m x with
    | some xs => bound lo 0 xs.length fun l => bound hi xs.length xs.length fun h => mkObj m (.lst (slice xs l h))
    | .none => .bad 25
  | _ => .bad 26
def reversed (a : Val) (m : M) : R Val := match a with
  | .tup xs => .ok (.tup xs.reverse) m
  | .str xs => .ok (.str xs.reverse) m
  | .ref x => match lstAt m x with
    | some xs => mkObj m (.lst xs.reverse)
    | .none => .bad 27
  | _ => .bad 28
def maxL : Int → List Int → Int
  | a, [] => a
  | a, b :: r => maxL (if b > a then b else a) r
def minL : Int → List Int → Int
  | a, [] => a
  | a, b :: r => minL (if b < a then b else a) r
/-- all that a value gives when it is walked -/
def valsOf (m : M) (v : Val) : Option (List Val) := match v with
  | .tup xs => some xs
  | .str s => some (charsV s)
  | .byt s => some (natsV s)
  | .ref a => match lstAt m a with
    | some xs => some xs
    | .none => match dctAt m a with
      | some kvs => some (keysV kvs)
      | .none => .none
  | _ => .none
/-- a tuple's or a list's values -/
def seqOf (m : M) (v : Val) : Option (List Val) := match v with
  | .tup xs => some xs
  | .ref a => lstAt m a
  | _ => .none
def lstV (m : M) (v : Val) : Option (List Val) := match v with
  | .ref a => lstAt m a
  | _ => .none
def sumI : List Int → Int
  | [] => 0
  | a :: r => a + sumI r
def key0 : Val → Val
  | .tup xs => match xs with
    | x :: _ => x
    | [] => .und
  | _ => .und
def dedup (m : M) : List Val → List Val → Option (List Val)
  | [], acc => some acc.reverse
  | x :: r, acc => match memL m x acc with
    | .yes => dedup m r acc
    | .no => dedup m r (x :: acc)
    | .odd => .none
def opt {α : Type} (n : Nat) (o : Option α) (k : α → R Val) : R Val := match o with
  | some x => k x
  | .none => .bad n
def eraseIx (xs : List Val) (k : Nat) : List Val := xs.take k ++ xs.drop (k + 1)
def indexL (m : M) (x : Val) : List Val → Nat → Option Nat
  | [], _ => .none
  | y :: r, i => match eqv m y x with
    | .yes => some i
    | .no => indexL m x r (i + 1)
    | .odd => .none
def countL (m : M) (x : Val) : List Val → Nat → Option Nat
  | [], n => some n
  | y :: r, n => match eqv m y x with
    | .yes => countL m x r (n + 1)
    | .no => countL m x r n
    | .odd => .none
def dputs (m : M) : List (Val × Val) → List (Val × Val) → Option (List (Val × Val))
  | kvs, [] => some kvs
  | kvs, q :: r => match dput m q.1 q.2 kvs with
    | some kvs' => dputs m kvs' r
    | .none => .none
def strIndex (x : List Nat) : List Nat → Nat → Option Nat
  | [], _ => .none
  | b :: t, i => match pre x (b :: t) with
    | true => some i
    | false => strIndex x t (i + 1)
def dctW (m : M) (v : Val) (k : Nat → List (Val × Val) → R Val) : R Val := match v with
  | .ref a => match m.t.get a with
    | some o => match o with
      | .dct kvs => k a kvs
      | _ => .bad 29
    | .none => .bad 29
  | _ => .bad 29
def lstW (m : M) (v : Val) (k : Nat → List Val → R Val) : R Val := match v with
  | .ref a => match m.t.get a with
    | some o => match o with
      | .lst xs => k a xs
      | _ => .bad 30
    | .none => .bad 30
  | _ => .bad 30
def dctR (m : M) (v : Val) (k : List (Val × Val) → R Val) : R Val := match v with
  | .ref a => match dctAt m a with
    | some kvs => k kvs
    | .none => .bad 31
  | _ => .bad 31
def strW (v : Val) (k : List Nat → R Val) : R Val := match v with
  | .str s => k s
  | _ => .bad 32

/-! ### the run: each piece of the text as a function -/
inductive Fl where | next (σ : List Val) | brk (σ : List Val) | cont (σ : List Val) | ret (v : Val)
/-- the classes, __eq__'s name, the calls one level down -/
structure Cx where
  p : Tree Cls
  eqm : Nat
  call : Nat → List Val → M → R Val
  lam : Nat → List Val → List Val → M → R Val
def E := Cx → List Val → M → R Val
def Tg := Cx → Val → List Val → M → R (List Val)
def It := Cx → List Val → M → R ItV
def S := Cx → List Val → M → R Fl
def TRUE : Nat := 1000000
def truth {α : Type} (v : Val) (k : Bool → R α) : R α := match v with
  | .bool b => k b
  | _ => .bad 33
def tri (t : Tri) (m : M) : R Val := match t with
  | .yes => .ok (.bool true) m
  | .no => .ok (.bool false) m
  | .odd => .bad 34
def methC (p : Tree Cls) (c nm : Nat) : Option Nat := match p.get c with
  | some k => asc nm k.meths
  | .none => .none
def methOf (p : Tree Cls) (o : Val) (m : M) (nm : Nat) : Option Nat := match o with
  | .ref a => match clsOf m a with
    | some c => methC p c nm
    | .none => .none
  | _ => .none
def make (f : Cx) (c : Nat) (vs : List Val) (m : M) : R Val := match f.p.get c with
  | some k => match k.kind with
    | .inst => match k.init with
      | .none => match vs with
        | [] => mkObj m (.ins c [])
        | _ :: _ => .bad 35
      | some i => match f.call i (.ref m.n :: vs) ⟨m.n + 1, m.t.set (.ins c []) m.n⟩ with
        | .ok v m' => match v with
          | .none => .ok (.ref m.n) m'
          | _ => .bad 117
        | .ex v m' => .ex v m'
        | .bad n => .bad n
    | .exc _ fl => match fl with
      | .none => .ok (.exn c []) m
      | some _ => match vs with
        | [v] => .ok (.exn c [v]) m
        | _ => .bad 36
  | .none => .bad 37
def cmpEq (f : Cx) (a b : Val) (m : M) : R Val := match methOf f.p a m f.eqm with
  | some i => f.call i [a, b] m
  | .none => tri (eqv m a b) m
def cmpNe (f : Cx) (a b : Val) (m : M) : R Val := match methOf f.p a m f.eqm with
  | some i => (f.call i [a, b] m).bind fun v m => truth v fun x => .ok (.bool (!x)) m
  | .none => tri (eqv m a b).neg m
def cmpE (f : Cx) (op : Cmp) (a b : Val) (m : M) : R Val := match op with
  | .eq => cmpEq f a b m
  | .ne => cmpNe f a b m
  | op => tri (cmpop op m a b) m
def evL (f : Cx) : List E → List Val → M → R (List Val)
  | [], _, m => .ok [] m
  | e :: r, σ, m => (e f σ m).bind fun v m => (evL f r σ m).bind fun vs m => .ok (v :: vs) m
def evKV (f : Cx) : List (E × E) → List Val → M → List (Val × Val) → R (List (Val × Val))
  | [], _, m, acc => .ok acc m
  | q :: r, σ, m, acc => (q.1 f σ m).bind fun kv m => (q.2 f σ m).bind fun v m => match dput m kv v acc with
    | some acc' => evKV f r σ m acc'
    | .none => .bad 38
def evKs (f : Cx) : List (Nat × E) → List Val → M → List Val → R (List Val)
  | [], _, m, acc => .ok acc m
  | q :: r, σ, m, acc => (q.2 f σ m).bind fun v m => evKs f r σ m (setN v acc q.1)
def evOpt (f : Cx) : Option E → List Val → M → R (Option Int)
  | .none, _, m => .ok .none m
  | some e, σ, m => (e f σ m).bind fun v m => match v with
    | .int i => .ok (some i) m
    | _ => .bad 24
def fill (n : Nat) (vs : List Val) : List Val := vs ++ rep [Val.und] (n - vs.length)
def pad (vs : List Val) (n : Nat) : List Val := vs ++ rep [Val.und] n
def known (v : Val) (k : Val → R Val) : R Val := match v with
  | .und => .bad 39
  | v => k v
namespace E
/-- what is not told -/
def bad (n : Nat) : E := fun _ _ _ => .bad (1000 + n)
def loc (i : Nat) : E := fun _ σ m => match nth σ i with
  | some v => known v fun v => .ok v m
  | .none => .bad 40
def cst (v : Val) : E := fun _ _ m => .ok v m
def and (a b : E) : E := fun f σ m => (a f σ m).bind fun v m => truth v fun x => match x with
  | true => b f σ m
  | false => .ok (.bool false) m
def or (a b : E) : E := fun f σ m => (a f σ m).bind fun v m => truth v fun x => match x with
  | true => .ok (.bool true) m
  | false => b f σ m
def not (a : E) : E := fun f σ m => (a f σ m).bind fun v m => truth v fun x => .ok (.bool (!x)) m
def ite (t a b : E) : E := fun f σ m => (t f σ m).bind fun v m => truth v fun x => match x with
  | true => a f σ m
  | false => b f σ m
def cmp (op : Cmp) (a b : E) : E := fun f σ m => (a f σ m).bind fun v m => (b f σ m).bind fun w m => tri (cmpop op m v w) m
/-- where some class has its own equality -/
def cmpU (op : Cmp) (a b : E) : E := fun f σ m => (a f σ m).bind fun v m => (b f σ m).bind fun w m => cmpE f op v w m
def chain (op op' : Cmp) (a b c : E) : E := fun f σ m => (a f σ m).bind fun v m => (b f σ m).bind fun w m => match cmpop op m v w with
  | .yes => (c f σ m).bind fun z m => tri (cmpop op' m w z) m
  | .no => .ok (.bool false) m
  | .odd => .bad 41
def bin (op : Bin) (a b : E) : E := fun f σ m => (a f σ m).bind fun v m => (b f σ m).bind fun w m => binop op v w m
def neg (a : E) : E := fun f σ m => (a f σ m).bind fun v m => match v with
  | .int i => .ok (.int (-i)) m
  | _ => .bad 42
def tup (es : List E) : E := fun f σ m => (evL f es σ m).bind fun vs m => .ok (.tup vs) m
def lst (es : List E) : E := fun f σ m => (evL f es σ m).bind fun vs m => mkObj m (.lst vs)
def dic (kvs : List (E × E)) : E := fun f σ m => (evKV f kvs σ m []).bind fun kvs m => mkObj m (.dct kvs)
def idx (a i : E) : E := fun f σ m => (a f σ m).bind fun v m => (i f σ m).bind fun w m => item v w m
def slc (a : E) (lo hi : Option E) : E := fun f σ m => (a f σ m).bind fun v m => (evOpt f lo σ m).bind fun l m => (evOpt f hi σ m).bind fun h m => sliced v l h m
def rev (a : E) : E := fun f σ m => (a f σ m).bind fun v m => reversed v m
def attI (m : M) (x fl : Nat) : R Val := match m.t.get x with
  | some o => match o with
    | .ins _ fs => opt 43 (fldGet fl fs) fun w => .ok w m
    | _ => .bad 44
  | .none => .bad 44
def attX (p : Tree Cls) (m : M) (c fl : Nat) (ws : List Val) : R Val := match p.get c with
  | some k => match k.kind with
    | .exc _ (some g) => match Nat.beq g fl with
      | true => match ws with
        | [w] => .ok w m
        | _ => .bad 45
      | false => .bad 45
    | _ => .bad 45
  | .none => .bad 45
def att (a : E) (fl : Nat) : E := fun f σ m => (a f σ m).bind fun v m => match v with
  | .ref x => attI m x fl
  | .exn c ws => attX f.p m c fl ws
  | _ => .bad 46
def call (g : Nat) (es : List E) : E := fun f σ m => (evL f es σ m).bind fun vs m => f.call g vs m
def callk (g : Nat) (es : List E) (ks : List (Nat × E)) : E := fun f σ m => (evL f es σ m).bind fun vs m => (evKs f ks σ m (pad vs ks.length)).bind fun vs m => f.call g vs m
def mk (c : Nat) (es : List E) : E := fun f σ m => (evL f es σ m).bind fun vs m => make f c vs m
def mkk (c : Nat) (es : List E) (ks : List (Nat × E)) : E := fun f σ m => (evL f es σ m).bind fun vs m => (evKs f ks σ m (pad vs ks.length)).bind fun vs m => make f c vs m
def isi (a : E) (ts : List Ty) : E := fun f σ m => (a f σ m).bind fun v m => opt 47 (hasTys f.p m v ts) fun b => .ok (.bool b) m
def meth (o : E) (k : Nat) (es : List E) : E := fun f σ m => (o f σ m).bind fun v m => opt 48 (methOf f.p v m k) fun i => (evL f es σ m).bind fun vs m => f.call i (v :: vs) m
def methk (o : E) (k : Nat) (es : List E) (ks : List (Nat × E)) : E := fun f σ m => (o f σ m).bind fun v m => opt 49 (methOf f.p v m k) fun i => (evL f es σ m).bind fun vs m => (evKs f ks σ m (pad vs ks.length)).bind fun vs m => f.call i (v :: vs) m
/-- a method of an own class, or else of a built-in type -/
def methOr (o : E) (k : Nat) (es : List E) (e : E) : E := fun f σ m => (o f σ m).bind fun v m0 => match methOf f.p v m0 k with
  | some i => (evL f es σ m0).bind fun vs m => f.call i (v :: vs) m
  | .none => e f σ m
def lamAt (m : M) (a : Nat) : Option (Nat × List Val) := match m.t.get a with
  | some o => match o with
    | .lam k σ => some (k, σ)
    | _ => .none
  | .none => .none
def callv (g : E) (es : List E) : E := fun f σ m => (g f σ m).bind fun v m => match v with
  | .fn i => (evL f es σ m).bind fun vs m => f.call i vs m
  | .ref a => opt 50 (lamAt m a) fun q => (evL f es σ m).bind fun vs m => f.lam q.1 q.2 vs m
  | _ => .bad 51
def lam (k : Nat) : E := fun f σ m => mkObj m (.lam k σ)
/-! built-in functions -/
def v1 (e : E) (k : Val → M → R Val) : E := fun f σ m => (e f σ m).bind k
def v2 (e e' : E) (k : Val → Val → M → R Val) : E := fun f σ m => (e f σ m).bind fun v m => (e' f σ m).bind fun w m => k v w m
def v3 (e e' e2 : E) (k : Val → Val → Val → M → R Val) : E := fun f σ m => (e f σ m).bind fun v m => (e' f σ m).bind fun w m => (e2 f σ m).bind fun z m => k v w z m
def bLen (e : E) : E := v1 e lenV
def bList0 : E := fun _ _ m => mkObj m (.lst [])
def bList (e : E) : E := v1 e fun v m => opt 52 (seqOf m v) fun xs => mkObj m (.lst xs)
def bTuple (e : E) : E := v1 e fun v m => opt 53 (seqOf m v) fun xs => .ok (.tup xs) m
def bDict (e : E) : E := v1 e fun v m => dctR m v fun kvs => mkObj m (.dct kvs)
def pairKV : List Val → Option (List (Val × Val))
  | [] => some []
  | x :: r => match x with
    | .tup [k, v] => match pairKV r with
      | some l => some ((k, v) :: l)
      | .none => .none
    | _ => .none
/-- dict(pairs) -/
def bDictP (e : E) : E := v1 e fun v m => match v with
  | .tup xs => opt 54 (pairKV xs) fun ps => opt 54 (dputs m [] ps) fun kvs => mkObj m (.dct kvs)
  | v => dctR m v fun kvs => mkObj m (.dct kvs)
def bSet (e : E) : E := v1 e fun v m => opt 55 (valsOf m v) fun xs => opt 55 (dedup m xs []) fun ys => mkObj m (.set ys)
def allOf (m : M) (v : Val) : Option (List Val) := match v with
  | .ref a => match setAt m a with
    | some xs => some xs
    | .none => valsOf m v
  | v => valsOf m v
def strsV : List (List Nat) → List Val
  | [] => []
  | s :: r => .str s :: strsV r
def sortedV (v : Val) (m : M) : R Val := opt 56 (seqOf m v) fun xs => opt 56 (txts xs) fun l => match Nat.blt l.length 64 with
  | true => mkObj m (.lst (strsV (sortS l)))
  | false => .bad 56
def hasS (x : List Nat) : List (List Nat) → Bool
  | [] => false
  | y :: r => match strEq x y with
    | true => true
    | false => hasS x r
def dedupS : List (List Nat) → List (List Nat)
  | [] => []
  | x :: r => match hasS x r with
    | true => dedupS r
    | false => x :: dedupS r
/-- sorted(set(..)) of texts -/
def sortedSetV (v : Val) (m : M) : R Val := opt 57 (lstV m v) fun xs => opt 57 (txts xs) fun l => match Nat.blt l.length 64 with
  | true => mkObj m (.lst (strsV (sortS (dedupS l))))
  | false => .bad 57
def bSortedSet (e : E) : E := v1 e sortedSetV
/-- of a list of texts -/
def bSortedS (e : E) : E := v1 e sortedV
def bSorted (e : E) : E := v1 e fun v m => opt 56 (allOf m v) fun xs => opt 56 (sortV m id xs []) fun ys => mkObj m (.lst ys)
def bSortedKey0 (e : E) : E := v1 e fun v m => opt 57 (valsOf m v) fun xs => opt 57 (sortV m key0 xs []) fun ys => mkObj m (.lst ys)
def bMax2 (e e' : E) : E := v2 e e' fun a b m => int2 a b fun i j => .ok (.int (if j > i then j else i)) m
def bMin2 (e e' : E) : E := v2 e e' fun a b m => int2 a b fun i j => .ok (.int (if j < i then j else i)) m
def head1 (l : List Int) (k : Int → List Int → R Val) : R Val := match l with
  | a :: r => k a r
  | [] => .bad 58
def bMax (e : E) : E := v1 e fun v m => opt 58 (valsOf m v) fun xs => opt 58 (nums xs) fun l => head1 l fun a r => .ok (.int (maxL a r)) m
def bMin (e : E) : E := v1 e fun v m => opt 58 (valsOf m v) fun xs => opt 58 (nums xs) fun l => head1 l fun a r => .ok (.int (minL a r)) m
def bSum (e : E) : E := v1 e fun v m => opt 59 (lstV m v) fun xs => opt 59 (nums xs) fun l => .ok (.int (sumI l)) m
/-- sum(lists, []) -/
def lists (m : M) : List Val → Option (List Val)
  | [] => some []
  | x :: r => match x with
    | .ref a => match lstAt m a with
      | some xs => match lists m r with
        | some l => some (xs ++ l)
        | .none => .none
      | .none => .none
    | _ => .none
def bSum2 (e e' : E) : E := v2 e e' fun v w m => opt 60 (valsOf m v) fun xs => match w with
  | .ref a => opt 60 (lstAt m a) fun zs => opt 60 (lists m xs) fun l => mkObj m (.lst (zs ++ l))
  | _ => .bad 60
def bAbs (e : E) : E := v1 e fun v m => match v with
  | .int i => .ok (.int (if i < 0 then -i else i)) m
  | _ => .bad 61
def bAny (e : E) : E := v1 e fun v m => opt 62 (lstV m v) fun xs => opt 62 (bools xs) fun l => .ok (.bool (anyB l)) m
def bAll (e : E) : E := v1 e fun v m => opt 63 (lstV m v) fun xs => opt 63 (bools xs) fun l => .ok (.bool (allB l)) m
def intV (v : Val) (m : M) : R Val := match v with
  | .int i => .ok (.int i) m
  | _ => .bad 64
def bInt (e : E) : E := v1 e intV
def bStr (e : E) : E := v1 e fun v m => match v with
  | .int i => match Nat.blt i.natAbs (2 ^ 1900) with
    | true => .ok (.str (intStr i)) m
    | false => .bad 65
  | _ => .bad 65
def bBytes (e : E) : E := v1 e fun v m => opt 66 (valsOf m v) fun xs => opt 66 (nats xs) fun l => .ok (.byt l) m
def bFromhex (e : E) : E := v1 e fun v m => strW v fun s => opt 67 (unhexS s) fun l => .ok (.byt l) m
/-! methods of built-in types -/
def isL (m : M) (v : Val) : Bool := match v with
  | .ref a => isSome (lstO m a)
  | _ => false
def isD (m : M) (v : Val) : Bool := match v with
  | .ref a => isSome (dctAt m a)
  | _ => false
def vIf (t : M → Val → Bool) (o : E) (k : Cx → List Val → Val → M → R Val) : E := fun f σ m => (o f σ m).bind fun v m => match t m v with
  | true => k f σ v m
  | false => .bad 115
def mL1 (o e : E) (k : Val → Val → M → R Val) : E := vIf isL o fun f σ v m => (e f σ m).bind fun x m => k v x m
def mL0 (o : E) (k : Val → M → R Val) : E := vIf isL o fun _ _ v m => k v m
def mD1 (o e : E) (k : Val → Val → M → R Val) : E := vIf isD o fun f σ v m => (e f σ m).bind fun x m => k v x m
def mD2 (o e e' : E) (k : Val → Val → Val → M → R Val) : E := vIf isD o fun f σ v m => (e f σ m).bind fun x m => (e' f σ m).bind fun y m => k v x y m
def appendV (v x : Val) (m : M) : R Val := lstW m v fun a xs => match Nat.blt xs.length SIZE with
  | true => .ok .none (putObj m a (.lst (xs ++ [x])))
  | false => .bad 116
def mAppend (o e : E) : E := mL1 o e appendV
def clearV (v : Val) (m : M) : R Val := lstW m v fun a _ => .ok .none (putObj m a (.lst []))
def mClear (o : E) : E := mL0 o clearV
def extendV (v x : Val) (m : M) : R Val := lstW m v fun a xs => lstW m x fun _ ys => fits (xs ++ ys) (.ok .none (putObj m a (.lst (xs ++ ys))))
def mExtend (o e : E) : E := mL1 o e extendV
def get1 (v x : Val) (m : M) : R Val := dctR m v fun kvs => opt 69 (look m x kvs) fun r => match r with
  | some w => .ok w m
  | .none => .ok .none m
def mGet (o e : E) : E := mD1 o e get1
def get2 (v x z : Val) (m : M) : R Val := dctR m v fun kvs => opt 70 (look m x kvs) fun r => match r with
  | some w => .ok w m
  | .none => .ok z m
def mGet2 (o e d : E) : E := mD2 o e d get2
def mHex (o : E) : E := v1 o fun v m => match v with
  | .byt s => .ok (.str (hexS s)) m
  | _ => .bad 71
def mIndex (o e : E) : E := v2 o e fun v x m => match v with
  | .str s => strW x fun t => opt 72 (strIndex t s 0) fun i => .ok (.int (Int.ofNat i)) m
  | .tup xs => opt 72 (indexL m x xs 0) fun i => .ok (.int (Int.ofNat i)) m
  | .ref a => opt 72 (lstAt m a) fun xs => opt 72 (indexL m x xs 0) fun i => .ok (.int (Int.ofNat i)) m
  | _ => .bad 72
def mCount (o e : E) : E := v2 o e fun v x m => match v with
  | .tup xs => opt 73 (countL m x xs 0) fun i => .ok (.int (Int.ofNat i)) m
  | .ref a => opt 73 (lstAt m a) fun xs => opt 73 (countL m x xs 0) fun i => .ok (.int (Int.ofNat i)) m
  | _ => .bad 73
def popAt (m : M) (a : Nat) (xs : List Val) (i : Int) : R Val := opt 74 (ixOf i xs.length) fun k => opt 74 (nth xs k) fun v => .ok v (putObj m a (.lst (eraseIx xs k)))
def popV (v : Val) (m : M) : R Val := lstW m v fun a xs => match xs.length with
  | 0 => .bad 74
  | n + 1 => opt 74 (nth xs n) fun w => .ok w (putObj m a (.lst (xs.take n)))
def pop1 (v x : Val) (m : M) : R Val := lstW m v fun a xs => match x with
  | .int i => match idxOk i with
    | true => popAt m a xs i
    | false => .bad 75
  | _ => .bad 75
def mPop (o : E) : E := mL0 o popV
def mPop1 (o e : E) : E := mL1 o e pop1
def mRemove (o e : E) : E := v2 o e fun v x m => lstW m v fun a xs => opt 76 (indexL m x xs 0) fun k => .ok .none (putObj m a (.lst (eraseIx xs k)))
def mReplace (o e e' : E) : E := v3 o e e' fun v x y m => strW v fun s => strW x fun t => strW y fun z => match t with
  | [] => .bad 77
  | _ :: _ => fits (replaceF t z (s.length + 1) s) (.ok (.str (replaceF t z (s.length + 1) s)) m)
def setdef (v x d : Val) (m : M) : R Val := dctW m v fun a kvs => match Nat.blt kvs.length SIZE with
  | true => opt 78 (look m x kvs) fun r => match r with
    | some w => .ok w m
    | .none => .ok d (putObj m a (.dct (putK x d kvs)))
  | false => .bad 78
def mSetdefault (o e e' : E) : E := mD2 o e e' setdef
def mSplit (o e : E) : E := v2 o e fun v x m => strW v fun s => strW x fun t => match t with
  | [c] => mkObj m (.lst (strsV (splitOn1 c s [])))
  | _ => .bad 79
def mStartswith (o e : E) : E := v2 o e fun v x m => strW v fun s => strW x fun t => .ok (.bool (pre t s)) m
def mUpdate (o e : E) : E := v2 o e fun v x m => dctW m v fun a kvs => dctR m x fun ks => opt 80 (dputs m kvs ks) fun kvs' => .ok .none (putObj m a (.dct kvs'))
def mJoin (o e : E) : E := v2 o e fun v x m => strW v fun s => opt 81 (valsOf m x) fun xs => opt 81 (txts xs) fun l => fits (joinS s l) (.ok (.str (joinS s l)) m)
end E
/-- a comprehension's turns -/
def compN (f : Cx) (t : Tg) (w : ItV) (c : Option E) (e : E) : Nat → Nat → List Val → List Val → M → R (List Val)
  | 0, _, _, _, _ => .bad 100
  | n + 1, i, σ, acc, m => match w.next m i with
    | .done => .ok acc m
    | .item v => (t f v σ m).bind fun σ' m => match c with
      | .none => (e f σ' m).bind fun x m => compN f t w c e n (i + 1) σ (x :: acc) m
      | some q => (q f σ' m).bind fun b m => truth b fun y => match y with
        | true => (e f σ' m).bind fun x m => compN f t w c e n (i + 1) σ (x :: acc) m
        | false => compN f t w c e n (i + 1) σ acc m
    | .odd => .bad 82
def dcompN (f : Cx) (t : Tg) (w : ItV) (c : Option E) (k e : E) : Nat → Nat → List Val → List (Val × Val) → M → R (List (Val × Val))
  | 0, _, _, _, _ => .bad 100
  | n + 1, i, σ, acc, m => match w.next m i with
    | .done => .ok acc m
    | .item v => (t f v σ m).bind fun σ' m => match c with
      | .none => (k f σ' m).bind fun kv m => (e f σ' m).bind fun x m => match dput m kv x acc with
        | some acc' => dcompN f t w c k e n (i + 1) σ acc' m
        | .none => .bad 83
      | some q => (q f σ' m).bind fun b m => truth b fun y => match y with
        | true => (k f σ' m).bind fun kv m => (e f σ' m).bind fun x m => match dput m kv x acc with
          | some acc' => dcompN f t w c k e n (i + 1) σ acc' m
          | .none => .bad 83
        | false => dcompN f t w c k e n (i + 1) σ acc m
    | .odd => .bad 84
/-- an exception out of a block: not told here -/
def noEx {α : Type} (r : R α) : R α := match r with
  | .ex _ _ => .bad 111
  | .ok a m => .ok a m
  | .bad n => .bad n
/-- the block's own names are unset at its start -/
def wipe : List Nat → List Val → List Val
  | [], σ => σ
  | i :: r, σ => setN .und (wipe r σ) i
namespace E
def lc (t : Tg) (it : It) (own : List Nat) (c : Option E) (e : E) : E := fun f σ m => (it f σ m).bind fun w m => (noEx (compN f t w c e TRUE 0 (wipe own σ) [] m)).bind fun vs m => fits vs (mkObj m (.lst vs.reverse))
def sc (t : Tg) (it : It) (own : List Nat) (c : Option E) (e : E) : E := fun f σ m => (it f σ m).bind fun w m => (noEx (compN f t w c e TRUE 0 (wipe own σ) [] m)).bind fun vs m => opt 85 (dedup m vs.reverse []) fun ys => mkObj m (.set ys)
def dc (t : Tg) (it : It) (own : List Nat) (c : Option E) (k e : E) : E := fun f σ m => (it f σ m).bind fun w m => (noEx (dcompN f t w c k e TRUE 0 (wipe own σ) [] m)).bind fun kvs m => mkObj m (.dct kvs)
def listOf (it : It) : E := fun f σ m => (it f σ m).bind fun w m => opt 86 (drain m w TRUE 0 []) fun vs => mkObj m (.lst vs)
def tupleOf (it : It) : E := fun f σ m => (it f σ m).bind fun w m => opt 87 (drain m w TRUE 0 []) fun vs => .ok (.tup vs) m
end E
def itDict (v : Val) (m : M) (k : Nat) : R ItV := match v with
  | .ref a => match dctAt m a with
    | some kvs => .ok (.dict a kvs.length k) m
    | .none => .bad 88
  | _ => .bad 88
namespace It
def bad (n : Nat) : It := fun _ _ _ => .bad (1000 + n)
def val (e : E) : It := fun f σ m => (e f σ m).bind fun v m => match itOf m v with
  | some w => .ok w m
  | .none => .bad 89
def inRng (a : Int) : Bool := decide (-4611686018427387904 ≤ a) && decide (a < 4611686018427387904)
def rng1 (hi : E) : It := fun f σ m => (evL f [hi] σ m).bind fun vs m => match vs with
  | [v] => match v with
    | .int b => match inRng b with
      | true => .ok (.rng 0 1 b.toNat) m
      | false => .bad 90
    | _ => .bad 90
  | _ => .bad 90
def rng2 (lo hi : E) : It := fun f σ m => (evL f [lo, hi] σ m).bind fun vs m => match vs with
  | [v, w] => match v with
    | .int a => match w with
      | .int b => match inRng a && inRng b with
        | true => .ok (.rng a 1 (b - a).toNat) m
        | false => .bad 90
      | _ => .bad 90
    | _ => .bad 90
  | _ => .bad 90
def rng (lo hi st : E) : It := fun f σ m => (lo f σ m).bind fun a m => (hi f σ m).bind fun b m => (st f σ m).bind fun c m => match a with
  | .int a => match b with
    | .int b => match c with
      | .int c => .ok (.rng a c (rngLen a b c)) m
      | _ => .bad 90
    | _ => .bad 90
  | _ => .bad 90
def zipV (m : M) (v w : Val) : Option ItV := match v with
  | .tup xs => match w with
    | .tup ys => some (.zip (.vals xs) (.vals ys))
    | _ => .none
  | .ref a => match w with
    | .ref b => match lstAt m a with
      | some _ => match lstAt m b with
        | some _ => some (.zip (.seq a) (.seq b))
        | .none => .none
      | .none => .none
    | _ => .none
  | _ => .none
def optI (o : Option ItV) (m : M) : R ItV := match o with
  | some w => .ok w m
  | .none => .bad 112
def zip (a b : E) : It := fun f σ m => (evL f [a, b] σ m).bind fun vs m => match vs with
  | [v, w] => optI (zipV m v w) m
  | _ => .bad 112
def enumV (m : M) (v : Val) : Option ItV := match v with
  | .ref a => match lstAt m a with
    | some _ => some (.enum (.seq a))
    | .none => .none
  | _ => .none
def enum (a : E) : It := fun f σ m => (evL f [a] σ m).bind fun vs m => match vs with
  | [v] => optI (enumV m v) m
  | _ => .bad 113
def items (e : E) : It := fun f σ m => (e f σ m).bind fun v m => itDict v m 2
def values (e : E) : It := fun f σ m => (e f σ m).bind fun v m => itDict v m 1
end It
def asgs (f : Cx) : List Tg → List Val → List Val → M → R (List Val)
  | [], vs, σ, m => match vs with
    | [] => .ok σ m
    | _ :: _ => .bad 91
  | t :: ts, vs, σ, m => match vs with
    | [] => .bad 91
    | v :: vs => (t f v σ m).bind fun σ m => asgs f ts vs σ m
def opt2 {α β : Type} (n : Nat) (o : Option α) (k : α → R β) : R β := match o with
  | some x => k x
  | .none => .bad n
namespace Tg
def bad (n : Nat) : Tg := fun _ _ _ _ => .bad (1000 + n)
def loc (i : Nat) : Tg := fun _ v σ m => .ok (setN v σ i) m
def tupN (f : Cx) (ts : List Tg) (vs σ : List Val) (m : M) : R (List Val) := match Nat.beq vs.length ts.length with
  | true => asgs f ts vs σ m
  | false => .bad 92
def tup (ts : List Tg) : Tg := fun f v σ m => match v with
  | .tup vs => tupN f ts vs σ m
  | _ => .bad 92
def starN (f : Cx) (i : Nat) (ts : List Tg) (vs σ : List Val) (m : M) : R (List Val) := match Nat.ble ts.length (vs.length + 1) && Nat.blt i ts.length with
  | true => (mkObj m (.lst ((vs.drop i).take (vs.length + 1 - ts.length)))).bind fun l m => asgs f ts (vs.take i ++ (l :: (vs.drop i).drop (vs.length + 1 - ts.length))) σ m
  | false => .bad 93
/-- the i-th target takes what is left -/
def star (i : Nat) (ts : List Tg) : Tg := fun f v σ m => match v with
  | .tup vs => starN f i ts vs σ m
  | _ => .bad 93
def hasF (p : Tree Cls) (c fl : Nat) : Bool := match p.get c with
  | some k => hasN fl k.flds
  | .none => false
def attP (p : Tree Cls) (m : M) (a fl : Nat) (v : Val) (σ : List Val) : R (List Val) := match m.t.get a with
  | some o => match o with
    | .ins c fs => match hasF p c fl && Nat.blt fs.length 900 with
      | true => .ok σ (putObj m a (.ins c (fldPut fl v fs)))
      | false => .bad 94
    | _ => .bad 94
  | .none => .bad 94
def att (o : E) (fl : Nat) : Tg := fun f v σ m => (o f σ m).bind fun w m => match w with
  | .ref a => attP f.p m a fl v σ
  | _ => .bad 95
def idxP (m : M) (a : Nat) (k v : Val) (σ : List Val) : R (List Val) := match m.t.get a with
  | some o => match o with
    | .lst xs => match k with
      | .int i => match ixOf i xs.length with
        | some j => .ok σ (putObj m a (.lst (setN v xs j)))
        | .none => .bad 96
      | _ => .bad 96
    | .dct kvs => opt2 97 (dput m k v kvs) fun kvs' => .ok σ (putObj m a (.dct kvs'))
    | _ => .bad 98
  | .none => .bad 98
def idx (o i : E) : Tg := fun f v σ m => (o f σ m).bind fun w m => (i f σ m).bind fun k m => match w with
  | .ref a => idxP m a k v σ
  | _ => .bad 99
end Tg
def block (f : Cx) : List S → List Val → M → R Fl
  | [], σ, m => .ok (.next σ) m
  | s :: r, σ, m => (s f σ m).bind fun fl m => match fl with
    | .next σ => block f r σ m
    | fl => .ok fl m
def whlN (f : Cx) (t : E) (b : List S) : Nat → List Val → M → R Fl
  | 0, _, _ => .bad 100
  | n + 1, σ, m => (t f σ m).bind fun v m => truth v fun x => match x with
    | false => .ok (.next σ) m
    | true => (block f b σ m).bind fun fl m => match fl with
      | .next σ => whlN f t b n σ m
      | .cont σ => whlN f t b n σ m
      | .brk σ => .ok (.next σ) m
      | .ret v => .ok (.ret v) m
def forN (f : Cx) (t : Tg) (w : ItV) (b : List S) : Nat → Nat → List Val → M → R Fl
  | 0, _, _, _ => .bad 100
  | n + 1, i, σ, m => match w.next m i with
    | .done => .ok (.next σ) m
    | .item v => (t f v σ m).bind fun σ m => (block f b σ m).bind fun fl m => match fl with
      | .next σ => forN f t w b n (i + 1) σ m
      | .cont σ => forN f t w b n (i + 1) σ m
      | .brk σ => .ok (.next σ) m
      | .ret v => .ok (.ret v) m
    | .odd => .bad 101
namespace S
def bad (n : Nat) : S := fun _ _ _ => .bad (1000 + n)
def expr (e : E) : S := fun f σ m => (e f σ m).bind fun _ m => .ok (.next σ) m
def asg (t : Tg) (e : E) : S := fun f σ m => (e f σ m).bind fun v m => (t f v σ m).bind fun σ m => .ok (.next σ) m
def augLoc (i : Nat) (op : Bin) (e : E) : S := fun f σ m => (E.loc i f σ m).bind fun x m => (e f σ m).bind fun y m => (augOp op x y m).bind fun z m => .ok (.next (setN z σ i)) m
def augAtt (o : E) (fl : Nat) (op : Bin) (e : E) : S := fun f σ m => (o f σ m).bind fun w m => match w with
  | .ref a => (E.attI m a fl).bind fun x m => (e f σ m).bind fun y m => (augOp op x y m).bind fun z m => (Tg.attP f.p m a fl z σ).bind fun σ m => .ok (.next σ) m
  | _ => .bad 102
def ite (t : E) (a b : List S) : S := fun f σ m => (t f σ m).bind fun v m => truth v fun x => match x with
  | true => block f a σ m
  | false => block f b σ m
def whl (t : E) (b : List S) : S := fun f σ m => whlN f t b TRUE σ m
def «for» (t : Tg) (it : It) (b : List S) : S := fun f σ m => (it f σ m).bind fun w m => forN f t w b TRUE 0 σ m
def ret (e : E) : S := fun f σ m => (e f σ m).bind fun v m => .ok (.ret v) m
def pass : S := fun _ σ m => .ok (.next σ) m
def brk : S := fun _ σ m => .ok (.brk σ) m
def cont : S := fun _ σ m => .ok (.cont σ) m
def rais (e : E) : S := fun f σ m => (e f σ m).bind fun v m => match v with
  | .exn c ws => .ex (.exn c ws) m
  | _ => .bad 103
def bindX (n : Option Nat) (v : Val) (σ : List Val) : List Val := match n with
  | some i => setN v σ i
  | .none => σ
def tri (b : List S) (t : Ty) (n : Option Nat) (h : List S) : S := fun f σ m => match block f b σ m with
  | .ok fl m => .ok fl m
  | .ex v m => opt2 104 (hasTy f.p m v t) fun y => match y with
    | true => (block f h (bindX n v σ) m).bind fun fl m => match fl with
      | .next σ' => .ok (.next (bindX n .und σ')) m
      | fl => .ok fl m
    | false => .ex v m
  | .bad n => .bad n
def delFrom (a lo : E) : S := fun f σ m => (a f σ m).bind fun v m => (lo f σ m).bind fun l m => match l with
  | .int i => (lstW m v fun x xs => .ok .none (putObj m x (.lst (xs.take (cutOf i xs.length))))).bind fun _ m => .ok (.next σ) m
  | _ => .bad 105
end S
structure Fn where
  np : Nat
  ns : Nat
  body : List S
structure Lm where
  ps : List Nat
  body : E
structure Prog where
  fns : Tree Fn
  lams : Tree Lm
  classes : Tree Cls
def endOf (r : R Fl) : R Val := match r with
  | .ok fl m => match fl with
    | .ret v => .ok v m
    | .next _ => .ok .none m
    | _ => .bad 106
  | .ex v m => .ex v m
  | .bad n => .bad n
def runFn (fn : Fn) (f : Cx) (vs : List Val) (m : M) : R Val := match Nat.beq vs.length fn.np with
  | true => endOf (block f fn.body (fill fn.ns vs) m)
  | false => .bad 107
def setAll : List Nat → List Val → List Val → List Val
  | p :: ps, v :: vs, σ => setAll ps vs (setN v σ p)
  | _, _, σ => σ
def runLm (l : Lm) (f : Cx) (σ vs : List Val) (m : M) : R Val := l.body f (setAll l.ps vs σ) m
def cxN (p : Prog) (eqm : Nat) : Nat → Cx
  | 0 => ⟨p.classes, eqm, fun _ _ _ => .bad 108, fun _ _ _ _ => .bad 108⟩
  | n + 1 => ⟨p.classes, eqm, fun g vs m => match p.fns.get g with
    | some fn => runFn fn (cxN p eqm n) vs m
    | .none => .bad 109, fun k σ vs m => match p.lams.get k with
    | some l => runLm l (cxN p eqm n) σ vs m
    | .none => .bad 110⟩
def isTrue : R Val → Bool
  | .ok v _ => match v with
    | .bool b => b
    | _ => false
  | _ => false
end MP
set_option Elab.async false
set_option linter.all false
set_option maxRecDepth 100000
set_option maxHeartbeats 4000000
/-! Snd1: the small language's states against the hand layer's heaps; the first rules. -/
namespace Snd
open PySem PySem.Spec PyProof.Rows L2

/-! ### the tree -/
theorem beqF {a b : Nat} (h : ¬ a = b) : Nat.beq a b = false := by
  cases e : Nat.beq a b with
  | false => rfl
  | true => exact absurd (Nat.eq_of_beq_eq_true e) h
def Full (t : MP.Tree MP.Obj) (n : Nat) : Prop := ∀ j, (t.get j).isSome = true ↔ j < n
theorem get_node (v : MP.Obj) (l r : MP.Tree MP.Obj) (i : Nat) : (MP.Tree.node v l r).get i = if i = 0 then some v else if i % 2 = 1 then l.get (i / 2) else r.get (i / 2 - 1) := by
  show (match Nat.beq i 0 with | true => some v | false => match Nat.beq (i % 2) 1 with | true => l.get (i / 2) | false => r.get (i / 2 - 1)) = _
  by_cases h : i = 0
  · subst h; rfl
  · have h0 : Nat.beq i 0 = false := beqF h
    rw [h0, if_neg h]
    by_cases q : i % 2 = 1
    · have q0 : Nat.beq (i % 2) 1 = true := by rw [Nat.beq_eq]; exact q
      rw [q0, if_pos q]
    · have q0 : Nat.beq (i % 2) 1 = false := beqF q
      rw [q0, if_neg q]
theorem set_node (x v : MP.Obj) (l r : MP.Tree MP.Obj) (i : Nat) : (MP.Tree.node v l r).set x i = if i = 0 then .node x l r else if i % 2 = 1 then .node v (l.set x (i / 2)) r else .node v l (r.set x (i / 2 - 1)) := by
  show (match Nat.beq i 0 with | true => MP.Tree.node x l r | false => match Nat.beq (i % 2) 1 with | true => .node v (l.set x (i / 2)) r | false => .node v l (r.set x (i / 2 - 1))) = _
  by_cases h : i = 0
  · subst h; rfl
  · have h0 : Nat.beq i 0 = false := beqF h
    rw [h0, if_neg h]
    by_cases q : i % 2 = 1
    · have q0 : Nat.beq (i % 2) 1 = true := by rw [Nat.beq_eq]; exact q
      rw [q0, if_pos q]
    · have q0 : Nat.beq (i % 2) 1 = false := beqF q
      rw [q0, if_neg q]
theorem Full.get_set {x : MP.Obj} : ∀ {t : MP.Tree MP.Obj} {n i : Nat}, Full t n → i ≤ n → ∀ j, (t.set x i).get j = if j = i then some x else t.get j
  | .nil, n, i, h, hi, j => by
    have hn : n = 0 := by
      rcases Nat.eq_zero_or_pos n with z | z
      · exact z
      · have := (h 0).mpr z
        cases this
    have : i = 0 := by omega
    subst this
    show (MP.Tree.node x .nil .nil).get j = _
    rw [get_node]
    by_cases hj : j = 0
    · rw [if_pos hj, if_pos hj]
    · rw [if_neg hj, if_neg hj]
      split <;> rfl
  | .node v l r, n, i, h, hi, j => by
    have hl : Full l (n / 2) := fun q => by
      have z := h (2 * q + 1)
      rw [get_node, if_neg (by omega), if_pos (by omega), show (2 * q + 1) / 2 = q by omega] at z
      rw [z]; omega
    have hr : Full r ((n - 1) / 2) := fun q => by
      have z := h (2 * q + 2)
      rw [get_node, if_neg (by omega), if_neg (by omega), show (2 * q + 2) / 2 - 1 = q by omega] at z
      rw [z]; omega
    have hn : 0 < n := (h 0).mp (by rw [get_node, if_pos rfl]; rfl)
    rw [set_node]
    by_cases h0 : i = 0
    · subst h0
      rw [if_pos rfl, get_node]
      by_cases hj : j = 0
      · rw [if_pos hj, if_pos hj]
      · rw [if_neg hj, if_neg hj, get_node, if_neg hj]
    · rw [if_neg h0]
      by_cases p : i % 2 = 1
      · rw [if_pos p, get_node, get_node]
        by_cases hj : j = 0
        · rw [if_pos hj, if_pos hj, if_neg (by omega)]
        · rw [if_neg hj, if_neg hj]
          by_cases pj : j % 2 = 1
          · rw [if_pos pj, if_pos pj, Full.get_set hl (by omega)]
            by_cases e : j = i
            · rw [if_pos (by omega), if_pos e]
            · rw [if_neg (by omega), if_neg e]
          · rw [if_neg pj, if_neg pj, if_neg (by intro e; subst e; exact pj p)]
      · rw [if_neg p, get_node, get_node]
        by_cases hj : j = 0
        · rw [if_pos hj, if_pos hj, if_neg (by omega)]
        · rw [if_neg hj, if_neg hj]
          by_cases pj : j % 2 = 1
          · rw [if_pos pj, if_pos pj, if_neg (by intro e; subst e; exact p pj)]
          · rw [if_neg pj, if_neg pj, Full.get_set hr (by omega)]
            by_cases e : j = i
            · rw [if_pos (by omega), if_pos e]
            · rw [if_neg (by omega), if_neg e]
theorem Full.alloc {t : MP.Tree MP.Obj} {n : Nat} {x : MP.Obj} (h : Full t n) : Full (t.set x n) (n + 1) := fun j => by
  rw [h.get_set (Nat.le_refl _)]
  by_cases e : j = n
  · rw [if_pos e]; simp; omega
  · rw [if_neg e, h j]; omega
theorem Full.put {t : MP.Tree MP.Obj} {n k : Nat} {x : MP.Obj} (h : Full t n) (hk : k < n) : Full (t.set x k) n := fun j => by
  rw [h.get_set (Nat.le_of_lt hk)]
  by_cases e : j = k
  · rw [if_pos e]; simp; omega
  · rw [if_neg e, h j]

/-! ### values, objects, heaps -/
/-- what stands fast: the written part, the names of attributes, where the classes stand -/
structure Gp where
  K : PySem.W.Frag
  nm : Nat → Str
  nmi : ∀ i j, nm i = nm j → i = j
  ca : Nat → Option Addr
  mg : Str → Option Value
  /-- where the objects that are only read stand: the script, the module's own dicts -/
  ro : List Addr
  /-- the defs: where each stands, its object, its parameters -/
  fn : Nat → Option (Addr × FuncData × List Str)
abbrev Rho := Nat → Option Addr
section
variable (G : Gp) (ρ : Rho) (H : Hp)
mutual
def VR : MP.Val → V → Prop
  | .none, x => x = .non
  | .bool b, x => x = .bl b
  | .int i, x => x = .int i
  | .str s, x => x = .str ⟨s.toArray⟩ ∧ ∀ c ∈ s, c < 128
  | .tup vs, x => ∃ a us, x = .ref a ∧ SqT G.K H a us ∧ VRs vs us
  | .ref k, x => ∃ a, x = .ref a ∧ (G.ro[k]? = some a ∨ ρ k = some a)
  | .cls c, x => ∃ a, x = .ref a ∧ G.ca c = some a
  | _, _ => False
def VRs : List MP.Val → List V → Prop
  | [], us => us = []
  | v :: vs, us => ∃ x r, us = x :: r ∧ VR v x ∧ VRs vs r
end
end
structure Keep (K : PySem.W.Frag) (H H' : Hp) : Prop where
  tup : ∀ a us, SqT K H a us → SqT K H' a us
theorem Keep.refl {K : PySem.W.Frag} {H : Hp} : Keep K H H := ⟨fun _ _ h => h⟩
theorem Keep.trans {K : PySem.W.Frag} {H H1 H2 : Hp} (a : Keep K H H1) (b : Keep K H1 H2) : Keep K H H2 := ⟨fun p us h => b.tup p us (a.tup p us h)⟩
def Le (ρ ρ' : Rho) : Prop := ∀ k a, ρ k = some a → ρ' k = some a
theorem Le.refl {ρ : Rho} : Le ρ ρ := fun _ _ h => h
theorem Le.trans {a b c : Rho} (h : Le a b) (h' : Le b c) : Le a c := fun k x e => h' k x (h k x e)
section
variable {G : Gp} {ρ ρ' : Rho} {H H' : Hp}
mutual
theorem VR.mono (le : Le ρ ρ') (kp : Keep G.K H H') : ∀ {v : MP.Val} {x : V}, VR G ρ H v x → VR G ρ' H' v x
  | .none, _, h => h
  | .bool _, _, h => h
  | .int _, _, h => h
  | .str _, _, h => h
  | .tup vs, _, h => by
    unfold VR at h ⊢
    obtain ⟨a, us, e, q, r⟩ := h
    exact ⟨a, us, e, kp.tup a us q, VRs.mono le kp r⟩
  | .ref k, _, h => by
    unfold VR at h ⊢
    obtain ⟨a, e, q⟩ := h
    exact ⟨a, e, q.imp id (le k a)⟩
  | .cls c, _, h => h
  | .und, _, h => h
  | .byt _, _, h => h
  | .exn _ _, _, h => h
  | .fn _, _, h => h
theorem VRs.mono (le : Le ρ ρ') (kp : Keep G.K H H') : ∀ {vs : List MP.Val} {us : List V}, VRs G ρ H vs us → VRs G ρ' H' vs us
  | [], _, h => h
  | v :: vs, _, h => by
    unfold VRs at h ⊢
    obtain ⟨x, r, e, h1, h2⟩ := h
    exact ⟨x, r, e, VR.mono le kp h1, VRs.mono le kp h2⟩
end
theorem VRs.length : ∀ {vs : List MP.Val} {us : List V}, VRs G ρ H vs us → us.length = vs.length
  | [], _, h => by unfold VRs at h; subst h; rfl
  | v :: vs, _, h => by
    unfold VRs at h
    obtain ⟨x, r, rfl, h1, h2⟩ := h
    simp [VRs.length h2]
theorem VRs.append : ∀ {vs ws : List MP.Val} {us xs : List V}, VRs G ρ H vs us → VRs G ρ H ws xs → VRs G ρ H (vs ++ ws) (us ++ xs)
  | [], _, _, _, h, h' => by unfold VRs at h; subst h; exact h'
  | v :: vs, _, _, _, h, h' => by
    unfold VRs at h
    obtain ⟨x, r, rfl, h1, h2⟩ := h
    show VRs G ρ H (v :: (vs ++ _)) (x :: (r ++ _))
    unfold VRs
    exact ⟨x, _, rfl, h1, VRs.append h2 h'⟩
end
/-- fields, in their order -/
def FR (G : Gp) (ρ : Rho) (H : Hp) : List (Nat × MP.Val) → List (Str × V) → Prop
  | [], us => us = []
  | (f, v) :: fs, us => ∃ x r, us = (G.nm f, x) :: r ∧ VR G ρ H v x ∧ FR G ρ H fs r
/-- a dict's pairs -/
def KR (G : Gp) (ρ : Rho) (H : Hp) : List (MP.Val × MP.Val) → List (Key × V) → Prop
  | [], us => us = []
  | (k, v) :: kvs, us => ∃ q x r, us = (q, x) :: r ∧ VR G ρ H k (kV q) ∧ VR G ρ H v x ∧ KR G ρ H kvs r
/-- a list that is only read: locked, or the written part's -/
def RoL (K : PySem.W.Frag) (H : Hp) (a : Addr) (us : List V) : Prop := (∃ o, H a = some (.frz o (.lst us))) ∨
  ∃ (o : Obj) (its : Array Value) (n : Nat), K.lookup a = some o ∧ o.cls = .type "list" ∧ o.dict = none ∧ o.data = .seq its n ∧ its.size ≤ sizeLine ∧ Vals us its.toList
theorem RoL.sq {K : PySem.W.Frag} {H : Hp} {a : Addr} {us : List V} (h : RoL K H a us) : SqL K H a us := by
  rcases h with h | h
  · exact .inl (.inr h)
  · exact .inr h
def WrO : MP.Obj → Prop
  | .lst _ => True
  | .dct _ => True
  | .ins _ _ => True
  | _ => False
def OR (G : Gp) (ρ : Rho) (H : Hp) (a : Addr) : MP.Obj → Prop
  | .lst vs => ∃ us, H a = some (.lst us) ∧ VRs G ρ H vs us
  | .dct kvs => ∃ us, H a = some (.dK us) ∧ KR G ρ H kvs us
  | .ins c fs => ∃ C dx us, G.ca c = some C ∧ H a = some (.ins C dx us) ∧ FR G ρ H fs us ∧ Cls G.K C ∧ ∀ q ∈ fs, NoAttr G.K C (G.nm q.1)
  | _ => False
/-- what is only read -/
def RoR (G : Gp) (ρ : Rho) (H : Hp) (a : Addr) : MP.Obj → Prop
  | .rol vs => ∃ us, RoL G.K H a us ∧ VRs G ρ H vs us
  | _ => False
structure HR (G : Gp) (ρ : Rho) (m : MP.M) (H : Hp) : Prop where
  full : Full m.t m.n
  dom : ∀ k, (ρ k).isSome = true ↔ G.ro.length ≤ k ∧ k < m.n
  inj : ∀ j k a, ρ j = some a → ρ k = some a → j = k
  obj : ∀ k o a, m.t.get k = some o → ρ k = some a → OR G ρ H a o
  ro : ∀ k a, G.ro[k]? = some a → ∃ o, m.t.get k = some o ∧ RoR G ρ H a o
/-! ### the heap goes on -/
section
variable {G : Gp} {ρ ρ' : Rho} {H H' : Hp} {m : MP.M} {p : Addr} {o : HO}
def Stays (H H' : Hp) (a : Addr) : Prop := ∀ u, H a = some u → H' a = some u
theorem Stays.rd {a : Addr} {u : HO} (h : Stays H H' a) (r : Rd H a u) : Rd H' a u := by
  rcases r with r | ⟨o, r⟩
  · exact .inl (h _ r)
  · exact .inr ⟨o, h _ r⟩
theorem Stays.sqL {K : PySem.W.Frag} {a : Addr} {us : List V} (h : Stays H H' a) (r : SqL K H a us) : SqL K H' a us := by
  rcases r with r | r
  · exact .inl (h.rd r)
  · exact .inr r
theorem Stays.sqT {K : PySem.W.Frag} {a : Addr} {us : List V} (h : Stays H H' a) (r : SqT K H a us) : SqT K H' a us := by
  rcases r with r | r
  · exact .inl (h.rd r)
  · exact .inr r
theorem stays_ne {a : Addr} (h : a ≠ p) : Stays H (upd H p o) a := fun u e => by rw [upd_ne h]; exact e
theorem stays_new {a : Addr} (h : H p = none) : Stays H (upd H p o) a := fun u e => by rw [upd_ne (ne_of_none e h)]; exact e
theorem Keep.new (h : H p = none) : Keep G.K H (upd H p o) := ⟨fun a us q => (stays_new (a := a) h).sqT q⟩
/-- a thing that is written is no tuple -/
def Wr : HO → Prop
  | .lst _ => True
  | .dK _ => True
  | .ins _ _ _ => True
  | _ => False
theorem Keep.write {u : HO} (h : H p = some u) (w : Wr u) : Keep G.K H (upd H p o) := ⟨fun a us q => by
  rcases q with q | q
  · refine .inl ((stays_ne (a := a) ?_).rd q)
    rintro rfl
    rcases q with q | ⟨o', q⟩
    · rw [h] at q; cases q; exact w
    · rw [h] at q; cases q; exact w
  · exact .inr q⟩
theorem FR.mono (le : Le ρ ρ') (kp : Keep G.K H H') : ∀ {fs : List (Nat × MP.Val)} {us : List (Str × V)}, FR G ρ H fs us → FR G ρ' H' fs us
  | [], _, h => h
  | (f, v) :: fs, _, h => by
    obtain ⟨x, r, e, h1, h2⟩ := h
    exact ⟨x, r, e, h1.mono le kp, FR.mono le kp h2⟩
theorem KR.mono (le : Le ρ ρ') (kp : Keep G.K H H') : ∀ {kvs : List (MP.Val × MP.Val)} {us : List (Key × V)}, KR G ρ H kvs us → KR G ρ' H' kvs us
  | [], _, h => h
  | (k, v) :: kvs, _, h => by
    obtain ⟨q, x, r, e, h1, h2, h3⟩ := h
    exact ⟨q, x, r, e, h1.mono le kp, h2.mono le kp, KR.mono le kp h3⟩
theorem OR.mono {a : Addr} {ob : MP.Obj} (h : OR G ρ H a ob) (st : Stays H H' a) (le : Le ρ ρ') (kp : Keep G.K H H') : OR G ρ' H' a ob := by
  cases ob with
  | lst vs => obtain ⟨us, e, r⟩ := h; exact ⟨us, st _ e, r.mono le kp⟩
  | dct kvs => obtain ⟨us, e, r⟩ := h; exact ⟨us, st _ e, r.mono le kp⟩
  | ins c fs => obtain ⟨C, dx, us, e0, e, r, cl, na⟩ := h; exact ⟨C, dx, us, e0, st _ e, r.mono le kp, cl, na⟩
  | _ => exact h
theorem RoR.mono {a : Addr} {ob : MP.Obj} (h : RoR G ρ H a ob) (fz : ∀ o us, H a = some (.frz o us) → H' a = some (.frz o us)) (le : Le ρ ρ') (kp : Keep G.K H H') : RoR G ρ' H' a ob := by
  cases ob with
  | rol vs => obtain ⟨us, e, r⟩ := h; exact ⟨us, e.imp (fun ⟨o, z⟩ => ⟨o, fz _ _ z⟩) id, r.mono le kp⟩
  | _ => exact h
/-- what our objects are is tracked -/
theorem OR.wr {a : Addr} {ob : MP.Obj} (h : OR G ρ H a ob) : ∃ u, H a = some u ∧ Wr u := by
  cases ob with
  | lst vs => obtain ⟨us, e, r⟩ := h; exact ⟨_, e, trivial⟩
  | dct kvs => obtain ⟨us, e, r⟩ := h; exact ⟨_, e, trivial⟩
  | ins c fs => obtain ⟨C, dx, us, e0, e, r, _⟩ := h; exact ⟨_, e, trivial⟩
  | _ => exact h.elim
theorem HR.at_ (h : HR G ρ m H) {k : Nat} {a : Addr} (e : ρ k = some a) : ∃ o, m.t.get k = some o ∧ OR G ρ H a o := by
  have := ((h.dom k).mp (by rw [e]; rfl)).2
  obtain ⟨o, ho⟩ := Option.isSome_iff_exists.mp ((h.full k).mpr this)
  exact ⟨o, ho, h.obj k o a ho e⟩
/-- what is ours can be written -/
theorem HR.wr (h : HR G ρ m H) {k : Nat} {a : Addr} (e : ρ k = some a) : ∃ u, H a = some u ∧ Wr u := let ⟨_, _, z⟩ := h.at_ e; z.wr
/-- from here to there: our objects stay ours, the others stay as they are -/
structure Ext (G : Gp) (ρ : Rho) (H : Hp) (ρ' : Rho) (H' : Hp) : Prop where
  le : Le ρ ρ'
  kp : Keep G.K H H'
  fr : ∀ a u, H a = some u → (∀ k, ρ k ≠ some a) → H' a = some u ∧ ∀ k, ρ' k ≠ some a
theorem Ext.refl : Ext G ρ H ρ H := ⟨Le.refl, Keep.refl, fun _ _ e n => ⟨e, n⟩⟩
theorem Ext.trans {ρ2 : Rho} {H2 : Hp} (a : Ext G ρ H ρ' H') (b : Ext G ρ' H' ρ2 H2) : Ext G ρ H ρ2 H2 :=
  ⟨a.le.trans b.le, a.kp.trans b.kp, fun p u e n => let ⟨e1, n1⟩ := a.fr p u e n; b.fr p u e1 n1⟩
def rhoAt (ρ : Rho) (n : Nat) (p : Addr) : Rho := fun k => if k = n then some p else ρ k
theorem rhoAt_self {n : Nat} : rhoAt ρ n p n = some p := if_pos rfl
theorem rhoAt_lt {n k : Nat} (h : k < n) : rhoAt ρ n p k = ρ k := if_neg (Nat.ne_of_lt h)
theorem Le.new (h : HR G ρ m H) : Le ρ (rhoAt ρ m.n p) := fun k a e => by
  have : k < m.n := ((h.dom k).mp (by rw [e]; rfl)).2
  rw [rhoAt_lt this]
  exact e
theorem VR.ext {v : MP.Val} {x : V} (h : VR G ρ H v x) (e : Ext G ρ H ρ' H') : VR G ρ' H' v x := h.mono e.le e.kp
theorem VRs.ext {v : List MP.Val} {x : List V} (h : VRs G ρ H v x) (e : Ext G ρ H ρ' H') : VRs G ρ' H' v x := h.mono e.le e.kp
/-- something new that is no object of ours -/
theorem HR.beside (h : HR G ρ m H) (hp : H p = none) : HR G ρ m (upd H p o) ∧ Ext G ρ H ρ (upd H p o) :=
  ⟨⟨h.full, h.dom, h.inj, fun k ob a e1 e2 => (h.obj k ob a e1 e2).mono (stays_new hp) Le.refl (Keep.new hp), fun k a e => let ⟨ob, e1, r⟩ := h.ro k a e; ⟨ob, e1, r.mono (fun _ _ z => stays_new hp _ z) Le.refl (Keep.new hp)⟩⟩,
    ⟨Le.refl, Keep.new hp, fun a u e n => ⟨stays_new hp _ e, n⟩⟩⟩
/-- an object that stands there comes to be ours -/
theorem HR.adopt {ob : MP.Obj} (h : HR G ρ m H) (hn : ∀ k, ρ k ≠ some p) (hl : G.ro.length ≤ m.n) (new : OR G (rhoAt ρ m.n p) H p ob) : HR G (rhoAt ρ m.n p) ⟨m.n + 1, m.t.set ob m.n⟩ H := by
  have gs := h.full.get_set (x := ob) (Nat.le_refl _)
  have old : ∀ {k : Nat} {ok : MP.Obj}, m.t.get k = some ok → k < m.n := fun {k ok} e => (h.full k).mp (by rw [e]; rfl)
  refine ⟨h.full.alloc, fun k => ?_, fun j k a r1 r2 => ?_, fun k ok a e1 e2 => ?_, fun k a e => ?_⟩
  · by_cases hk : k = m.n
    · subst hk; rw [rhoAt_self]; simp; exact hl
    · unfold rhoAt
      rw [if_neg hk, h.dom k]
      show _ ∧ k < m.n ↔ _ ∧ k < m.n + 1
      omega
  · by_cases hj : j = m.n
    · by_cases hk : k = m.n
      · rw [hj, hk]
      · subst hj
        rw [rhoAt_self] at r1
        cases r1
        unfold rhoAt at r2
        rw [if_neg hk] at r2
        exact absurd r2 (hn k)
    · unfold rhoAt at r1
      rw [if_neg hj] at r1
      by_cases hk : k = m.n
      · subst hk
        rw [rhoAt_self] at r2
        cases r2
        exact absurd r1 (hn j)
      · unfold rhoAt at r2
        rw [if_neg hk] at r2
        exact h.inj j k a r1 r2
  · have e1 : (m.t.set ob m.n).get k = some ok := e1
    rw [gs] at e1
    by_cases hk : k = m.n
    · rw [if_pos hk] at e1
      cases e1
      subst hk
      rw [rhoAt_self] at e2
      cases e2
      exact new
    · rw [if_neg hk] at e1
      rw [rhoAt_lt (old e1)] at e2
      exact (h.obj k ok a e1 e2).mono (fun _ z => z) (Le.new h) Keep.refl
  · obtain ⟨o', e1, r⟩ := h.ro k a e
    refine ⟨o', ?_, r.mono (fun _ _ z => z) (Le.new h) Keep.refl⟩
    show (m.t.set ob m.n).get k = some o'
    rw [gs, if_neg (Nat.ne_of_lt (old e1))]
    exact e1
theorem HR.roLen (h : HR G ρ m H) : G.ro.length ≤ m.n := by
  rcases Nat.eq_zero_or_pos G.ro.length with z | z
  · omega
  · have hlt : G.ro.length - 1 < G.ro.length := by omega
    obtain ⟨o, e, _⟩ := h.ro (G.ro.length - 1) _ (List.getElem?_eq_getElem hlt)
    have := (h.full _).mp (show (m.t.get (G.ro.length - 1)).isSome = true by rw [e]; rfl)
    omega
/-- a new object of ours -/
theorem HR.alloc {ob : MP.Obj} (h : HR G ρ m H) (hp : H p = none) (new : OR G (rhoAt ρ m.n p) (upd H p o) p ob) : HR G (rhoAt ρ m.n p) ⟨m.n + 1, m.t.set ob m.n⟩ (upd H p o) ∧ Ext G ρ H (rhoAt ρ m.n p) (upd H p o) := by
  obtain ⟨h1, e1⟩ := h.beside (o := o) hp
  have no : ∀ k, ρ k ≠ some p := fun k e => by
    obtain ⟨u, z, _⟩ := h.wr e
    rw [hp] at z; cases z
  refine ⟨h1.adopt no h.roLen new, ⟨Le.new h, Keep.new hp, fun a u e n => ⟨stays_new hp _ e, fun k z => ?_⟩⟩⟩
  unfold rhoAt at z
  split at z
  · cases z; rw [hp] at e; cases e
  · exact n k z
/-- an object of ours is written -/
theorem HR.put {ob' : MP.Obj} {k : Nat} (h : HR G ρ m H) (hr : ρ k = some p) (new : OR G ρ (upd H p o) p ob') : HR G ρ (MP.putObj m k ob') (upd H p o) ∧ Ext G ρ H ρ (upd H p o) := by
  have hlt : k < m.n := ((h.dom k).mp (by rw [hr]; rfl)).2
  have gs := h.full.get_set (x := ob') (Nat.le_of_lt hlt)
  obtain ⟨u, hp, hu⟩ := h.wr hr
  have kp : Keep G.K H (upd H p o) := Keep.write hp hu
  refine ⟨⟨h.full.put hlt, h.dom, h.inj, fun j oj a e1 e2 => ?_, fun j a e => ?_⟩, ⟨Le.refl, kp, fun a u' e n => ⟨?_, n⟩⟩⟩
  · have e1 : (m.t.set ob' k).get j = some oj := e1
    rw [gs] at e1
    by_cases hj : j = k
    · rw [if_pos hj] at e1
      cases e1
      subst hj
      rw [hr] at e2
      cases e2
      exact new
    · rw [if_neg hj] at e1
      refine (h.obj j oj a e1 e2).mono (stays_ne ?_) Le.refl kp
      rintro rfl
      exact hj (h.inj j k _ e2 hr)
  · obtain ⟨o', e1, r⟩ := h.ro j a e
    refine ⟨o', ?_, r.mono (fun o2 us z => ?_) Le.refl kp⟩
    · show (m.t.set ob' k).get j = some o'
      rw [gs, if_neg ?_]
      · exact e1
      · rintro rfl
        have := ((h.dom j).mp (by rw [hr]; rfl)).1
        have := (List.getElem?_eq_some_iff.mp e).1
        omega
    · refine (stays_ne (p := p) ?_) _ z
      rintro rfl
      rw [hp] at z; cases z; exact hu.elim
  · refine (stays_ne (p := p) ?_) _ e
    rintro rfl
    exact n k hr
end
theorem HR.other {G : Gp} {ρ : Rho} {H : Hp} {m : MP.M} {p : Addr} {o u : HO} (h : HR G ρ m H) (hn : ∀ k, ρ k ≠ some p) (hp : H p = some u) (hu : Wr u) : HR G ρ m (upd H p o) := by
  have kp : Keep G.K H (upd H p o) := Keep.write hp hu
  refine ⟨h.full, h.dom, h.inj, fun k ob a e1 e2 => (h.obj k ob a e1 e2).mono (stays_ne ?_) Le.refl kp, fun k a e => let ⟨ob, e1, r⟩ := h.ro k a e; ⟨ob, e1, r.mono (fun o' us z => stays_ne (p := p) ?_ _ z) Le.refl kp⟩⟩
  · rintro rfl
    exact hn k e2
  · rintro rfl
    rw [hp] at z; cases z; exact hu.elim
/-- what is wanted of an exception; which slots there may be -/
structure XPost where
  post : Rho → Hp → MP.Val → Prop
  sg : L2.St → Prop
/-- what is known behind a run -/
def Post (G : Gp) {α β : Type} (Rl : Rho → Hp → α → β → Prop) (W : XPost) (ρ : Rho) (H : Hp) (Q : β → Hp → Prop) : MP.R α → Prop
  | .ok v m => ∀ ρ' H' x, Ext G ρ H ρ' H' → HR G ρ' m H' → Rl ρ' H' v x → Q x H'
  | .ex v m => ∀ ρ' H', Ext G ρ H ρ' H' → HR G ρ' m H' → W.post ρ' H' v
  | .bad _ => False
section
variable {G : Gp} {α β γ δ : Type} {Rl : Rho → Hp → α → β → Prop} {Rl' : Rho → Hp → γ → δ → Prop} {W : XPost} {ρ ρ' : Rho} {H H' : Hp} {Q : β → Hp → Prop}
theorem Post.at {r : MP.R α} (h : Post G Rl W ρ H Q r) (ex : Ext G ρ H ρ' H') : Post G Rl W ρ' H' Q r := by
  cases r with
  | ok v m => exact fun ρ2 H2 x e hr vr => h ρ2 H2 x (ex.trans e) hr vr
  | ex v m => exact fun ρ2 H2 e hr => h ρ2 H2 (ex.trans e) hr
  | bad n => exact h
theorem Post.mono {Q' : β → Hp → Prop} {r : MP.R α} (h : Post G Rl W ρ H Q r) (hq : ∀ x H, Q x H → Q' x H) : Post G Rl W ρ H Q' r := by
  cases r with
  | ok v m => exact fun ρ2 H2 x e hr vr => hq _ _ (h ρ2 H2 x e hr vr)
  | ex v m => exact h
  | bad n => exact h
/-- one behind the other -/
def Then (G : Gp) (Rl : Rho → Hp → α → β → Prop) (Rl' : Rho → Hp → γ → δ → Prop) (W : XPost) (ρ : Rho) (H : Hp) (r : MP.R α) (k : α → MP.M → MP.R γ) (Q : δ → Hp → Prop) : β → Hp → Prop :=
  fun x H1 => ∃ ρ1 v m, r = .ok v m ∧ Ext G ρ H ρ1 H1 ∧ HR G ρ1 m H1 ∧ Rl ρ1 H1 v x ∧ Post G Rl' W ρ1 H1 Q (k v m)
theorem Post.bind {r : MP.R α} {k : α → MP.M → MP.R γ} {Q : δ → Hp → Prop} (h : Post G Rl' W ρ H Q (r.bind k)) : Post G Rl W ρ H (Then G Rl Rl' W ρ H r k Q) r := by
  cases r with
  | ok v m => exact fun ρ1 H1 x ex hr vr => ⟨ρ1, v, m, rfl, ex, hr, vr, Post.at (r := k v m) h ex⟩
  | ex v m => exact h
  | bad n => exact h
end
/-- the slots -/
structure SR (G : Gp) (W : XPost) (ρ : Rho) (H : Hp) (σm : List MP.Val) (σ : L2.St) : Prop where
  len : σ.length = σm.length
  at_ : ∀ i v, MP.nth σm i = some v → v ≠ .und → ∃ x, σ[i]? = some (some x) ∧ VR G ρ H v x
  sg : W.sg σ
def noPost : XPost := ⟨fun _ _ _ => False, fun _ => True⟩
theorem SR.free {G : Gp} {W : XPost} {ρ : Rho} {H : Hp} {σm : List MP.Val} {σ : L2.St} (h : SR G W ρ H σm σ) : SR G noPost ρ H σm σ := ⟨h.len, h.at_, trivial⟩
theorem SR.ext {G : Gp} {W : XPost} {ρ ρ' : Rho} {H H' : Hp} {σm : List MP.Val} {σ : L2.St} (h : SR G W ρ H σm σ) (ex : Ext G ρ H ρ' H') : SR G W ρ' H' σm σ :=
  ⟨h.len, fun i v e n => let ⟨x, e1, r⟩ := h.at_ i v e n; ⟨x, e1, r.ext ex⟩, h.sg⟩
theorem nth_set (v : MP.Val) : ∀ (σm : List MP.Val) (i j : Nat), MP.nth (MP.setN v σm i) j = if j = i ∧ i < σm.length then some v else MP.nth σm j
  | [], i, j => by
    show MP.nth [] j = _
    simp
  | x :: r, 0, j => by
    show MP.nth (v :: r) j = _
    cases j with
    | zero => simp [MP.nth]
    | succ j => simp [MP.nth]
  | x :: r, i + 1, j => by
    show MP.nth (x :: MP.setN v r i) j = _
    cases j with
    | zero => simp [MP.nth]
    | succ j =>
      show MP.nth (MP.setN v r i) j = _
      rw [nth_set v r i j]
      simp [MP.nth]
theorem setN_length (v : MP.Val) : ∀ (σm : List MP.Val) (i : Nat), (MP.setN v σm i).length = σm.length
  | [], _ => rfl
  | _ :: _, 0 => rfl
  | x :: r, i + 1 => by
    show (x :: MP.setN v r i).length = _
    simp [setN_length v r i]
theorem SR.set {G : Gp} {W : XPost} {ρ : Rho} {H : Hp} {σm : List MP.Val} {σ : L2.St} {v : MP.Val} {x : V} (h : SR G W ρ H σm σ) (r : VR G ρ H v x) (i : Nat) (hs : W.sg (σ.set i (some x))) : SR G W ρ H (MP.setN v σm i) (σ.set i (some x)) := by
  refine ⟨by rw [List.length_set, setN_length, h.len], fun j w e n => ?_, hs⟩
  rw [nth_set] at e
  by_cases hj : j = i ∧ i < σm.length
  · rw [if_pos hj] at e
    cases e
    obtain ⟨rfl, hi⟩ := hj
    exact ⟨x, by rw [List.getElem?_set_self (by rw [h.len]; exact hi)], r⟩
  · rw [if_neg hj] at e
    obtain ⟨y, e1, r1⟩ := h.at_ j w e n
    refine ⟨y, ?_, r1⟩
    by_cases hji : j = i
    · subst hji
      have : ¬ j < σm.length := fun z => hj ⟨rfl, z⟩
      obtain ⟨q, _⟩ := List.getElem?_eq_some_iff.mp e1
      rw [h.len] at q
      exact absurd q this
    · rw [List.getElem?_set_ne (Ne.symm hji)]
      exact e1
/-- an expression's reading by its run -/
def trE (G : Gp) (f : MP.Cx) (W : XPost) (c : MP.E) : TE := fun σ H Q => ∃ ρ σm m, SR G W ρ H σm σ ∧ HR G ρ m H ∧ Post G (VR G) W ρ H Q (c f σm m)
def trL (G : Gp) (f : MP.Cx) (W : XPost) (cs : List MP.E) : TA := fun σ H Q => ∃ ρ σm m, SR G W ρ H σm σ ∧ HR G ρ m H ∧ Post G (VRs G) W ρ H Q (MP.evL f cs σm m)
/-- a test's -/
def trT (G : Gp) (f : MP.Cx) (W : XPost) (c : MP.E) : TT := fun σ H Q => trE G f W c σ H fun x H1 => ∃ b, x = .bl b ∧ Q b H1
end Snd
set_option Elab.async false
set_option linter.all false
set_option maxRecDepth 100000
set_option maxHeartbeats 4000000
/-! Snd2: what a piece of text keeps; names, tests, operators. -/
namespace Snd
open PySem PySem.Spec PyProof.Rows L2

/-! ### the piece of text, where it runs -/
/-- room for d frames -/
structure RoomD (d : Nat) (A : Around) : Prop where
  hd : A.handled = none
  dp : A.depth + d + 5 < recursionLimit
  un : A.units + 4 * d + 400 < cLine
theorem RoomD.mono {j k : Nat} {A : Around} (r : RoomD k A) (h : j ≤ k) : RoomD j A := ⟨r.hd, by have := r.dp; omega, by have := r.un; omega⟩
/-- an exception as it lies: its class, its own dict -/
def ER (G : Gp) (ρ : Rho) (H : Hp) : MP.Val → Value → Option Addr → Prop
  | .exn c vs, cls, d => ∃ C, G.ca c = some C ∧ cls = .ref C ∧ vs = [] ∧ d = none
  | _, _, _ => False
/-- what is wanted of an exception that a call lets out -/
def wE (G : Gp) (W : XPost) : XK := fun cls d H => ∃ ρ v, ER G ρ H v cls d ∧ W.post ρ H v
def wx (G : Gp) (W : XPost) : WX := fun cls d σ H => W.sg σ ∧ wE G W cls d H
/-- a call of the def g, in any state -/
def CallOk (G : Gp) (P : Program) (w : World) (base : Heap) (cx : MP.Cx) (d g : Nat) : Prop :=
  ∀ (f : Addr) (fd : FuncData) (ps : List Str), G.fn g = some (f, fd, ps) → ∀ (A : Around) (outer : List Env) (s : Shared) (H : Hp) (args : Args) (us : List Value) (vs : List V) (Q : VK) (W : XPost) (ρ : Rho) (ws : List MP.Val) (m : MP.M),
    RoomD d A → Env0 P w G.K G.mg base A outer s H → BindsTo s fd args (ps.zip us) → Vals vs us → HR G ρ m H → VRs G ρ H ws vs → ws.length = ps.length → Post G (VR G) W ρ H Q (cx.call g ws m) →
    codeAny (model P w) A (.call (.ref f) args) (CR (CX P w) outer P w H s Q (wE G W)) s
/-- a text's names, its scope, the calls that it makes, the room that it has -/
structure Cn where
  N : List Str
  sc : Scope
  f : MP.Cx
  d : Nat
  /-- the cells that were made here -/
  fn : Str → Bool
  /-- stores may be -/
  opn : Bool
  /-- a frame of its own: a try may be -/
  top : Bool
/-- X is such a place -/
structure Fit (G : Gp) (Γ : Cn) (W : XPost) (X : Cx) : Prop where
  hK : X.K = G.K
  hmg : X.mg = G.mg
  hN : X.N = Γ.N
  hsc : X.env.scope = Γ.sc
  calm : X.calm = true
  nd : Γ.N.Nodup
  room : RoomD Γ.d X.A
  hfn : X.fn = Γ.fn
  calls : ∀ g, CallOk G X.prog X.w X.base Γ.f (Γ.d - 1) g
  takes : Takes X (wx G W)
  passes : PassesOwn (model X.prog X.w) X.A X.env X.xe
  opn : Γ.opn = true → ∀ σ i x, W.sg σ → W.sg (σ.set i x)
  top : Γ.top = true → X.stack = X.env :: X.outer ∧ X.env.frame = some X.env.locals
def OkE (G : Gp) (Γ : Cn) (e : Expr) (c : MP.E) : Prop := ∀ (W : XPost) (X : Cx), Fit G Γ W X → PE X e (trE G Γ.f W c)
def OkT (G : Gp) (Γ : Cn) (e : Expr) (c : MP.E) : Prop := ∀ (W : XPost) (X : Cx), Fit G Γ W X → PT X e (trT G Γ.f W c)
def OkW (G : Gp) (Γ : Cn) (e : Expr) (c : MP.E) : Prop := ∀ (W : XPost) (X : Cx), Fit G Γ W X → PW X e (trT G Γ.f W c)
def OkA (G : Gp) (Γ : Cn) (es : List Expr) (cs : List MP.E) : Prop := ∀ (W : XPost) (X : Cx), Fit G Γ W X → PA X es (trL G Γ.f W cs)

theorem PE.weak {X : Cx} {e : Expr} {t t' : TE} (h : PE X e t) (hw : ∀ σ H Q, t' σ H Q → t σ H Q) : PE X e t' := ⟨fun pins s σ H Q I q => h.run pins s σ H Q I (hw σ H Q q)⟩
theorem PT.weak {X : Cx} {e : Expr} {t t' : TT} (h : PT X e t) (hw : ∀ σ H Q, t' σ H Q → t σ H Q) : PT X e t' := ⟨fun pins s σ H Q I q => h.run pins s σ H Q I (hw σ H Q q)⟩
theorem PW.weak {X : Cx} {e : Expr} {t t' : TT} (h : PW X e t) (hw : ∀ σ H Q, t' σ H Q → t σ H Q) : PW X e t' := ⟨fun wh pins s σ H Q I q => h.run wh pins s σ H Q I (hw σ H Q q)⟩
theorem PA.weak {X : Cx} {es : List Expr} {t t' : TA} (h : PA X es t) (hw : ∀ σ H Q, t' σ H Q → t σ H Q) : PA X es t' := ⟨fun pos pins s σ H Q I q => h.run pos pins s σ H Q I (hw σ H Q q)⟩

section
variable {G : Gp} {Γ : Cn} {W : XPost} {σ : L2.St} {H : Hp} {f : MP.Cx}
theorem trE.mono {c : MP.E} {Q Q' : VK} (h : trE G f W c σ H Q) (hq : ∀ x H, Q x H → Q' x H) : trE G f W c σ H Q' := by
  obtain ⟨ρ, σm, m, sr, hr, p⟩ := h
  exact ⟨ρ, σm, m, sr, hr, p.mono hq⟩
/-- the state ahead of a run that goes on -/
structure Now (G : Gp) (f : MP.Cx) (W : XPost) (σ : L2.St) (H : Hp) {α β : Type} (Rl : Rho → Hp → α → β → Prop) (Q : β → Hp → Prop) (ρ : Rho) (σm : List MP.Val) (m : MP.M) (r : MP.R α) : Prop where
  sr : SR G W ρ H σm σ
  hr : HR G ρ m H
  post : Post G Rl W ρ H Q r
/-- one more expression is run -/
theorem step {γ δ : Type} {Rl' : Rho → Hp → γ → δ → Prop} {c : MP.E} {k : MP.Val → MP.M → MP.R γ} {Q : δ → Hp → Prop} {Q1 : VK} {ρ : Rho} {σm : List MP.Val} {m : MP.M} (sr : SR G W ρ H σm σ) (hr : HR G ρ m H)
    (p : Post G Rl' W ρ H Q ((c f σm m).bind k))
    (h : ∀ ρ1 v m1 x H1, SR G W ρ1 H1 σm σ → HR G ρ1 m1 H1 → VR G ρ1 H1 v x → Ext G ρ H ρ1 H1 → Post G Rl' W ρ1 H1 Q (k v m1) → Q1 x H1) : trE G f W c σ H Q1 :=
  ⟨ρ, σm, m, sr, hr, p.bind.mono fun x H1 ⟨ρ1, v, m1, _, ex, hr1, vr, q⟩ => h ρ1 v m1 x H1 (sr.ext ex) hr1 vr ex q⟩
theorem Post.done {α β : Type} {Rl : Rho → Hp → α → β → Prop} {ρ : Rho} {Q : β → Hp → Prop} {v : α} {m : MP.M} {x : β} (p : Post G Rl W ρ H Q (.ok v m)) (hr : HR G ρ m H) (r : Rl ρ H v x) : Q x H := p ρ H x Ext.refl hr r

/-! ### names, constants -/
theorem ok_loc {i : Nat} {x : Str} {pos : Pos} (hN : Γ.N[i]? = some x) (hv : Vis Γ.sc x) (hd : (x == ("__debug__" : Str)) = false := by decide) (hcd : (x == ("__classdict__" : Str)) = false := by decide) : OkE G Γ (.Name x pos) (.loc i) := fun W X F => by
  refine PE.weak (pe_var (i := i) (by rw [F.hN]; exact hN) (by rw [F.hsc]; exact hv) hd hcd) fun σ H Q ⟨ρ, σm, m, sr, hr, p⟩ => ?_
  have p : Post G (VR G) W ρ H Q (match MP.nth σm i with | some v => MP.known v fun v => .ok v m | .none => .bad 40) := p
  cases e : MP.nth σm i with
  | none => rw [e] at p; exact p.elim
  | some v =>
    rw [e] at p
    by_cases hu : v = .und
    · subst hu; exact False.elim p
    · obtain ⟨y, e1, r⟩ := sr.at_ i v e hu
      refine ⟨y, e1, ?_⟩
      have p : Post G (VR G) W ρ H Q (MP.known v fun v => .ok v m) := p
      have e2 : (MP.known v fun v => MP.R.ok v m) = .ok v m := by cases v <;> first | rfl | exact absurd rfl hu
      rw [e2] at p
      exact p.done hr r
theorem ok_int {i : Int} {j pos} : OkE G Γ (.Constant (.int i) j pos) (.cst (.int i)) := fun W X F => PE.weak pe_int fun σ H Q ⟨ρ, σm, m, sr, hr, p⟩ => Post.done (x := V.int i) p hr rfl
theorem ok_bool {b : Bool} {j pos} : OkE G Γ (.Constant (.bool b) j pos) (.cst (.bool b)) := fun W X F => PE.weak pe_bl fun σ H Q ⟨ρ, σm, m, sr, hr, p⟩ => Post.done (x := V.bl b) p hr rfl
theorem ok_none {j pos} : OkE G Γ (.Constant .none j pos) (.cst .none) := fun W X F => PE.weak pe_non fun σ H Q ⟨ρ, σm, m, sr, hr, p⟩ => Post.done (x := V.non) p hr rfl
theorem ok_str {x : Str} {s : List Nat} {j pos} (h : x = ⟨s.toArray⟩ := by rfl) (h2 : ∀ c ∈ s, c < 128 := by decide) : OkE G Γ (.Constant (.str x) j pos) (.cst (.str s)) := fun W X F => PE.weak pe_str fun σ H Q ⟨ρ, σm, m, sr, hr, p⟩ => Post.done (x := V.str x) p hr ⟨by rw [h], h2⟩
/-- a module's constant, a class -/
theorem ok_glob {x : Str} {c : MP.Val} {v : V} {u : Value} {pos : Pos} (hg : Γ.sc.names.lookup x = some .globalImplicit) (hm : G.mg x = some u) (r : RelV v u) (hv : ∀ ρ H, VR G ρ H c v) (hd : (x == ("__debug__" : Str)) = false := by decide) : OkE G Γ (.Name x pos) (.cst c) := fun W X F =>
  PE.weak (pe_glob (by show X.env.scope.names.lookup x = _; rw [F.hsc]; exact hg) (by rw [F.hmg]; exact hm) r hd) fun σ H Q ⟨ρ, σm, m, sr, hr, p⟩ => Post.done p hr (hv ρ H)

/-! ### tests -/
theorem truth_of {α β : Type} {Rl : Rho → Hp → α → β → Prop} {ρ : Rho} {v : MP.Val} {x : V} {k : Bool → MP.R α} {Q : β → Hp → Prop} (vr : VR G ρ H v x) (p : Post G Rl W ρ H Q (MP.truth v k)) : ∃ b, x = .bl b ∧ Post G Rl W ρ H Q (k b) := by
  cases v with
  | bool b => exact ⟨b, vr, p⟩
  | _ => exact False.elim p
theorem okT_and {a b : Expr} {rest : List Expr} {pos : Pos} {ca cb : MP.E} (ha : OkT G Γ a ca) (hb : OkW G Γ (.BoolOp .And (b :: rest) pos) cb) : OkW G Γ (.BoolOp .And (a :: b :: rest) pos) (.and ca cb) := fun W X F => by
  refine PW.weak (pw_and (ha W X F) (hb W X F)) fun σ H Q ⟨ρ, σm, m, sr, hr, p⟩ => ?_
  refine step sr hr p fun ρ1 v m1 x H1 sr1 hr1 vr _ p1 => ?_
  obtain ⟨b, rfl, p1⟩ := truth_of vr p1
  refine ⟨b, rfl, ?_⟩
  cases b with
  | true => rw [if_pos rfl]; exact ⟨ρ1, σm, m1, sr1, hr1, p1⟩
  | false =>
    rw [if_neg Bool.false_ne_true]
    obtain ⟨b, e, q⟩ := Post.done (x := V.bl false) p1 hr1 rfl
    cases e
    exact q
theorem okT_or {a b : Expr} {rest : List Expr} {pos : Pos} {ca cb : MP.E} (ha : OkT G Γ a ca) (hb : OkW G Γ (.BoolOp .Or (b :: rest) pos) cb) : OkW G Γ (.BoolOp .Or (a :: b :: rest) pos) (.or ca cb) := fun W X F => by
  refine PW.weak (pw_or (ha W X F) (hb W X F)) fun σ H Q ⟨ρ, σm, m, sr, hr, p⟩ => ?_
  refine step sr hr p fun ρ1 v m1 x H1 sr1 hr1 vr _ p1 => ?_
  obtain ⟨b, rfl, p1⟩ := truth_of vr p1
  refine ⟨b, rfl, ?_⟩
  cases b with
  | false => rw [if_neg Bool.false_ne_true]; exact ⟨ρ1, σm, m1, sr1, hr1, p1⟩
  | true =>
    rw [if_pos rfl]
    obtain ⟨b, e, q⟩ := Post.done (x := V.bl true) p1 hr1 rfl
    cases e
    exact q
theorem okW_and1 {a : Expr} {pos : Pos} {ca : MP.E} (ha : OkT G Γ a ca) : OkW G Γ (.BoolOp .And [a] pos) ca := fun W X F => pw_and1 (ha W X F)
theorem okW_or1 {a : Expr} {pos : Pos} {ca : MP.E} (ha : OkT G Γ a ca) : OkW G Γ (.BoolOp .Or [a] pos) ca := fun W X F => pw_or1 (ha W X F)
theorem okT_of {e : Expr} {c : MP.E} (h : OkW G Γ e c) : OkT G Γ e c := fun W X F => (h W X F).pt
theorem okT_not {a : Expr} {pos : Pos} {ca : MP.E} (ha : OkT G Γ a ca) : OkT G Γ (.UnaryOp .Not a pos) (.not ca) := fun W X F => by
  refine PT.weak (pt_not (ha W X F)) fun σ H Q ⟨ρ, σm, m, sr, hr, p⟩ => ?_
  refine step sr hr p fun ρ1 v m1 x H1 sr1 hr1 vr _ p1 => ?_
  obtain ⟨b, rfl, p1⟩ := truth_of vr p1
  obtain ⟨b', e, q⟩ := Post.done (x := V.bl (!b)) p1 hr1 rfl
  cases e
  exact ⟨b, rfl, q⟩
/-- whatever is no comparison, no and, or, not -/
theorem okT_val {e : Expr} {c : MP.E} (h : OkE G Γ e c) (he : ∀ env whole, isTrue e env whole = (do let v ← whole; standAt e.pos; holding [v] (truthy v)) := by intro _ _; rfl) : OkT G Γ e c := fun W X F =>
  PT.weak (pt_val (h W X F) (he X.env)) fun σ H Q q => q
/-! .. as values -/
theorem ok_and {a b : Expr} {rest : List Expr} {pos : Pos} {ca cb : MP.E} (ha : OkE G Γ a ca) (hb : OkE G Γ (.BoolOp .And (b :: rest) pos) cb) : OkE G Γ (.BoolOp .And (a :: b :: rest) pos) (.and ca cb) := fun W X F => by
  refine PE.weak (pe_and (ha W X F) (hb W X F)) fun σ H Q ⟨ρ, σm, m, sr, hr, p⟩ => ?_
  refine step sr hr p fun ρ1 v m1 x H1 sr1 hr1 vr _ p1 => ?_
  obtain ⟨b, rfl, p1⟩ := truth_of vr p1
  refine ⟨b, rfl, ?_⟩
  cases b with
  | true => rw [if_pos rfl]; exact ⟨ρ1, σm, m1, sr1, hr1, p1⟩
  | false => rw [if_neg Bool.false_ne_true]; exact Post.done (x := V.bl false) p1 hr1 rfl
theorem ok_or {a b : Expr} {rest : List Expr} {pos : Pos} {ca cb : MP.E} (ha : OkE G Γ a ca) (hb : OkE G Γ (.BoolOp .Or (b :: rest) pos) cb) : OkE G Γ (.BoolOp .Or (a :: b :: rest) pos) (.or ca cb) := fun W X F => by
  refine PE.weak (pe_or (ha W X F) (hb W X F)) fun σ H Q ⟨ρ, σm, m, sr, hr, p⟩ => ?_
  refine step sr hr p fun ρ1 v m1 x H1 sr1 hr1 vr _ p1 => ?_
  obtain ⟨b, rfl, p1⟩ := truth_of vr p1
  refine ⟨b, rfl, ?_⟩
  cases b with
  | false => rw [if_neg Bool.false_ne_true]; exact ⟨ρ1, σm, m1, sr1, hr1, p1⟩
  | true => rw [if_pos rfl]; exact Post.done (x := V.bl true) p1 hr1 rfl
theorem ok_one {op} {a : Expr} {pos : Pos} {ca : MP.E} (ha : OkE G Γ a ca) : OkE G Γ (.BoolOp op [a] pos) ca := fun W X F => pe_one (ha W X F)
theorem ok_not {a : Expr} {pos : Pos} {ca : MP.E} (ha : OkE G Γ a ca) : OkE G Γ (.UnaryOp .Not a pos) (.not ca) := fun W X F => by
  refine PE.weak (pe_not (ha W X F)) fun σ H Q ⟨ρ, σm, m, sr, hr, p⟩ => ?_
  refine step sr hr p fun ρ1 v m1 x H1 sr1 hr1 vr _ p1 => ?_
  obtain ⟨b, rfl, p1⟩ := truth_of vr p1
  exact ⟨b, rfl, Post.done (x := V.bl (!b)) p1 hr1 rfl⟩
theorem ok_ite {c a b : Expr} {pos : Pos} {cc ca cb : MP.E} (hc : OkT G Γ c cc) (ha : OkE G Γ a ca) (hb : OkE G Γ b cb) : OkE G Γ (.IfExp c a b pos) (.ite cc ca cb) := fun W X F => by
  refine PE.weak (pe_ifExp (hc W X F) (ha W X F) (hb W X F)) fun σ H Q ⟨ρ, σm, m, sr, hr, p⟩ => ?_
  refine step sr hr p fun ρ1 v m1 x H1 sr1 hr1 vr _ p1 => ?_
  obtain ⟨b, rfl, p1⟩ := truth_of vr p1
  refine ⟨b, rfl, ?_⟩
  cases b with
  | true => rw [if_pos rfl]; exact ⟨ρ1, σm, m1, sr1, hr1, p1⟩
  | false => rw [if_neg Bool.false_ne_true]; exact ⟨ρ1, σm, m1, sr1, hr1, p1⟩

/-! ### arguments, displays -/
theorem okA_nil : OkA G Γ [] [] := fun W X F => PA.weak pa_nil fun σ H Q ⟨ρ, σm, m, sr, hr, p⟩ => Post.done (Rl := VRs G) (x := []) p hr rfl
theorem okA_cons {e : Expr} {es : List Expr} {c : MP.E} {cs : List MP.E} (he : OkE G Γ e c) (hes : OkA G Γ es cs) (hs : ∀ env, starEach (e :: es) env = (false, eval e env) :: starEach es env := by intro _; rfl) : OkA G Γ (e :: es) (c :: cs) := fun W X F => by
  refine PA.weak (pa_cons (he W X F) (hes W X F) (hs X.env)) fun σ H Q ⟨ρ, σm, m, sr, hr, p⟩ => ?_
  refine step sr hr p fun ρ1 v m1 x H1 sr1 hr1 vr _ p1 => ?_
  refine ⟨ρ1, σm, m1, sr1, hr1, p1.bind.mono fun xs H2 ⟨ρ2, vs, m2, _, ex2, hr2, vrs, p2⟩ => ?_⟩
  exact Post.done (Rl := VRs G) p2 hr2 (by unfold VRs; exact ⟨x, xs, rfl, vr.ext ex2, vrs⟩)
end
end Snd
set_option Elab.async false
set_option linter.all false
set_option maxRecDepth 100000
set_option maxHeartbeats 4000000
/-! Snd3: displays, operators by values. -/
namespace Snd
open PySem PySem.Spec PyProof.Rows L2
section
variable {G : Gp} {Γ : Cn} {W : XPost} {σ : L2.St} {H : Hp} {f : MP.Cx}
theorem evL_len (f : MP.Cx) : ∀ (cs : List MP.E) (σm : List MP.Val) (m m' : MP.M) (vs : List MP.Val), MP.evL f cs σm m = .ok vs m' → vs.length = cs.length
  | [], σm, m, m', vs, h => by cases h; rfl
  | c :: cs, σm, m, m', vs, h => by
    have h : (c f σm m).bind (fun v m => (MP.evL f cs σm m).bind fun vs m => .ok (v :: vs) m) = .ok vs m' := h
    cases e : c f σm m with
    | ok v m1 =>
      rw [e] at h
      have h : (MP.evL f cs σm m1).bind (fun vs m => MP.R.ok (v :: vs) m) = .ok vs m' := h
      cases e2 : MP.evL f cs σm m1 with
      | ok ws m2 =>
        rw [e2] at h
        cases h
        have := evL_len f cs σm m1 _ ws e2
        simp [this]
      | ex v m => rw [e2] at h; cases h
      | bad n => rw [e2] at h; cases h
    | ex v m => rw [e] at h; cases h
    | bad n => rw [e] at h; cases h
/-- a new tuple -/
theorem new_tup {ρ : Rho} {m : MP.M} {vs : List MP.Val} {xs : List V} {Q : VK} {p : Addr} (hr : HR G ρ m H) (r : VRs G ρ H vs xs) (hp : H p = none) (q : Post G (VR G) W ρ H Q (.ok (.tup vs) m)) : Q (.ref p) (upd H p (.tup xs)) := by
  obtain ⟨h1, e1⟩ := hr.beside (o := .tup xs) hp
  refine q ρ _ _ e1 h1 ?_
  unfold VR
  exact ⟨p, xs, rfl, SqT.of upd_same, r.ext e1⟩
/-- a new list -/
theorem new_lst {ρ : Rho} {m : MP.M} {vs : List MP.Val} {xs : List V} {Q : VK} {p : Addr} (hr : HR G ρ m H) (r : VRs G ρ H vs xs) (hp : H p = none) (q : Post G (VR G) W ρ H Q (MP.mkObj m (.lst vs))) : Q (.ref p) (upd H p (.lst xs)) := by
  obtain ⟨h1, e1⟩ := hr.alloc (ob := .lst vs) hp (o := .lst xs) ⟨xs, upd_same, r.mono (Le.new hr) (Keep.new hp)⟩
  refine q _ _ _ e1 h1 ?_
  unfold VR
  exact ⟨p, rfl, .inr (if_pos rfl)⟩
/-- a new dict -/
theorem new_dct {ρ : Rho} {m : MP.M} {kvs : List (MP.Val × MP.Val)} {us : List (Key × V)} {Q : VK} {p : Addr} (hr : HR G ρ m H) (r : KR G ρ H kvs us) (hp : H p = none) (q : Post G (VR G) W ρ H Q (MP.mkObj m (.dct kvs))) : Q (.ref p) (upd H p (.dK us)) := by
  obtain ⟨h1, e1⟩ := hr.alloc (ob := .dct kvs) hp (o := .dK us) ⟨us, upd_same, r.mono (Le.new hr) (Keep.new hp)⟩
  refine q _ _ _ e1 h1 ?_
  unfold VR
  exact ⟨p, rfl, .inr (if_pos rfl)⟩
theorem ok_tup {es : List Expr} {cs : List MP.E} {k : Nat} {pos : Pos} (h : OkA G Γ es cs) (hl : cs.length ≤ 1000 := by decide) : OkE G Γ (.Tuple es k pos) (.tup cs) := fun W X F => by
  refine PE.weak (pe_tup (h W X F)) fun σ H Q ⟨ρ, σm, m, sr, hr, p⟩ => ?_
  refine ⟨ρ, σm, m, sr, hr, (Post.bind (Rl := VRs G) p).mono fun xs H1 ⟨ρ1, vs, m1, e, ex, hr1, vr, q⟩ => ⟨?_, fun p hp => new_tup hr1 vr hp q⟩⟩
  rw [vr.length, evL_len _ _ _ _ _ _ e, sizeLine_eq]
  omega
theorem ok_lst {es : List Expr} {cs : List MP.E} {pos : Pos} (h : OkA G Γ es cs) (hl : cs.length ≤ 1000 := by decide) : OkE G Γ (.List es pos) (.lst cs) := fun W X F => by
  refine PE.weak (pe_lst (h W X F)) fun σ H Q ⟨ρ, σm, m, sr, hr, p⟩ => ?_
  refine ⟨ρ, σm, m, sr, hr, (Post.bind (Rl := VRs G) p).mono fun xs H1 ⟨ρ1, vs, m1, e, ex, hr1, vr, q⟩ => ⟨?_, fun p hp => new_lst hr1 vr hp q⟩⟩
  rw [vr.length, evL_len _ _ _ _ _ _ e, sizeLine_eq]
  omega
theorem ok_dic0 {pos : Pos} : OkE G Γ (.Dict [] [] pos) (.dic []) := fun W X F => by
  refine PE.weak pe_dnewK fun σ H Q ⟨ρ, σm, m, sr, hr, p⟩ => ?_
  intro d hd
  exact new_dct (kvs := []) (us := []) hr rfl hd p

/-! ### operators -/
def rB (G : Gp) (W : XPost) (k : MP.Val → MP.Val → MP.M → MP.R MP.Val) : R2 := fun x y H Q => ∃ ρ v w m, HR G ρ m H ∧ VR G ρ H v x ∧ VR G ρ H w y ∧ Post G (VR G) W ρ H Q (k v w m)
theorem ok_binR {op : Operator} {k : MP.Val → MP.Val → MP.M → MP.R MP.Val} {a b : Expr} {ca cb : MP.E} {pos : Pos} (ho : ∀ W X, Fit G Γ W X → OpR X (binaryOp op) (rB G W k)) (ha : OkE G Γ a ca) (hb : OkE G Γ b cb) :
    OkE G Γ (.BinOp a op b pos) (fun f σ m => (ca f σ m).bind fun v m => (cb f σ m).bind fun w m => k v w m) := fun W X F => by
  refine PE.weak (pe_op (ho W X F) (ha W X F) (hb W X F)) fun σ H Q ⟨ρ, σm, m, sr, hr, p⟩ => ?_
  refine step sr hr p fun ρ1 v m1 x H1 sr1 hr1 vr _ p1 => ?_
  exact step sr1 hr1 p1 fun ρ2 w m2 y H2 sr2 hr2 wr ex p2 => ⟨ρ2, v, w, m2, hr2, vr.ext ex, wr, p2⟩
theorem fits_of {α : Type} {ρ : Rho} {xs : List α} {r : MP.R MP.Val} {Q : VK} (p : Post G (VR G) W ρ H Q (MP.fits xs r)) : xs.length ≤ sizeLine ∧ Post G (VR G) W ρ H Q r := by
  have p : Post G (VR G) W ρ H Q (match Nat.ble xs.length MP.SIZE with | true => r | false => .bad 1) := p
  cases e : Nat.ble xs.length MP.SIZE with
  | true => rw [e] at p; exact ⟨by rw [sizeLine_eq]; exact Nat.le_of_ble_eq_true e, p⟩
  | false => rw [e] at p; exact p.elim
theorem str_app (s t : List Nat) : ((⟨s.toArray⟩ : Str) ++ (⟨t.toArray⟩ : Str)) = ⟨(s ++ t).toArray⟩ := by
  show Str.append _ _ = _
  unfold Str.append
  simp
theorem SqT.len {K : PySem.W.Frag} {a : Addr} {us : List V} (h : us.length ≤ sizeLine) : True := trivial
theorem lst_of {ρ : Rho} {m : MP.M} {k : Nat} {vs : List MP.Val} {x : V} (hr : HR G ρ m H) (e : m.t.get k = some (.lst vs)) (vr : VR G ρ H (.ref k) x) : ∃ a us, x = .ref a ∧ ρ k = some a ∧ H a = some (.lst us) ∧ VRs G ρ H vs us := by
  unfold VR at vr
  obtain ⟨a, rfl, hk | hk⟩ := vr
  · obtain ⟨o, e1, r⟩ := hr.ro k a hk
    rw [e] at e1; cases e1
    exact r.elim
  · obtain ⟨us, h1, h2⟩ := hr.obj k _ a e hk
    exact ⟨a, us, rfl, hk, h1, h2⟩
theorem lstO_of {m : MP.M} {a : Nat} {xs : List MP.Val} (h : MP.lstO m a = some xs) : m.t.get a = some (.lst xs) := by
  unfold MP.lstO at h
  cases e : m.t.get a with
  | none => rw [e] at h; cases h
  | some o =>
    rw [e] at h
    cases o with
    | lst ys => cases h; rfl
    | _ => cases h
theorem op_add_ok {X : Cx} (F : Fit G Γ W X) : OpR X (binaryOp .Add) (rB G W MP.addV) := by
  intro pins s σ H x y v u Q I rx ry ⟨ρ, a, b, m, hr, ar, br, p⟩
  cases a with
  | int i =>
    cases b with
    | int j =>
      cases ar; cases br
      exact op_add pins s σ H _ _ v u Q I rx ry ⟨i, j, rfl, rfl, Post.done (x := V.int (i + j)) p hr rfl⟩
    | _ => exact False.elim p
  | str s1 =>
    cases b with
    | str t =>
      obtain ⟨rfl, ha⟩ := ar
      obtain ⟨rfl, hb⟩ := br
      obtain ⟨hl, p⟩ := fits_of (xs := s1 ++ t) p
      refine op_add_str pins s σ H _ _ v u Q I rx ry ⟨_, _, rfl, rfl, ?_, ?_⟩
      · rw [List.length_append] at hl
        simpa [Str.length] using hl
      · rw [str_app]
        exact Post.done (x := V.str ⟨(s1 ++ t).toArray⟩) p hr ⟨rfl, fun c hc => (List.mem_append.mp hc).elim (ha c) (hb c)⟩
    | _ => exact False.elim p
  | tup vs =>
    cases b with
    | tup ws =>
      unfold VR at ar br
      obtain ⟨a1, us, rfl, q1, r1⟩ := ar
      obtain ⟨b1, us2, rfl, q2, r2⟩ := br
      obtain ⟨hl, p⟩ := fits_of (xs := vs ++ ws) p
      rw [← F.hK] at q1 q2
      have hz : us.length + us2.length ≤ sizeLine := by
        rw [r1.length, r2.length, ← List.length_append]; exact hl
      refine op_catA pins s σ H _ _ v u Q I rx ry ⟨a1, b1, us, us2, rfl, rfl, q1, q2, hz, fun e => ?_, fun _ e => ?_, fun _ _ p' hp => ?_⟩
      · have e1 : vs = [] := by
          have := r1.length
          rw [e] at this
          exact List.eq_nil_of_length_eq_zero this.symm
        subst e1
        refine Post.done (x := V.ref b1) p hr ?_
        show VR G ρ H (.tup ws) (.ref b1)
        unfold VR
        exact ⟨b1, us2, rfl, by rw [← F.hK]; exact q2, r2⟩
      · have e1 : ws = [] := by
          have := r2.length
          rw [e] at this
          exact List.eq_nil_of_length_eq_zero this.symm
        subst e1
        refine Post.done (x := V.ref a1) p hr ?_
        rw [List.append_nil]
        unfold VR
        exact ⟨a1, us, rfl, by rw [← F.hK]; exact q1, r1⟩
      · exact new_tup hr (r1.append r2) hp p
    | _ => exact False.elim p
  | ref k =>
    have p : Post G (VR G) W ρ H Q (MP.addLst k b m) := p
    unfold MP.addLst at p
    cases e : MP.lstO m k with
    | none => rw [e] at p; exact p.elim
    | some xs =>
      rw [e] at p
      cases b with
      | ref k2 =>
        simp only at p
        cases e2 : MP.lstO m k2 with
        | none => rw [e2] at p; exact p.elim
        | some ys =>
          rw [e2] at p
          obtain ⟨hl, p⟩ := fits_of (xs := xs ++ ys) p
          obtain ⟨a1, us, rfl, _, q1, r1⟩ := lst_of hr (lstO_of e) ar
          obtain ⟨b1, us2, rfl, _, q2, r2⟩ := lst_of hr (lstO_of e2) br
          refine op_cat pins s σ H _ _ v u Q I rx ry ⟨a1, b1, us, us2, rfl, rfl, q1, q2, ?_, fun p' hp => new_lst hr (r1.append r2) hp p⟩
          rw [r1.length, r2.length, ← List.length_append]; exact hl
      | _ => exact False.elim p
  | _ => exact False.elim p
theorem int2_of {ρ : Rho} {a b : MP.Val} {k : Int → Int → MP.R MP.Val} {x y : V} {Q : VK} (ar : VR G ρ H a x) (br : VR G ρ H b y) (p : Post G (VR G) W ρ H Q (MP.int2 a b k)) : ∃ i j, x = .int i ∧ y = .int j ∧ Post G (VR G) W ρ H Q (k i j) := by
  cases a with
  | int i =>
    cases b with
    | int j => cases ar; cases br; exact ⟨i, j, rfl, rfl, p⟩
    | _ => exact False.elim p
  | _ => exact False.elim p
theorem op_sub_ok {X : Cx} (F : Fit G Γ W X) : OpR X (binaryOp .Sub) (rB G W fun a b m => MP.int2 a b fun i j => .ok (.int (i - j)) m) := by
  intro pins s σ H x y v u Q I rx ry ⟨ρ, a, b, m, hr, ar, br, p⟩
  obtain ⟨i, j, rfl, rfl, p⟩ := int2_of ar br p
  exact op_sub pins s σ H _ _ v u Q I rx ry ⟨i, j, rfl, rfl, Post.done (x := V.int (i - j)) p hr rfl⟩
theorem op_fdiv_ok {X : Cx} (F : Fit G Γ W X) : OpR X (binaryOp .FloorDiv) (rB G W fun a b m => MP.int2 a b fun i j => MP.fdivI i j m) := by
  intro pins s σ H x y v u Q I rx ry ⟨ρ, a, b, m, hr, ar, br, p⟩
  obtain ⟨i, j, rfl, rfl, p⟩ := int2_of ar br p
  have p : Post G (VR G) W ρ H Q (match decide (0 < j) && decide (j < 1073741824) with | true => .ok (.int (i / j)) m | false => .bad 10) := p
  cases e : (decide (0 < j) && decide (j < 1073741824)) with
  | false => rw [e] at p; exact p.elim
  | true =>
    rw [e] at p
    have e' := Bool.and_eq_true_iff.mp e
    exact op_fdiv pins s σ H _ _ v u Q I rx ry ⟨i, j, rfl, rfl, ⟨of_decide_eq_true e'.1, of_decide_eq_true e'.2⟩, Post.done (x := V.int (i / j)) p hr rfl⟩
theorem op_mod_ok {X : Cx} (F : Fit G Γ W X) : OpR X (binaryOp .Mod) (rB G W fun a b m => MP.int2 a b fun i j => MP.modI i j m) := by
  intro pins s σ H x y v u Q I rx ry ⟨ρ, a, b, m, hr, ar, br, p⟩
  obtain ⟨i, j, rfl, rfl, p⟩ := int2_of ar br p
  have p : Post G (VR G) W ρ H Q (match decide (0 < j) with | true => .ok (.int (i % j)) m | false => .bad 11) := p
  cases e : decide (0 < j) with
  | false => rw [e] at p; exact p.elim
  | true =>
    rw [e] at p
    exact op_mod pins s σ H _ _ v u Q I rx ry ⟨i, j, rfl, rfl, of_decide_eq_true e, Post.done (x := V.int (i % j)) p hr rfl⟩
theorem op_pow_ok {X : Cx} (F : Fit G Γ W X) : OpR X (binaryOp .Pow) (rB G W fun a b m => MP.int2 a b fun i j => MP.powI i j m) := by
  intro pins s σ H x y v u Q I rx ry ⟨ρ, a, b, m, hr, ar, br, p⟩
  obtain ⟨i, j, rfl, rfl, p⟩ := int2_of ar br p
  have p : Post G (VR G) W ρ H Q (match decide (0 ≤ j) && decide (j ≤ 1000000) && decide (i.natAbs < 18446744073709551616) with | true => .ok (.int (i ^ j.toNat)) m | false => .bad 12) := p
  cases e : (decide (0 ≤ j) && decide (j ≤ 1000000) && decide (i.natAbs < 18446744073709551616)) with
  | false => rw [e] at p; exact p.elim
  | true =>
    rw [e] at p
    have e' := Bool.and_eq_true_iff.mp e
    have e2 := Bool.and_eq_true_iff.mp e'.1
    exact op_pow pins s σ H _ _ v u Q I rx ry ⟨i, j, rfl, rfl, ⟨of_decide_eq_true e2.1, of_decide_eq_true e2.2, of_decide_eq_true e'.2⟩, Post.done (x := V.int (i ^ j.toNat)) p hr rfl⟩
theorem op_shr_ok {X : Cx} (F : Fit G Γ W X) : OpR X (binaryOp .RShift) (rB G W fun a b m => MP.int2 a b fun i j => MP.shrI i j m) := by
  intro pins s σ H x y v u Q I rx ry ⟨ρ, a, b, m, hr, ar, br, p⟩
  obtain ⟨i, j, rfl, rfl, p⟩ := int2_of ar br p
  have p : Post G (VR G) W ρ H Q (match decide (0 ≤ j) with | true => .ok (.int (i / 2 ^ j.toNat)) m | false => .bad 13) := p
  cases e : decide (0 ≤ j) with
  | false => rw [e] at p; exact p.elim
  | true =>
    rw [e] at p
    exact op_shr pins s σ H _ _ v u Q I rx ry ⟨i, j, rfl, rfl, of_decide_eq_true e, Post.done (x := V.int (i / 2 ^ j.toNat)) p hr rfl⟩
theorem ok_add {a b : Expr} {ca cb : MP.E} {pos : Pos} (ha : OkE G Γ a ca) (hb : OkE G Γ b cb) : OkE G Γ (.BinOp a .Add b pos) (.bin .add ca cb) := ok_binR (fun _ _ F => op_add_ok F) ha hb
theorem ok_sub {a b : Expr} {ca cb : MP.E} {pos : Pos} (ha : OkE G Γ a ca) (hb : OkE G Γ b cb) : OkE G Γ (.BinOp a .Sub b pos) (.bin .sub ca cb) := ok_binR (fun _ _ F => op_sub_ok F) ha hb
theorem ok_fdiv {a b : Expr} {ca cb : MP.E} {pos : Pos} (ha : OkE G Γ a ca) (hb : OkE G Γ b cb) : OkE G Γ (.BinOp a .FloorDiv b pos) (.bin .fdiv ca cb) := ok_binR (fun _ _ F => op_fdiv_ok F) ha hb
theorem ok_mod {a b : Expr} {ca cb : MP.E} {pos : Pos} (ha : OkE G Γ a ca) (hb : OkE G Γ b cb) : OkE G Γ (.BinOp a .Mod b pos) (.bin .mod ca cb) := ok_binR (fun _ _ F => op_mod_ok F) ha hb
theorem ok_pow {a b : Expr} {ca cb : MP.E} {pos : Pos} (ha : OkE G Γ a ca) (hb : OkE G Γ b cb) : OkE G Γ (.BinOp a .Pow b pos) (.bin .pow ca cb) := ok_binR (fun _ _ F => op_pow_ok F) ha hb
theorem ok_shr {a b : Expr} {ca cb : MP.E} {pos : Pos} (ha : OkE G Γ a ca) (hb : OkE G Γ b cb) : OkE G Γ (.BinOp a .RShift b pos) (.bin .shr ca cb) := ok_binR (fun _ _ F => op_shr_ok F) ha hb
end
end Snd
set_option Elab.async false
set_option linter.all false
set_option maxRecDepth 100000
set_option maxHeartbeats 4000000
/-! Snd4: statements, targets, loops. -/
namespace Snd
open PySem PySem.Spec PyProof.Rows L2

/-- how a block ends -/
inductive FV where
  | nx (σ : L2.St) | bk (σ : L2.St) | ct (σ : L2.St) | rt (v : V)
def FlR (G : Gp) (W : XPost) (ρ : Rho) (H : Hp) : MP.Fl → FV → Prop
  | .next σm, .nx σ => SR G W ρ H σm σ
  | .brk σm, .bk σ => SR G W ρ H σm σ
  | .cont σm, .ct σ => SR G W ρ H σm σ
  | .ret v, .rt x => VR G ρ H v x
  | _, _ => False
def ends (D : Ends) : FV → Hp → Prop
  | .nx σ, H => D.nx σ H
  | .bk σ, H => D.bk σ H
  | .ct σ, H => D.ct σ H
  | .rt v, H => D.rt v H
def trS (G : Gp) (f : MP.Cx) (W : XPost) (c : MP.S) : TS := fun D σ H => ∃ ρ σm m, SR G W ρ H σm σ ∧ HR G ρ m H ∧ Post G (FlR G W) W ρ H (ends D) (c f σm m)
def trB (G : Gp) (f : MP.Cx) (W : XPost) (cs : List MP.S) : TS := fun D σ H => ∃ ρ σm m, SR G W ρ H σm σ ∧ HR G ρ m H ∧ Post G (FlR G W) W ρ H (ends D) (MP.block f cs σm m)
def trG (G : Gp) (f : MP.Cx) (W : XPost) (t : MP.Tg) : TG := fun x σ H Q => ∃ ρ σm m v, SR G W ρ H σm σ ∧ HR G ρ m H ∧ VR G ρ H v x ∧ Post G (SR G W) W ρ H Q (t f v σm m)
def trGs (G : Gp) (f : MP.Cx) (W : XPost) (ts : List MP.Tg) : TGs := fun xs σ H Q => ∃ ρ σm m vs, SR G W ρ H σm σ ∧ HR G ρ m H ∧ VRs G ρ H vs xs ∧ Post G (SR G W) W ρ H Q (MP.asgs f ts vs σm m)
def OkS (G : Gp) (Γ : Cn) (s : Stmt) (c : MP.S) : Prop := ∀ (W : XPost) (X : Cx), Fit G Γ W X → PS X s (trS G Γ.f W c)
def OkB (G : Gp) (Γ : Cn) (s : List Stmt) (cs : List MP.S) : Prop := ∀ (W : XPost) (X : Cx), Fit G Γ W X → PSs X s (trB G Γ.f W cs)
def OkG (G : Gp) (Γ : Cn) (e : Expr) (t : MP.Tg) : Prop := ∀ (W : XPost) (X : Cx), Fit G Γ W X → PG X e (trG G Γ.f W t)
def OkGs (G : Gp) (Γ : Cn) (es : List Expr) (ts : List MP.Tg) : Prop := ∀ (W : XPost) (X : Cx), Fit G Γ W X → PGs X es (trGs G Γ.f W ts)
theorem PS.weak {X : Cx} {e : Stmt} {t t' : TS} (h : PS X e t) (hw : ∀ D σ H, t' D σ H → t D σ H) : PS X e t' := ⟨fun pins s σ H D I q => h.run pins s σ H D I (hw D σ H q)⟩
theorem PSs.weak {X : Cx} {e : List Stmt} {t t' : TS} (h : PSs X e t) (hw : ∀ D σ H, t' D σ H → t D σ H) : PSs X e t' := ⟨fun pins s σ H D I q => h.run pins s σ H D I (hw D σ H q)⟩
theorem PG.weak {X : Cx} {e : Expr} {t t' : TG} (h : PG X e t) (hw : ∀ v σ H Q, t' v σ H Q → t v σ H Q) : PG X e t' := ⟨fun pins s σ H v u Q I r q => h.run pins s σ H v u Q I r (hw v σ H Q q)⟩
theorem PGs.weak {X : Cx} {e : List Expr} {t t' : TGs} (h : PGs X e t) (hw : ∀ v σ H Q, t' v σ H Q → t v σ H Q) : PGs X e t' := ⟨fun pins s σ H v u Q I r q => h.run pins s σ H v u Q I r (hw v σ H Q q)⟩
section
variable {G : Gp} {Γ : Cn} {W : XPost} {σ : L2.St} {H : Hp} {f : MP.Cx}
/-! ### blocks, small statements -/
theorem okB_nil : OkB G Γ [] [] := fun W X F => PSs.weak pss_nil fun D σ H ⟨ρ, σm, m, sr, hr, p⟩ => Post.done (Rl := FlR G W) (x := FV.nx σ) p hr sr
theorem okB_cons {s : Stmt} {r : List Stmt} {c : MP.S} {cs : List MP.S} (hs : OkS G Γ s c) (hr : OkB G Γ r cs) : OkB G Γ (s :: r) (c :: cs) := fun W X F => by
  refine PSs.weak (pss_cons (hs W X F) (hr W X F)) fun D σ H ⟨ρ, σm, m, sr, hr, p⟩ => ?_
  refine ⟨ρ, σm, m, sr, hr, (Post.bind (Rl := FlR G W) p).mono fun fv H1 ⟨ρ1, fl, m1, e, ex, hr1, vr, q⟩ => ?_⟩
  cases fl with
  | next σm' =>
    cases fv with
    | nx σ' => exact ⟨ρ1, σm', m1, vr, hr1, q⟩
    | _ => exact False.elim vr
  | brk σm' =>
    cases fv with
    | bk σ' => exact (show ends D (FV.bk σ') H1 from Post.done (Rl := FlR G W) q hr1 vr)
    | _ => exact False.elim vr
  | cont σm' =>
    cases fv with
    | ct σ' => exact (show ends D (FV.ct σ') H1 from Post.done (Rl := FlR G W) q hr1 vr)
    | _ => exact False.elim vr
  | ret v =>
    cases fv with
    | rt x => exact (show ends D (FV.rt x) H1 from Post.done (Rl := FlR G W) q hr1 vr)
    | _ => exact False.elim vr
theorem okS_pass {pos} : OkS G Γ (.Pass pos) .pass := fun W X F => PS.weak ps_pass fun D σ H ⟨ρ, σm, m, sr, hr, p⟩ => Post.done (Rl := FlR G W) (x := FV.nx σ) p hr sr
theorem okS_brk {pos} : OkS G Γ (.Break pos) .brk := fun W X F => PS.weak ps_break fun D σ H ⟨ρ, σm, m, sr, hr, p⟩ => Post.done (Rl := FlR G W) (x := FV.bk σ) p hr sr
theorem okS_cont {pos} : OkS G Γ (.Continue pos) .cont := fun W X F => PS.weak ps_continue fun D σ H ⟨ρ, σm, m, sr, hr, p⟩ => Post.done (Rl := FlR G W) (x := FV.ct σ) p hr sr
/-- an expression, then the rest -/
theorem step' {γ δ : Type} {Rl' : Rho → Hp → γ → δ → Prop} {c : MP.E} {k : MP.Val → MP.M → MP.R γ} {Q : δ → Hp → Prop} {Q1 : VK} {ρ : Rho} {σm : List MP.Val} {m : MP.M} (sr : SR G W ρ H σm σ) (hr : HR G ρ m H)
    (p : Post G Rl' W ρ H Q ((c f σm m).bind k))
    (h : ∀ ρ1 v m1 x H1, SR G W ρ1 H1 σm σ → HR G ρ1 m1 H1 → VR G ρ1 H1 v x → Ext G ρ H ρ1 H1 → Post G Rl' W ρ1 H1 Q (k v m1) → Q1 x H1) : trE G f W c σ H Q1 := step sr hr p h
theorem okS_expr {e : Expr} {c : MP.E} {pos : Pos} (he : OkE G Γ e c) (hs : ∀ env, swapsWith e none pos.line env = pure false := by intro _; rfl) : OkS G Γ (.Expr e pos) (.expr c) := fun W X F => by
  refine PS.weak (ps_expr (he W X F) (hs X.env)) fun D σ H ⟨ρ, σm, m, sr, hr, p⟩ => ?_
  exact step sr hr p fun ρ1 v m1 x H1 sr1 hr1 vr _ p1 => Post.done (Rl := FlR G W) (x := FV.nx σ) p1 hr1 sr1
theorem okS_ret {e : Expr} {c : MP.E} {pos : Pos} (he : OkE G Γ e c) : OkS G Γ (.Return (some e) pos) (.ret c) := fun W X F => by
  refine PS.weak (ps_ret (he W X F)) fun D σ H ⟨ρ, σm, m, sr, hr, p⟩ => ?_
  exact step sr hr p fun ρ1 v m1 x H1 sr1 hr1 vr _ p1 => Post.done (Rl := FlR G W) (x := FV.rt x) p1 hr1 vr
theorem okS_retN {pos : Pos} : OkS G Γ (.Return none pos) (.ret (.cst .none)) := fun W X F => by
  refine PS.weak ps_retN fun D σ H ⟨ρ, σm, m, sr, hr, p⟩ => ?_
  exact Post.done (Rl := FlR G W) (x := FV.rt .non) p hr rfl
theorem okS_if {c : Expr} {a b : List Stmt} {cc : MP.E} {ca cb : List MP.S} {pos : Pos} (hc : OkT G Γ c cc) (ha : OkB G Γ a ca) (hb : OkB G Γ b cb) : OkS G Γ (.If c a b pos) (.ite cc ca cb) := fun W X F => by
  refine PS.weak (ps_if (hc W X F) (ha W X F) (hb W X F)) fun D σ H ⟨ρ, σm, m, sr, hr, p⟩ => ?_
  refine step sr hr p fun ρ1 v m1 x H1 sr1 hr1 vr _ p1 => ?_
  obtain ⟨b, rfl, p1⟩ := truth_of vr p1
  refine ⟨b, rfl, ?_⟩
  cases b with
  | true => rw [if_pos rfl]; exact ⟨ρ1, σm, m1, sr1, hr1, p1⟩
  | false => rw [if_neg Bool.false_ne_true]; exact ⟨ρ1, σm, m1, sr1, hr1, p1⟩
/-! ### while -/
theorem okS_while {c : Expr} {b : List Stmt} {cc : MP.E} {cb : List MP.S} {pos : Pos} (hc : OkT G Γ c cc) (hb : OkB G Γ b cb) : OkS G Γ (.While c b [] pos) (.whl cc cb) := fun W X F => by
  refine PS.weak (ps_while F.passes (hc W X F) (hb W X F)) fun D σ H ⟨ρ, σm, m, sr, hr, p⟩ => ?_
  refine ⟨fun n σ H => ∃ ρ σm m, SR G W ρ H σm σ ∧ HR G ρ m H ∧ Post G (FlR G W) W ρ H (ends D) (MP.whlN Γ.f cc cb n σm m), ⟨MP.TRUE, ρ, σm, m, sr, hr, p⟩, ?_⟩
  rintro n σ H ⟨ρ, σm, m, sr, hr, p⟩
  cases n with
  | zero => exact False.elim p
  | succ n =>
    refine step sr hr p fun ρ1 v m1 x H1 sr1 hr1 vr _ p1 => ?_
    obtain ⟨b, rfl, p1⟩ := truth_of vr p1
    refine ⟨b, rfl, ?_⟩
    cases b with
    | false => rw [if_neg Bool.false_ne_true]; exact Post.done (Rl := FlR G W) (x := FV.nx σ) p1 hr1 sr1
    | true =>
      rw [if_pos rfl]
      refine ⟨fun σ H => ∃ ρ σm m, SR G W ρ H σm σ ∧ HR G ρ m H ∧ Post G (FlR G W) W ρ H (ends D) (MP.whlN Γ.f cc cb n σm m), fun σ' H' h => ⟨n, Nat.lt_succ_self n, h⟩, ?_⟩
      refine ⟨ρ1, σm, m1, sr1, hr1, (Post.bind (Rl := FlR G W) p1).mono fun fv H2 ⟨ρ2, fl, m2, e, ex, hr2, vr2, q⟩ => ?_⟩
      cases fl with
      | next σm' =>
        cases fv with
        | nx σ' => exact ⟨ρ2, σm', m2, vr2, hr2, q⟩
        | _ => exact False.elim vr2
      | brk σm' =>
        cases fv with
        | bk σ' => exact (show ends D (FV.nx σ') H2 from Post.done (Rl := FlR G W) q hr2 vr2)
        | _ => exact False.elim vr2
      | cont σm' =>
        cases fv with
        | ct σ' => exact ⟨ρ2, σm', m2, vr2, hr2, q⟩
        | _ => exact False.elim vr2
      | ret v =>
        cases fv with
        | rt x => exact (show ends D (FV.rt x) H2 from Post.done (Rl := FlR G W) q hr2 vr2)
        | _ => exact False.elim vr2
/-! ### targets -/
theorem okG_loc {i : Nat} {x : Str} {pos : Pos} (hN : Γ.N[i]? = some x) (hx : Loc Γ.sc x) (hf : Γ.fn x = true ∨ Γ.sc.names.lookup x = some .local) (ho : Γ.opn = true) : OkG G Γ (.Name x pos) (.loc i) := fun W X F => by
  refine PG.weak (pg_name (i := i) (by rw [F.hN]; exact F.nd) (by rw [F.hN]; exact hN) (by rw [F.hsc]; exact hx) (by rw [F.hfn, F.hsc]; exact hf)) fun v σ H Q ⟨ρ, σm, m, w, sr, hr, vr, p⟩ => ?_
  exact Post.done (Rl := SR G W) p hr (sr.set vr i (F.opn ho _ _ _ sr.sg))
theorem okGs_nil : OkGs G Γ [] [] := fun W X F => by
  refine PGs.weak pgs_nil fun vs σ H Q ⟨ρ, σm, m, ws, sr, hr, vr, p⟩ => ?_
  cases ws with
  | nil => unfold VRs at vr; exact ⟨vr, Post.done (Rl := SR G W) p hr sr⟩
  | cons w ws => exact False.elim p
theorem okGs_cons {e : Expr} {es : List Expr} {t : MP.Tg} {ts : List MP.Tg} (h : OkG G Γ e t) (hs : OkGs G Γ es ts) (ha : ∀ env, (assignEach (e :: es) env).map (·.2) = assign e env :: (assignEach es env).map (·.2) := by intro _; rfl) : OkGs G Γ (e :: es) (t :: ts) := fun W X F => by
  refine PGs.weak (pgs_cons (h W X F) (hs W X F) (ha X.env)) fun vs σ H Q ⟨ρ, σm, m, ws, sr, hr, vr, p⟩ => ?_
  cases ws with
  | nil => exact False.elim p
  | cons w ws =>
    unfold VRs at vr
    obtain ⟨x, r, rfl, v1, v2⟩ := vr
    refine ⟨x, r, rfl, ρ, σm, m, w, sr, hr, v1, (Post.bind (Rl := SR G W) p).mono fun σ' H1 ⟨ρ1, σm', m1, e, ex, hr1, sr1, q⟩ => ?_⟩
    exact ⟨ρ1, σm', m1, ws, sr1, hr1, v2.ext ex, q⟩
theorem opt2_of {α β : Type} {ρ : Rho} {Rl : Rho → Hp → β → γ → Prop} {Q : γ → Hp → Prop} {n : Nat} {o : Option α} {k : α → MP.R β} (p : Post G Rl W ρ H Q (MP.opt2 n o k)) : ∃ x, o = some x ∧ Post G Rl W ρ H Q (k x) := by
  cases o with
  | none => exact False.elim p
  | some x => exact ⟨x, rfl, p⟩
theorem opt_of {α : Type} {ρ : Rho} {Q : VK} {n : Nat} {o : Option α} {k : α → MP.R MP.Val} (p : Post G (VR G) W ρ H Q (MP.opt n o k)) : ∃ x, o = some x ∧ Post G (VR G) W ρ H Q (k x) := by
  cases o with
  | none => exact False.elim p
  | some x => exact ⟨x, rfl, p⟩
theorem asgs_tup {ρ : Rho} {ts : List MP.Tg} {vs σm : List MP.Val} {m : MP.M} {Q : L2.St → Hp → Prop} (p : Post G (SR G W) W ρ H Q (MP.Tg.tupN f ts vs σm m)) : vs.length = ts.length ∧ Post G (SR G W) W ρ H Q (MP.asgs f ts vs σm m) := by
  unfold MP.Tg.tupN at p
  cases e : Nat.beq vs.length ts.length with
  | true => rw [e] at p; exact ⟨Nat.eq_of_beq_eq_true e, p⟩
  | false => rw [e] at p; exact p.elim
/-- a, b = .. : a tuple of so many; kind says that no list comes -/
theorem okG_tup {es : List Expr} {ts : List MP.Tg} {k : Nat} {pos : Pos} (h : OkGs G Γ es ts) (hl : ts.length = es.length := by rfl) (hn : ∀ env, (assignEach es env).length = es.length := by intro _; rfl) (hst : ∀ env, (assignEach es env).findIdx? (·.1) = none := by intro _; rfl) : OkG G Γ (.Tuple es k pos) (.tup ts) := fun W X F => by
  refine PG.weak (pg_tup (n := es.length) F.calm (h W X F) (hn X.env) (hst X.env)) fun x σ H Q ⟨ρ, σm, m, w, sr, hr, vr, p⟩ => ?_
  cases w with
  | tup vs =>
    unfold VR at vr
    obtain ⟨a, us, rfl, q, r⟩ := vr
    obtain ⟨hlen, p⟩ := asgs_tup p
    exact ⟨a, us, rfl, by rw [F.hK]; exact q, by rw [r.length, hlen, hl], ρ, σm, m, vs, sr, hr, r, p⟩
  | ref k => exact False.elim p
  | _ => exact False.elim p
/-! ### assignments -/
theorem okS_asg {tg e : Expr} {t : MP.Tg} {c : MP.E} {pos : Pos} (he : OkE G Γ e c) (hg : OkG G Γ tg t) (hs : ∀ env, swapsWithSole [tg] e pos.line env = pure false := by intro _; rfl) (hw : ∀ env : Env, env.scope = Γ.sc → swappedStores [tg] e env = pure none := by intro _ _; rfl)
    (h1 : ∀ env, (assignEach [tg] env).map (·.2) = [assign tg env] := by intro _; rfl) : OkS G Γ (.Assign [tg] e pos) (.asg t c) := fun W X F => by
  refine PS.weak (ps_asg (he W X F) (hg W X F) (hs X.env) (hw X.env F.hsc) (h1 X.env)) fun D σ H ⟨ρ, σm, m, sr, hr, p⟩ => ?_
  refine step sr hr p fun ρ1 v m1 x H1 sr1 hr1 vr _ p1 => ?_
  refine ⟨ρ1, σm, m1, v, sr1, hr1, vr, (Post.bind (Rl := SR G W) p1).mono fun σ' H2 ⟨ρ2, σm', m2, e, ex, hr2, sr2, q⟩ => ?_⟩
  exact (show ends D (FV.nx σ') H2 from Post.done (Rl := FlR G W) q hr2 sr2)
end
end Snd
set_option Elab.async false
set_option linter.all false
set_option maxRecDepth 100000
set_option maxHeartbeats 4000000
/-! Snd5: what is walked; for; comprehensions. -/
namespace Snd
open PySem PySem.Spec PyProof.Rows L2
/-- what a walked thing gives, now and later -/
def ItR (G : Gp) (ρ : Rho) (H : Hp) (w : MP.ItV) (J : It) : Prop := ∀ ρ' m' H', Ext G ρ H ρ' H' → HR G ρ' m' H' → ∀ i,
  match w.next m' i with
  | .done => J.stop i H'
  | .item v => J.go i H' ∧ ∀ x H2, J.yld i H' x H2 → ∃ ρ2, Ext G ρ' H' ρ2 H2 ∧ HR G ρ2 m' H2 ∧ VR G ρ2 H2 v x
  | .odd => True
def trI (G : Gp) (f : MP.Cx) (W : XPost) (t : MP.It) : TI := fun σ H R => ∃ ρ σm m, SR G W ρ H σm σ ∧ HR G ρ m H ∧ Post G (ItR G) W ρ H R (t f σm m)
def OkI (G : Gp) (Γ : Cn) (tg iter : Expr) (t : MP.It) : Prop := ∀ (W : XPost) (X : Cx), Fit G Γ W X → PI X tg iter (trI G Γ.f W t)
theorem PI.weak {X : Cx} {tg e : Expr} {t t' : TI} (h : PI X tg e t) (hw : ∀ σ H R, t' σ H R → t σ H R) : PI X tg e t' := ⟨fun pins s σ H R I q => h.run pins s σ H R I (hw σ H R q)⟩
section
variable {G : Gp} {Γ : Cn} {W : XPost} {σ : L2.St} {H : Hp} {f : MP.Cx}
theorem ItR.mono {ρ ρ' : Rho} {H' : Hp} {w : MP.ItV} {J : It} (h : ItR G ρ H w J) (ex : Ext G ρ H ρ' H') : ItR G ρ' H' w J := fun ρ2 m2 H2 e hr i => h ρ2 m2 H2 (ex.trans e) hr i
theorem okS_for {tg iter : Expr} {b : List Stmt} {t : MP.Tg} {it : MP.It} {cb : List MP.S} {pos : Pos} (hi : OkI G Γ tg iter it) (hg : OkG G Γ tg t) (hb : OkB G Γ b cb) (hs : ∀ env x, foldedSetIterable iter env x = pure x := by intro _ _; rfl) :
    OkS G Γ (.For tg iter b [] pos) (.for t it cb) := fun W X F => by
  refine PS.weak (ps_for F.passes F.calm (hi W X F) (hg W X F) (hb W X F) (hs X.env)) fun D σ H ⟨ρ, σm, m, sr, hr, p⟩ => ?_
  refine ⟨ρ, σm, m, sr, hr, (Post.bind (Rl := ItR G) p).mono fun J H1 ⟨ρ1, w, m1, e, ex, hr1, ir, p1⟩ => ?_⟩
  refine ⟨fun i n σ H => ∃ ρ σm m, Ext G ρ1 H1 ρ H ∧ SR G W ρ H σm σ ∧ HR G ρ m H ∧ Post G (FlR G W) W ρ H (ends D) (MP.forN Γ.f t w cb n i σm m), ⟨MP.TRUE, ρ1, σm, m1, Ext.refl, sr.ext ex, hr1, p1⟩, ?_⟩
  rintro i n σ H ⟨ρ, σm, m, ex, sr, hr, p⟩
  cases n with
  | zero => exact False.elim p
  | succ n =>
    have z := ir ρ m H ex hr i
    have p : Post G (FlR G W) W ρ H (ends D) (match w.next m i with
      | .done => .ok (.next σm) m
      | .item v => (t Γ.f v σm m).bind fun σ m => (MP.block Γ.f cb σ m).bind fun fl m => match fl with
        | .next σ => MP.forN Γ.f t w cb n (i + 1) σ m
        | .cont σ => MP.forN Γ.f t w cb n (i + 1) σ m
        | .brk σ => .ok (.next σ) m
        | .ret v => .ok (.ret v) m
      | .odd => .bad 101) := p
    cases e : w.next m i with
    | done =>
      rw [e] at z p
      exact .inl ⟨z, (show ends D (FV.nx σ) H from Post.done (Rl := FlR G W) p hr sr)⟩
    | odd => rw [e] at p; exact p.elim
    | item v =>
      rw [e] at z p
      refine .inr ⟨z.1, fun σ H => ∃ ρ σm m, Ext G ρ1 H1 ρ H ∧ SR G W ρ H σm σ ∧ HR G ρ m H ∧ Post G (FlR G W) W ρ H (ends D) (MP.forN Γ.f t w cb n (i + 1) σm m), fun σ' H' h => ⟨n, Nat.lt_succ_self n, h⟩, fun x H2 y => ?_⟩
      obtain ⟨ρ2, ex2, hr2, vr⟩ := z.2 x H2 y
      have p2 := Post.at p ex2
      refine ⟨ρ2, σm, m, v, sr.ext ex2, hr2, vr, (Post.bind (Rl := SR G W) p2).mono fun σ' H3 ⟨ρ3, σm', m3, e3, ex3, hr3, sr3, p3⟩ => ?_⟩
      refine ⟨ρ3, σm', m3, sr3, hr3, (Post.bind (Rl := FlR G W) p3).mono fun fv H4 ⟨ρ4, fl, m4, e4, ex4, hr4, vr4, q⟩ => ?_⟩
      have E4 : Ext G ρ1 H1 ρ4 H4 := ((ex.trans ex2).trans ex3).trans ex4
      cases fl with
      | next σm' =>
        cases fv with
        | nx σ' => exact ⟨ρ4, σm', m4, E4, vr4, hr4, q⟩
        | _ => exact False.elim vr4
      | brk σm' =>
        cases fv with
        | bk σ' => exact (show ends D (FV.nx σ') H4 from Post.done (Rl := FlR G W) q hr4 vr4)
        | _ => exact False.elim vr4
      | cont σm' =>
        cases fv with
        | ct σ' => exact ⟨ρ4, σm', m4, E4, vr4, hr4, q⟩
        | _ => exact False.elim vr4
      | ret v =>
        cases fv with
        | rt x => exact (show ends D (FV.rt x) H4 from Post.done (Rl := FlR G W) q hr4 vr4)
        | _ => exact False.elim vr4
/-! ### what is walked -/
theorem nth_get {α : Type} : ∀ (l : List α) (i : Nat), MP.nth l i = l[i]?
  | [], i => by cases i <;> rfl
  | x :: r, 0 => rfl
  | x :: r, i + 1 => by
    show MP.nth r i = _
    rw [nth_get r i]
    simp
theorem VRs.get {ρ : Rho} : ∀ {vs : List MP.Val} {us : List V}, VRs G ρ H vs us → ∀ {i : Nat} {v : MP.Val}, vs[i]? = some v → ∃ x, us[i]? = some x ∧ VR G ρ H v x
  | [], _, _, i, v, e => by simp at e
  | w :: vs, _, h, 0, v, e => by
    unfold VRs at h
    obtain ⟨x, r, rfl, h1, h2⟩ := h
    simp at e; subst e
    exact ⟨x, rfl, h1⟩
  | w :: vs, _, h, i + 1, v, e => by
    unfold VRs at h
    obtain ⟨x, r, rfl, h1, h2⟩ := h
    obtain ⟨y, e1, r1⟩ := VRs.get h2 (i := i) (v := v) (by simpa using e)
    exact ⟨y, by simpa using e1, r1⟩
theorem VRs.none {ρ : Rho} {vs : List MP.Val} {us : List V} (h : VRs G ρ H vs us) {i : Nat} (e : vs[i]? = none) : us.length ≤ i := by
  rw [h.length]
  exact List.getElem?_eq_none_iff.mp e
/-- a tuple -/
theorem ItR.tup {ρ : Rho} {vs : List MP.Val} {us : List V} {a : Addr} (q : SqT G.K H a us) (r : VRs G ρ H vs us) : ItR G ρ H (.vals vs) (Itt G.K a) := fun ρ' m' H' ex hr i => by
  have q' := ex.kp.tup a us q
  have r' := r.ext ex
  show match MP.nxOf (MP.nth vs i) with | .done => _ | .item v => _ | .odd => _
  rw [nth_get]
  cases e : vs[i]? with
  | none => exact ⟨us, q', r'.none e⟩
  | some v =>
    obtain ⟨x, e1, r1⟩ := r'.get e
    refine ⟨⟨us, x, q', e1⟩, fun y H2 ⟨hh, hy⟩ => ?_⟩
    subst hh
    have := hy us q'
    rw [e1] at this
    cases this
    exact ⟨ρ', Ext.refl, hr, r1⟩
theorem lstAt_of {ρ : Rho} {m : MP.M} {k : Nat} {vs : List MP.Val} {a : Addr} (hr : HR G ρ m H) (e : MP.lstAt m k = some vs) (hk : G.ro[k]? = some a ∨ ρ k = some a) : ∃ us, SqL G.K H a us ∧ VRs G ρ H vs us := by
  unfold MP.lstAt at e
  cases e1 : m.t.get k with
  | none => rw [e1] at e; cases e
  | some o =>
    rw [e1] at e
    rcases hk with hk | hk
    · obtain ⟨o', e2, r⟩ := hr.ro k a hk
      rw [e1] at e2; cases e2
      cases o with
      | rol ys =>
        cases e
        obtain ⟨us, h1, h2⟩ := r
        exact ⟨us, h1.sq, h2⟩
      | _ => exact r.elim
    · have r := hr.obj k o a e1 hk
      cases o with
      | lst ys =>
        cases e
        obtain ⟨us, h1, h2⟩ := r
        exact ⟨us, SqL.of h1, h2⟩
      | rol ys => exact r.elim
      | _ => cases e
/-- a list, as it stands at each turn -/
theorem ItR.seq {ρ : Rho} {k : Nat} {a : Addr} (hk : G.ro[k]? = some a ∨ ρ k = some a) : ItR G ρ H (.seq k) (Itl G.K a) := fun ρ' m' H' ex hr i => by
  show match (match MP.lstAt m' k with | some xs => MP.nxOf (MP.nth xs i) | .none => .odd) with | .done => _ | .item v => _ | .odd => _
  cases e0 : MP.lstAt m' k with
  | none => trivial
  | some vs =>
    obtain ⟨us, q', r'⟩ := lstAt_of hr e0 (hk.imp id (ex.le k a))
    show match MP.nxOf (MP.nth vs i) with | .done => _ | .item v => _ | .odd => _
    rw [nth_get]
    cases e : vs[i]? with
    | none => exact ⟨us, q', r'.none e⟩
    | some v =>
      obtain ⟨x, e1, r1⟩ := r'.get e
      refine ⟨⟨us, x, q', e1⟩, fun y H2 ⟨hh, hy⟩ => ?_⟩
      subst hh
      have := hy us q'
      rw [e1] at this
      cases this
      exact ⟨ρ', Ext.refl, hr, r1⟩
theorem charsV_get : ∀ (s : List Nat) (i : Nat), (MP.charsV s)[i]? = (s[i]?).map fun c => MP.Val.str [c]
  | [], i => by simp [MP.charsV]
  | c :: r, 0 => rfl
  | c :: r, i + 1 => by
    show (MP.charsV r)[i]? = _
    rw [charsV_get r i]
    simp
/-- a text -/
theorem ItR.str {ρ : Rho} {s : List Nat} (hs : ∀ c ∈ s, c < 128) : ItR G ρ H (.vals (MP.charsV s)) (Its ⟨s.toArray⟩) := fun ρ' m' H' ex hr i => by
  show match MP.nxOf (MP.nth (MP.charsV s) i) with | .done => _ | .item v => _ | .odd => _
  rw [nth_get, charsV_get]
  cases e : s[i]? with
  | none =>
    show (⟨s.toArray⟩ : Str).cps.size ≤ i
    simpa using List.getElem?_eq_none_iff.mp e
  | some c =>
    have hi : i < s.length := (List.getElem?_eq_some_iff.mp e).1
    refine ⟨show i < (⟨s.toArray⟩ : Str).cps.size by simpa using hi, fun y H2 ⟨hh, c', ec, hy⟩ => ?_⟩
    subst hh
    have e' : s[i]? = some c' := by simpa using ec
    rw [e] at e'
    cases e'
    exact ⟨ρ', Ext.refl, hr, hy, fun d hd => by
      have : d = c := by simpa using hd
      subst this
      exact hs d (List.mem_of_getElem? e)⟩
/-- range by ones -/
theorem ItR.rng {ρ : Rho} {lo : Int} {n : Nat} : ItR G ρ H (.rng lo 1 n) (Itr lo n) := fun ρ' m' H' ex hr i => by
  show match (match Nat.blt i n with | true => MP.Nx.item (.int (lo + Int.ofNat i * 1)) | false => .done) with | .done => _ | .item v => _ | .odd => _
  cases e : Nat.blt i n with
  | true =>
    have hi : i < n := Nat.le_of_ble_eq_true e
    refine ⟨hi, fun y H2 ⟨hh, hy⟩ => ?_⟩
    subst hh
    refine ⟨ρ', Ext.refl, hr, ?_⟩
    show y = .int (lo + Int.ofNat i * 1)
    rw [hy, Int.mul_one]
    rfl
  | false =>
    show n ≤ i
    apply Nat.le_of_not_lt
    intro q
    have : Nat.blt i n = true := Nat.ble_eq_true_of_le q
    rw [this] at e; cases e
end
end Snd
set_option Elab.async false
set_option linter.all false
set_option maxRecDepth 100000
set_option maxHeartbeats 4000000
/-! Snd6: list comprehensions. -/
namespace Snd
open PySem PySem.Spec PyProof.Rows L2
theorem set_wipe (i : Nat) (x : Option V) : ∀ (vs : List Nat) (σ : L2.St), wipe (σ.set i x) vs = if i ∈ vs then wipe σ vs else (wipe σ vs).set i x
  | [], σ => by simp [wipe]
  | v :: vs, σ => by
    show (wipe (σ.set i x) vs).set v none = if i ∈ v :: vs then (wipe σ vs).set v none else ((wipe σ vs).set v none).set i x
    rw [set_wipe i x vs σ]
    by_cases h : i ∈ vs
    · rw [if_pos h, if_pos (List.mem_cons_of_mem _ h)]
    · rw [if_neg h]
      by_cases e : i = v
      · subst e
        rw [if_pos List.mem_cons_self, List.set_set]
      · rw [if_neg (by simp [e, h]), List.set_comm _ _ e]
theorem SR.unset {G : Gp} {ρ : Rho} {H : Hp} {σm : List MP.Val} {σ : L2.St} (h : SR G noPost ρ H σm σ) (i : Nat) : SR G noPost ρ H (MP.setN .und σm i) (σ.set i none) := by
  refine ⟨by rw [List.length_set, setN_length, h.len], fun j w e n => ?_, trivial⟩
  rw [nth_set] at e
  by_cases hj : j = i ∧ i < σm.length
  · rw [if_pos hj] at e
    cases e
    exact absurd rfl n
  · rw [if_neg hj] at e
    obtain ⟨y, e1, r1⟩ := h.at_ j w e n
    refine ⟨y, ?_, r1⟩
    by_cases hji : j = i
    · subst hji
      have : ¬ j < σm.length := fun z => hj ⟨rfl, z⟩
      obtain ⟨q, _⟩ := List.getElem?_eq_some_iff.mp e1
      rw [h.len] at q
      exact absurd q this
    · rw [List.getElem?_set_ne (Ne.symm hji)]
      exact e1
theorem SR.wipe {G : Gp} {ρ : Rho} {H : Hp} {σm : List MP.Val} {σ : L2.St} (h : SR G noPost ρ H σm σ) : ∀ own : List Nat, SR G noPost ρ H (MP.wipe own σm) (L2.wipe σ own)
  | [] => h
  | i :: r => (h.wipe r).unset i
/-- a target of a comprehension: it stores the block's own names alone -/
def trGo (G : Gp) (f : MP.Cx) (W : XPost) (own : List Nat) (t : MP.Tg) : TG := fun x σ H Q => ∃ ρ σm m v, SR G W ρ H σm σ ∧ HR G ρ m H ∧ VR G ρ H v x ∧ Post G (fun ρ' H' σm' σ' => SR G W ρ' H' σm' σ' ∧ L2.wipe σ' own = L2.wipe σ own) W ρ H Q (t f v σm m)
def trGos (G : Gp) (f : MP.Cx) (W : XPost) (own : List Nat) (ts : List MP.Tg) : TGs := fun xs σ H Q => ∃ ρ σm m vs, SR G W ρ H σm σ ∧ HR G ρ m H ∧ VRs G ρ H vs xs ∧ Post G (fun ρ' H' σm' σ' => SR G W ρ' H' σm' σ' ∧ L2.wipe σ' own = L2.wipe σ own) W ρ H Q (MP.asgs f ts vs σm m)
def OkGo (G : Gp) (Γ : Cn) (own : List Nat) (e : Expr) (t : MP.Tg) : Prop := ∀ (W : XPost) (X : Cx), Fit G Γ W X → PG X e (trGo G Γ.f W own t)
def OkGos (G : Gp) (Γ : Cn) (own : List Nat) (es : List Expr) (ts : List MP.Tg) : Prop := ∀ (W : XPost) (X : Cx), Fit G Γ W X → PGs X es (trGos G Γ.f W own ts)
def trC (G : Gp) (f : MP.Cx) (W : XPost) : Option MP.E → TT
  | none => tYes
  | some q => trT G f W q
def OkC (G : Gp) (Γ : Cn) (ifs : List Expr) (c : Option MP.E) : Prop := ∀ (W : XPost) (X : Cx), Fit G Γ W X → PTs X ifs (trC G Γ.f W c)
def Cn.blk (Γ : Cn) (scope : Scope) : Cn := { Γ with sc := relS scope Γ.sc, fn := fun x => scope.names.lookup x == some .cell, opn := true, top := false }
section
variable {G : Gp} {Γ : Cn} {W : XPost} {σ : L2.St} {H : Hp} {f : MP.Cx}
theorem okC_none : OkC G Γ [] none := fun W X F => pts_nil
theorem okC_some {c : Expr} {q : MP.E} (h : OkT G Γ c q) : OkC G Γ [c] (some q) := fun W X F => pts_one (h W X F)
theorem okGo_loc {own : List Nat} {i : Nat} {x : Str} {pos : Pos} (hN : Γ.N[i]? = some x) (hx : Loc Γ.sc x) (hf : Γ.fn x = true ∨ Γ.sc.names.lookup x = some .local) (ho : i ∈ own) (hop : Γ.opn = true) : OkGo G Γ own (.Name x pos) (.loc i) := fun W X F => by
  refine PG.weak (pg_name (i := i) (by rw [F.hN]; exact F.nd) (by rw [F.hN]; exact hN) (by rw [F.hsc]; exact hx) (by rw [F.hfn, F.hsc]; exact hf)) fun v σ H Q ⟨ρ, σm, m, w, sr, hr, vr, p⟩ => ?_
  refine Post.done (Rl := fun ρ' H' σm' σ' => SR G W ρ' H' σm' σ' ∧ L2.wipe σ' own = L2.wipe σ own) p hr ⟨sr.set vr i (F.opn hop _ _ _ sr.sg), ?_⟩
  rw [set_wipe, if_pos ho]
theorem okGos_nil {own : List Nat} : OkGos G Γ own [] [] := fun W X F => by
  refine PGs.weak pgs_nil fun vs σ H Q ⟨ρ, σm, m, ws, sr, hr, vr, p⟩ => ?_
  cases ws with
  | nil => unfold VRs at vr; exact ⟨vr, Post.done (Rl := fun ρ' H' σm' σ' => SR G W ρ' H' σm' σ' ∧ L2.wipe σ' own = L2.wipe σ own) p hr ⟨sr, rfl⟩⟩
  | cons w ws => exact False.elim p
theorem okGos_cons {own : List Nat} {e : Expr} {es : List Expr} {t : MP.Tg} {ts : List MP.Tg} (h : OkGo G Γ own e t) (hs : OkGos G Γ own es ts) (ha : ∀ env, (assignEach (e :: es) env).map (·.2) = assign e env :: (assignEach es env).map (·.2) := by intro _; rfl) : OkGos G Γ own (e :: es) (t :: ts) := fun W X F => by
  refine PGs.weak (pgs_cons (h W X F) (hs W X F) (ha X.env)) fun vs σ H Q ⟨ρ, σm, m, ws, sr, hr, vr, p⟩ => ?_
  cases ws with
  | nil => exact False.elim p
  | cons w ws =>
    unfold VRs at vr
    obtain ⟨x, r, rfl, v1, v2⟩ := vr
    refine ⟨x, r, rfl, ρ, σm, m, w, sr, hr, v1, (Post.bind (Rl := fun ρ' H' σm' σ' => SR G W ρ' H' σm' σ' ∧ L2.wipe σ' own = L2.wipe σ own) p).mono fun σ' H1 ⟨ρ1, σm', m1, e, ex, hr1, ⟨sr1, w1⟩, q⟩ => ?_⟩
    refine ⟨ρ1, σm', m1, ws, sr1, hr1, v2.ext ex, ?_⟩
    rw [w1]
    exact q
theorem okGo_tup {own : List Nat} {es : List Expr} {ts : List MP.Tg} {k : Nat} {pos : Pos} (h : OkGos G Γ own es ts) (hl : ts.length = es.length := by rfl) (hn : ∀ env, (assignEach es env).length = es.length := by intro _; rfl) (hst : ∀ env, (assignEach es env).findIdx? (·.1) = none := by intro _; rfl) : OkGo G Γ own (.Tuple es k pos) (.tup ts) := fun W X F => by
  refine PG.weak (pg_tup (n := es.length) F.calm (h W X F) (hn X.env) (hst X.env)) fun x σ H Q ⟨ρ, σm, m, w, sr, hr, vr, p⟩ => ?_
  cases w with
  | tup vs =>
    unfold VR at vr
    obtain ⟨a, us, rfl, q, r⟩ := vr
    have p : Post G (fun ρ' H' σm' σ' => SR G W ρ' H' σm' σ' ∧ L2.wipe σ' own = L2.wipe σ own) W ρ H Q (MP.Tg.tupN Γ.f ts vs σm m) := p
    unfold MP.Tg.tupN at p
    cases e : Nat.beq vs.length ts.length with
    | false => rw [e] at p; exact p.elim
    | true =>
      rw [e] at p
      have hlen := Nat.eq_of_beq_eq_true e
      exact ⟨a, us, rfl, by rw [F.hK]; exact q, by rw [r.length, hlen, hl], ρ, σm, m, vs, sr, hr, r, p⟩
  | _ => exact False.elim p
theorem compN_len {f : MP.Cx} {t : MP.Tg} {w : MP.ItV} {c : Option MP.E} {e : MP.E} : ∀ {n i : Nat} {σm acc : List MP.Val} {m m' : MP.M} {vs : List MP.Val}, MP.compN f t w c e n i σm acc m = .ok vs m' → acc.length ≤ vs.length
  | 0, i, σm, acc, m, m', vs, h => by cases h
  | n + 1, i, σm, acc, m, m', vs, h => by
    unfold MP.compN at h
    cases e1 : w.next m i with
    | done => rw [e1] at h; cases h; exact Nat.le_refl _
    | odd => rw [e1] at h; cases h
    | item v =>
      rw [e1] at h
      simp only at h
      cases e2 : t f v σm m with
      | ex _ _ => rw [e2] at h; cases h
      | bad _ => rw [e2] at h; cases h
      | ok σ' m1 =>
        rw [e2] at h
        simp only [MP.R.bind] at h
        cases c with
        | none =>
          simp only at h
          cases e3 : e f σ' m1 with
          | ex _ _ => rw [e3] at h; cases h
          | bad _ => rw [e3] at h; cases h
          | ok x m2 =>
            rw [e3] at h
            have := compN_len (acc := x :: acc) h
            simp at this
            omega
        | some q =>
          simp only at h
          cases e3 : q f σ' m1 with
          | ex _ _ => rw [e3] at h; cases h
          | bad _ => rw [e3] at h; cases h
          | ok b m2 =>
            rw [e3] at h
            simp only at h
            cases b with
            | bool y =>
              simp only [MP.truth] at h
              cases y with
              | false => exact compN_len h
              | true =>
                simp only at h
                cases e4 : e f σ' m2 with
                | ex _ _ => rw [e4] at h; cases h
                | bad _ => rw [e4] at h; cases h
                | ok x m3 =>
                  rw [e4] at h
                  have := compN_len (acc := x :: acc) h
                  simp at this
                  omega
            | _ => cases h
theorem noEx_ok {α : Type} {r : MP.R α} {k : α → MP.M → MP.R MP.Val} {ρ : Rho} {Q : VK} (p : Post G (VR G) W ρ H Q ((MP.noEx r).bind k)) : ∃ vs m, r = .ok vs m ∧ Post G (VR G) W ρ H Q (k vs m) := by
  cases r with
  | ok a m => exact ⟨a, m, rfl, p⟩
  | ex v m => exact False.elim p
  | bad n => exact False.elim p
theorem Fit.blk {X : Cx} (F : Fit G Γ W X) {s : Shared} {H : Hp} {scope : Scope} {C : Addr} {cl : List (Str × Addr)} {fp : List Addr} : Fit G (Γ.blk scope) noPost (X.blk s H scope (compEnvC scope cl C X.env) fp) where
  hK := F.hK
  hmg := F.hmg
  hN := F.hN
  hsc := by show relS scope X.env.scope = relS scope Γ.sc; rw [F.hsc]
  calm := F.calm
  nd := F.nd
  room := F.room
  hfn := rfl
  calls := F.calls
  takes := fun u s' ⟨a, B, sI, pins, σ, H, cls, d, e, I, nb, up, sky, na, os, ag, w⟩ => by
    obtain ⟨_, _, _, _, z⟩ := w
    exact z.elim
  passes := PassesOwn.never
  opn := fun _ _ _ _ _ => trivial
  top := fun h => by cases h
theorem VRs.snoc {ρ : Rho} {vs : List MP.Val} {us : List V} {v : MP.Val} {x : V} (h : VRs G ρ H vs us) (h' : VR G ρ H v x) : VRs G ρ H (vs ++ [v]) (us ++ [x]) :=
  h.append (by unfold VRs; exact ⟨x, [], rfl, h', by unfold VRs; rfl⟩)
/-- a comprehension's run by its reading -/
theorem lc_read {t : MP.Tg} {it : MP.It} {own : List Nat} {c : Option MP.E} {e : MP.E} {names : List (Str × Nat)} (ho : names.map (·.2) = own) {Q : VK} (h : trE G Γ.f W (.lc t it own c e) σ H Q) :
    tLc (trI G Γ.f W it) (trGo G Γ.f noPost own t) (trC G Γ.f noPost c) (trE G Γ.f noPost e) (names.map (·.2)) σ H Q := by
  obtain ⟨ρ, σm, m, sr, hr, p⟩ := h
  rw [ho]
  refine ⟨ρ, σm, m, sr, hr, (Post.bind (Rl := ItR G) p).mono fun J H1 ⟨ρ1, w, m1, e1, ex1, hr1, ir, p1⟩ => ?_⟩
  obtain ⟨vs, m', er, p1⟩ := noEx_ok p1
  obtain ⟨hfit, p1⟩ := fits_of p1
  intro D hD
  have noD : ∀ k, ρ1 k ≠ some D := fun k z => by
    obtain ⟨u, y, _⟩ := hr1.wr z
    rw [hD] at y; cases y
  have sr1 := sr.ext ex1
  obtain ⟨hrD, exD⟩ := hr1.beside (o := .lst []) hD
  refine ⟨fun i n H => ∃ ρ m acc us, Ext G ρ1 H1 ρ H ∧ HR G ρ m H ∧ H D = some (.lst us) ∧ (∀ k, ρ k ≠ some D) ∧ VRs G ρ H acc.reverse us ∧ MP.compN Γ.f t w c e n i (MP.wipe own σm) acc m = .ok vs m',
    ⟨MP.TRUE, ρ1, m1, [], [], exD, hrD, upd_same, noD, (by show VRs G ρ1 _ [] []; unfold VRs; rfl), er⟩, ?_⟩
  rintro i n H ⟨ρ, m, acc, us, ex, hr, hHD, nD, vr, run⟩
  cases n with
  | zero => cases run
  | succ n =>
    have z := ir ρ m H ex hr i
    have run0 := run
    unfold MP.compN at run
    cases e2 : w.next m i with
    | odd => rw [e2] at run; cases run
    | done =>
      rw [e2] at z run
      cases run
      refine .inl ⟨z, ?_⟩
      have new : OR G (rhoAt ρ m'.n D) H D (.lst vs.reverse) := ⟨us, hHD, vr.mono (Le.new hr) Keep.refl⟩
      have hr2 := hr.adopt nD hr.roLen new
      refine p1 _ _ _ ⟨ex.le.trans (Le.new hr), ex.kp, fun a u ea na => ?_⟩ hr2 ?_
      · obtain ⟨q1, q2⟩ := ex.fr a u ea na
        refine ⟨q1, fun k hk => ?_⟩
        unfold rhoAt at hk
        split at hk
        · cases hk
          rw [hD] at ea; cases ea
        · exact q2 k hk
      · unfold VR
        exact ⟨D, rfl, .inr rhoAt_self⟩
    | item v =>
      rw [e2] at z run
      refine .inr ⟨z.1, fun H => ∃ ρ m acc us, Ext G ρ1 H1 ρ H ∧ HR G ρ m H ∧ H D = some (.lst us) ∧ (∀ k, ρ k ≠ some D) ∧ VRs G ρ H acc.reverse us ∧ MP.compN Γ.f t w c e n (i + 1) (MP.wipe own σm) acc m = .ok vs m', fun H' h => ⟨n, Nat.lt_succ_self n, h⟩, fun x H2 y => ?_⟩
      obtain ⟨ρ2, ex2, hr2, vx⟩ := z.2 x H2 y
      obtain ⟨hHD2, nD2⟩ := ex2.fr D _ hHD nD
      have E2 := ex.trans ex2
      simp only at run
      cases e3 : t Γ.f v (MP.wipe own σm) m with
      | ex _ _ => rw [e3] at run; cases run
      | bad _ => rw [e3] at run; cases run
      | ok σm' m3 =>
        rw [e3] at run
        simp only [MP.R.bind] at run
        refine ⟨ρ2, MP.wipe own σm, m, v, (sr1.free.wipe own).ext E2, hr2, vx, ?_⟩
        show Post G _ noPost ρ2 H2 _ (t Γ.f v (MP.wipe own σm) m)
        rw [e3]
        intro ρ3 H3 σ3 ex3 hr3 ⟨sr3, w3⟩
        obtain ⟨hHD3, nD3⟩ := ex3.fr D _ hHD2 nD2
        have E3 := E2.trans ex3
        have vr3 : VRs G ρ3 H3 acc.reverse us := (vr.ext ex2).ext ex3
        have wp : L2.wipe (L2.wipe σ own) own = L2.wipe σ own := by
          have aux : ∀ (ws vs : List Nat), (∀ a ∈ ws, a ∈ vs) → L2.wipe (L2.wipe σ ws) vs = L2.wipe σ vs := by
            intro ws
            induction ws with
            | nil => intro vs _; rfl
            | cons a r ih =>
              intro vs hv
              show L2.wipe ((L2.wipe σ r).set a none) vs = _
              rw [set_wipe, if_pos (hv a List.mem_cons_self)]
              exact ih vs fun b hb => hv b (List.mem_cons_of_mem _ hb)
          exact aux own own fun _ h => h
        refine ⟨w3.trans wp, ?_⟩
        -- the element
        have fin : ∀ {mm : MP.M} {ρ4 : Rho} {H4 : Hp}, Ext G ρ3 H3 ρ4 H4 → HR G ρ4 mm H4 → ((e Γ.f σm' mm).bind fun x m => MP.compN Γ.f t w c e n (i + 1) (MP.wipe own σm) (x :: acc) m) = .ok vs m' →
            trE G Γ.f noPost e σ3 H4 fun y H5 => ∃ ac, H5 D = some (.lst ac) ∧ ac.length < sizeLine ∧ ∃ ρ m acc us, Ext G ρ1 H1 ρ (upd H5 D (.lst (ac ++ [y]))) ∧ HR G ρ m (upd H5 D (.lst (ac ++ [y]))) ∧ (upd H5 D (.lst (ac ++ [y]))) D = some (.lst us) ∧ (∀ k, ρ k ≠ some D) ∧ VRs G ρ (upd H5 D (.lst (ac ++ [y]))) acc.reverse us ∧ MP.compN Γ.f t w c e n (i + 1) (MP.wipe own σm) acc m = .ok vs m' := by
          intro mm ρ4 H4 ex4 hr4 run4
          cases e4 : e Γ.f σm' mm with
          | ex _ _ => rw [e4] at run4; cases run4
          | bad _ => rw [e4] at run4; cases run4
          | ok xv m5 =>
            rw [e4] at run4
            have run4 : MP.compN Γ.f t w c e n (i + 1) (MP.wipe own σm) (xv :: acc) m5 = .ok vs m' := run4
            refine ⟨ρ4, σm', mm, sr3.ext ex4, hr4, ?_⟩
            show Post G _ noPost ρ4 H4 _ (e Γ.f σm' mm)
            rw [e4]
            intro ρ5 H5 y5 ex5 hr5 vy
            obtain ⟨hHD4, nD4⟩ := ex4.fr D _ hHD3 nD3
            obtain ⟨hHD5, nD5⟩ := ex5.fr D _ hHD4 nD4
            have E5 := (E3.trans ex4).trans ex5
            have hlen : us.length < sizeLine := by
              have h1 := compN_len run4
              have h2 := vr.length
              rw [List.length_reverse] at h2
              simp only [List.length_cons] at h1
              omega
            have kp5 : Keep G.K H5 (upd H5 D (.lst (us ++ [y5]))) := Keep.write hHD5 trivial
            refine ⟨us, hHD5, hlen, ρ5, m5, xv :: acc, us ++ [y5], ⟨E5.le, E5.kp.trans kp5, fun a u ea na => ?_⟩, hr5.other nD5 hHD5 trivial, upd_same, nD5, ?_, run4⟩
            · obtain ⟨q1, q2⟩ := E5.fr a u ea na
              refine ⟨?_, q2⟩
              rw [upd_ne (by rintro rfl; rw [hD] at ea; cases ea)]
              exact q1
            · rw [List.reverse_cons]
              exact (((vr3.ext ex4).ext ex5).mono Le.refl kp5).snoc (vy.mono Le.refl kp5)
        cases c with
        | none =>
          simp only [trC, tYes, if_true]
          exact fin Ext.refl hr3 run
        | some q =>
          simp only at run
          cases e4 : q Γ.f σm' m3 with
          | ex _ _ => rw [e4] at run; cases run
          | bad _ => rw [e4] at run; cases run
          | ok b m4 =>
            rw [e4] at run
            refine ⟨ρ3, σm', m3, sr3, hr3, ?_⟩
            show Post G _ noPost ρ3 H3 _ (q Γ.f σm' m3)
            rw [e4]
            intro ρ4 H4 yb ex4 hr4 vb
            cases b with
            | bool bb =>
              cases vb
              refine ⟨bb, rfl, ?_⟩
              simp only [MP.truth] at run
              cases bb with
              | true =>
                rw [if_pos rfl]
                exact fin ex4 hr4 run
              | false =>
                rw [if_neg Bool.false_ne_true]
                obtain ⟨hHD4, nD4⟩ := ex4.fr D _ hHD3 nD3
                exact ⟨ρ4, m4, acc, us, E3.trans ex4, hr4, hHD4, nD4, vr3.ext ex4, run⟩
            | _ => cases run
theorem ok_lc {tg iter elt : Expr} {ifs : List Expr} {scope : Scope} {pos : Pos} {t : MP.Tg} {it : MP.It} {own : List Nat} {c : Option MP.E} {e : MP.E} {names : List (Str × Nat)}
    (hi : OkI G Γ tg iter it) (hb : BlkOk Γ.N Γ.sc scope names) (ho : names.map (·.2) = own) (hg : OkGo G (Γ.blk scope) own tg t) (hc : OkC G (Γ.blk scope) ifs c) (he : OkE G (Γ.blk scope) elt e)
    (hs : ∀ env x, foldedSetIterable iter env x = pure x := by intro _ _; rfl) : OkE G Γ (.ListComp elt [⟨tg, iter, ifs, 0⟩] scope pos) (.lc t it own c e) := fun W X F =>
  PE.weak (pe_lc (own := names) F.calm (by rw [F.hN]; exact F.nd) (hi W X F) (by rw [F.hN, F.hsc]; exact hb) (fun _ _ _ _ _ => hg noPost _ F.blk) (fun _ _ _ _ _ => hc noPost _ F.blk) (fun _ _ _ _ _ => he noPost _ F.blk) (hs X.env)) fun σ H Q h => lc_read ho h
/-- x = [.. for ..] -/
theorem okS_setLc {y : Str} {i : Nat} {tg iter elt : Expr} {ifs : List Expr} {scope : Scope} {py pos spos : Pos} {t : MP.Tg} {it : MP.It} {own : List Nat} {c : Option MP.E} {e : MP.E} {names : List (Str × Nat)}
    (hy : Γ.N[i]? = some y) (hyl : Γ.sc.names.lookup y = some .local) (hop : Γ.opn = true) (hi : OkI G Γ tg iter it) (hb : BlkOk Γ.N Γ.sc scope names) (ho : names.map (·.2) = own) (hg : OkGo G (Γ.blk scope) own tg t) (hc : OkC G (Γ.blk scope) ifs c) (he : OkE G (Γ.blk scope) elt e)
    (hsw : ∀ env : Env, env.scope = Γ.sc → swapsWith (.ListComp elt [⟨tg, iter, ifs, 0⟩] scope pos) (some (.Name y py)) spos.line env = pure true)
    (hs : ∀ env x, foldedSetIterable iter env x = pure x := by intro _ _; rfl) : OkS G Γ (.Assign [.Name y py] (.ListComp elt [⟨tg, iter, ifs, 0⟩] scope pos) spos) (.asg (.loc i) (.lc t it own c e)) := fun W X F => by
  refine PS.weak (ps_setLc (own := names) F.calm (by rw [F.hN]; exact F.nd) (by rw [F.hN]; exact hy) (by rw [F.hsc]; exact hyl) (hsw X.env F.hsc) (hi W X F) (by rw [F.hN, F.hsc]; exact hb) (fun _ _ _ _ _ => hg noPost _ F.blk) (fun _ _ _ _ _ => hc noPost _ F.blk) (fun _ _ _ _ _ => he noPost _ F.blk) (hs X.env)) fun D σ H ⟨ρ, σm, m, sr, hr, p⟩ => ?_
  show tLc (trI G Γ.f W it) (trGo G Γ.f noPost own t) (trC G Γ.f noPost c) (trE G Γ.f noPost e) (names.map (·.2)) σ H (fun x H1 => gName i x σ H1 fun σ' H' => D.nx σ' H')
  refine lc_read (W := W) ho (step sr hr p fun ρ1 v m1 x H1 sr1 hr1 vr _ p1 => ?_)
  exact (show ends D (FV.nx _) H1 from Post.done (Rl := FlR G W) (x := FV.nx (σ.set i (some x))) p1 hr1 (sr1.set vr i (F.opn hop _ _ _ sr1.sg)))

end
end Snd
set_option Elab.async false
set_option linter.all false
set_option maxRecDepth 100000
set_option maxHeartbeats 4000000
/-! Snd7: calls; a def by its body. -/
namespace Snd
open PySem PySem.Spec PyProof.Rows L2
section
variable {G : Gp} {Γ : Cn} {W : XPost} {σ : L2.St} {H : Hp} {f : MP.Cx}
theorem VRs.vals_len {ρ : Rho} {ws : List MP.Val} {vs : List V} (h : VRs G ρ H ws vs) : vs.length = ws.length := h.length
/-- a known def is run -/
theorem runD {X : Cx} {pins : List (Addr × Obj)} {s : Shared} {Q : VK} {g : Nat} {fa : Addr} {fd : FuncData} {ps : List Str} {us : List Value} {vs : List V} {ρ : Rho} {ws : List MP.Val} {m : MP.M} (F : Fit G Γ W X) (hr : RoomD (Γ.d - 1) X.A) (hfn : G.fn g = some (fa, fd, ps))
    (hb : Binds G.K fd ps []) (I : Inv X pins σ H s) (hsg : W.sg σ) (r : Vals vs us) (hm : HR G ρ m H) (hv : VRs G ρ H ws vs) (hl : ws.length = ps.length) (p : Post G (VR G) W ρ H Q (Γ.f.call g ws m)) : wpAny (model X.prog X.w) X.A (call (.ref fa) us) (EP X pins σ Q) X.xe s := by
  have hl2 : (us ++ ([] : List Value)).length = ps.length := by rw [List.append_nil, ← r.length, hv.length, hl]
  have e0 := I.env0
  rw [F.hK, F.hmg] at e0
  have kin := I.kIn
  rw [F.hK] at kin
  have hbt := hb s us kin hl2
  rw [List.append_nil] at hbt
  refine wpAny_call (codeAny_mono (F.calls g fa fd ps hfn X.A X.stack s H ⟨us, []⟩ us vs Q W ρ ws m hr e0 hbt r hm hv hl p) fun res s' hq => ?_)
  cases res with
  | error e => exact F.takes _ _ (XE.of_call (W := wx G W) I (fun cls d H' h => ⟨hsg, h⟩) hq)
  | ok fl =>
    cases fl with
    | ret u => exact I.after hq
    | next => exact False.elim hq
    | brk => exact False.elim hq
    | cont => exact False.elim hq
/-- what is known of a def that is called by its name -/
structure Def (G : Gp) (x : Str) (g : Nat) (fa : Addr) (fd : FuncData) (ps : List Str) : Prop where
  fn : G.fn g = some (fa, fd, ps)
  mg : G.mg x = some (.ref fa)
  kp : PySem.W.keepIn G.K (.ref fa) = true
  bd : Binds G.K fd ps []
theorem call_len {ρ : Rho} {Q : VK} {vs : List MP.Val} {m : MP.M} {g : Nat} {np : Nat} (hp : ∀ (vs : List MP.Val) m, vs.length ≠ np → ∃ n, f.call g vs m = .bad n) (p : Post G (VR G) W ρ H Q (f.call g vs m)) : vs.length = np := by
  by_cases h : vs.length = np
  · exact h
  · obtain ⟨n, e⟩ := hp vs m h
    rw [e] at p
    exact p.elim
theorem ok_call {x : Str} {g : Nat} {fa : Addr} {fd : FuncData} {ps : List Str} {e : Expr} {es : List Expr} {cs : List MP.E} {pp pos : Pos} (D : Def G x g fa fd ps) (hg : Γ.sc.names.lookup x = some .globalImplicit) (hl : cs.length = ps.length) (ha : OkA G Γ (e :: es) cs)
    (hdb : (x == ("__debug__" : Str)) = false := by decide) (he : ∀ env, starEach (e :: es) env = (false, eval e env) :: starEach es env := by intro _; rfl) (hpl : ∀ env, (backTo pos (starEach es env)).any (·.1) = false := by intro _; rfl) :
    OkE G Γ (.Call (.Name x pp) (e :: es) [] pos) (.call g cs) := fun W X F => by
  refine ⟨fun pins s σ H Q I ⟨ρ, σm, m, sr, hr, p⟩ => ?_⟩
  have room : RoomD (Γ.d - 1) X.A := F.room.mono (Nat.sub_le _ _)
  refine wpAny_Call_Name_kw (ld_glob I (by show X.env.scope.names.lookup x = _; rw [F.hsc]; exact hg) (by rw [F.hmg]; exact D.mg) ?_ hdb)
  have pa := ha W X F
  refine PySem.W.callWith_K (h₀ := X.base) I.ok.mod.kin (by rw [F.hK]; exact D.kp) (thn (pa.run pos pins s σ H _ I ⟨ρ, σm, m, sr, hr, Post.bind (Rl := VRs G) p⟩) fun us s1 ⟨vs, H1, I1, r, ρ1, ws, m1, e1, ex, hr1, vr, p1⟩ => ⟨I1.kIn, ?_⟩) (he X.env) (hpl X.env)
  exact runD F room D.fn D.bd I1 sr.sg r hr1 vr (by rw [evL_len _ _ _ _ _ _ e1, hl]) p1
theorem ok_call0 {x : Str} {g : Nat} {fa : Addr} {fd : FuncData} {pp pos : Pos} (D : Def G x g fa fd []) (hg : Γ.sc.names.lookup x = some .globalImplicit) (hdb : (x == ("__debug__" : Str)) = false := by decide) :
    OkE G Γ (.Call (.Name x pp) [] [] pos) (.call g []) := fun W X F => by
  refine ⟨fun pins s σ H Q I ⟨ρ, σm, m, sr, hr, p⟩ => ?_⟩
  have room : RoomD (Γ.d - 1) X.A := F.room.mono (Nat.sub_le _ _)
  refine wpAny_Call_Name_kw (ld_glob I (by show X.env.scope.names.lookup x = _; rw [F.hsc]; exact hg) (by rw [F.hmg]; exact D.mg) ?_ hdb)
  exact PySem.W.callWith_K0 I.kIn (by rw [F.hK]; exact D.kp) (runD (us := []) (vs := []) (ws := []) F room D.fn D.bd I sr.sg .nil hr (by unfold VRs; rfl) rfl p)
/-! ### a def by its body -/
theorem getD_rep {n i : Nat} {v : MP.Val} (h : MP.nth (MP.rep [MP.Val.und] n) i = some v) : v = .und := by
  induction n generalizing i with
  | zero => cases h
  | succ n ih =>
    cases i with
    | zero => cases h; rfl
    | succ i => exact ih (i := i) h
theorem rep_len {α : Type} (x : α) : ∀ n : Nat, (MP.rep [x] n).length = n
  | 0 => rfl
  | n + 1 => by
    show ([x] ++ MP.rep [x] n).length = _
    rw [List.length_append, rep_len x n]
    simp
    omega
theorem nth_app {α : Type} : ∀ (l r : List α) (i : Nat), MP.nth (l ++ r) i = if i < l.length then MP.nth l i else MP.nth r (i - l.length) := fun l r i => by
  rw [nth_get, nth_get, nth_get]
  by_cases h : i < l.length
  · rw [if_pos h, List.getElem?_append_left h]
  · rw [if_neg h, List.getElem?_append_right (by omega)]
/-- the slots at a def's entry -/
theorem SR.start {ρ : Rho} {ws : List MP.Val} {vs : List V} {N : List Str} (h : VRs G ρ H ws vs) (hl : ws.length ≤ N.length) (hs : W.sg (L2.start N vs)) : SR G W ρ H (MP.fill N.length ws) (L2.start N vs) := by
  have e := h.length
  refine ⟨?_, fun i v hv hn => ?_, hs⟩
  · show (vs.map some ++ List.replicate (N.length - vs.length) none).length = (ws ++ MP.rep [MP.Val.und] (N.length - ws.length)).length
    rw [List.length_append, List.length_append, List.length_map, List.length_replicate, rep_len, e]
  · have hv : MP.nth (ws ++ MP.rep [MP.Val.und] (N.length - ws.length)) i = some v := hv
    rw [nth_app] at hv
    by_cases hi : i < ws.length
    · rw [if_pos hi, nth_get] at hv
      obtain ⟨x, e1, r⟩ := h.get hv
      refine ⟨x, ?_, r⟩
      show (vs.map some ++ _)[i]? = _
      rw [List.getElem?_append_left (by rw [List.length_map, e]; exact hi), List.getElem?_map, e1]
      rfl
    · rw [if_neg hi] at hv
      exact absurd (getD_rep hv) hn
theorem RoomD.deep {d : Nat} {A : Around} (r : RoomD (d + 1) A) (env : Env) : RoomD d (A.deeper env) :=
  ⟨r.hd, by have := r.dp; show A.depth + 1 + d + 5 < _; omega, by have := r.un; show A.units + 3 + 4 * d + 400 < _; omega⟩
/-- the text of a def, where its run leads -/
structure Body (G : Gp) (name qual : Str) (st : Stmt) (fa : Addr) (fd : FuncData) : Prop where
  fun_ : ∃ (oc : Value) (od : Option Addr) (kV doc pm : Value) (an : Option Addr) (cdv ct : Value) (osl : Array (Option Value)),
    fd = PySem.W.fnOf name qual (defArgs st) (defBody st) (defScope st) .none kV doc pm an cdv ct ∧ G.K.lookup fa = some ⟨oc, od, .func fd, osl⟩ ∧ PySem.W.codeIn G.K cdv qual = true
theorem callOk_of {P : Program} {w : World} {base : Heap} {cx : MP.Cx} {d g : Nat} {name qual : Str} {st : Stmt} {N : List Str} {fn : MP.Fn} {cx' : MP.Cx}
    (hcx : ∀ vs m, cx'.call g vs m = MP.runFn fn cx vs m) (hns : fn.ns = N.length)
    (hB : ∀ f fd ps, G.fn g = some (f, fd, ps) → Body G name qual st f fd ∧ FnScope N ps (defScope st) ∧ ps.length ≤ N.length)
    (hbody : OkB G ⟨N, defScope st, cx, d, fun _ => true, true, true⟩ (defBody st) fn.body) (hcalls : ∀ g, CallOk G P w base cx (d - 1) g) : CallOk G P w base cx' (d + 1) g := by
  intro f fd ps hfn A outer s H args us vs Q W ρ ws m hr e0 hbt r hm hv hl p
  obtain ⟨⟨oc, od, kV, doc, pm, an, cdv, ct, osl, rfl, lk, hcd⟩, S, hle⟩ := hB f fd ps hfn
  have KX : G.K.In s.heap := e0.mod.kin.keeps fun b o e => (e0.bs b o e).1
  have lim : s.heap.NoLimit := e0.mod.nolimit.keeps fun b o e => (e0.bs b o e).1
  have hvl : vs.length = ps.length := by rw [hv.length, hl]
  have kinds : ∀ y ∈ ps.zip us, (defScope st).names.lookup y.1 = some .local ∨ ((defScope st).names.lookup y.1 = some .cell ∧ ((cellsFrom (s.heap.objs.size + 1) (defScope st).names []).lookup y.1).isSome = true) := by
    rintro ⟨n, v⟩ hy
    rcases S.par n (List.of_mem_zip hy).1 with q | q
    · exact Or.inl q
    · exact Or.inr ⟨q, PySem.W.cellsFrom_some _ _ _ (Or.inl q)⟩
  have deep : A.depth < recursionLimit := by have := hr.dp; omega
  refine codeAny_call_function deep (KX f _ lk) rfl S.co S.gen rfl (PySem.W.codeRec_of KX hcd) (hbt _ _ _ _ ?_)
  refine wpAny_newFunctionEnv_cells S.kind kinds fun env he s1 hin => ?_
  subst he
  refine ⟨lim.keeps hin.toInCall.keep, codeAny_func ?_⟩
  have I := inv_start (CX := CX P w) (qual := qual) (f := f) (cd := cdv) (E := wE G W) S hr.hd e0 hvl r hin
  have fit : Fit G ⟨N, defScope st, cx, d, fun _ => true, true, true⟩ ⟨W.post, fun _ => True⟩ (cxOf (CX P w) P w G.K G.mg base N qual (defScope st) f cdv A outer s H (wE G W)) :=
    { hK := rfl, hmg := rfl, hN := rfl, hsc := rfl, calm := rfl, nd := S.nd, room := hr.deep _, hfn := rfl, calls := hcalls, takes := (takes_of rfl rfl rfl rfl).imp (fun _ _ _ _ z => z.2), passes := passes_of rfl, opn := fun _ _ _ _ _ => trivial, top := fun _ => ⟨rfl, rfl⟩ }
  rw [hcx] at p
  unfold MP.runFn at p
  cases eb : Nat.beq ws.length fn.np with
  | false => rw [eb] at p; exact p.elim
  | true =>
    rw [eb, hns] at p
    have sr : SR G ⟨W.post, fun _ => True⟩ ρ H (MP.fill N.length ws) (L2.start N vs) := SR.start hv (by omega) trivial
    have pb : Post G (FlR G ⟨W.post, fun _ => True⟩) ⟨W.post, fun _ => True⟩ ρ H (ends { nx := fun _ H' => Q .non H', rt := Q }) (MP.block cx fn.body (MP.fill N.length ws) m) := by
      have p : Post G (VR G) W ρ H Q (MP.endOf (MP.block cx fn.body (MP.fill N.length ws) m)) := p
      cases hbk : MP.block cx fn.body (MP.fill N.length ws) m with
      | bad n => rw [hbk] at p; exact p.elim
      | ex v m' => rw [hbk] at p; exact p
      | ok fl m' =>
        rw [hbk] at p
        cases fl with
        | next σm' =>
          intro ρ' H' fv ex hr' rel
          cases fv with
          | nx σ' => exact p ρ' H' .non ex hr' rfl
          | _ => exact False.elim rel
        | ret v =>
          intro ρ' H' fv ex hr' rel
          cases fv with
          | rt x => exact p ρ' H' x ex hr' rel
          | _ => exact False.elim rel
        | brk _ => exact p.elim
        | cont _ => exact p.elim
    refine wpAny_mono ((hbody _ _ fit).run [] s1 (L2.start N vs) H _ I ⟨ρ, _, m, sr, hm, pb⟩) (fun fl s' hs => ?_) fun e s' hs => hs
    have fin : ∀ {σ' : L2.St} {H' : Hp} {v : V} {u : Value}, Inv (cxOf (CX P w) P w G.K G.mg base N qual (defScope st) f cdv A outer s H (wE G W)) [] σ' H' s' → RelV v u → Q v H' → CE outer P w H s Q u s' :=
      fun {σ' H' v u} J rv q => ⟨v, H', J.os, J.bare, J.base, J.hok, rv, q⟩
    cases fl with
    | ret u =>
      obtain ⟨v, σ', H', J, rv, q⟩ := hs
      exact fin J rv q
    | next =>
      obtain ⟨σ', H', J, q⟩ := hs
      exact fin (v := V.non) (u := Value.none) J rfl q
    | brk =>
      obtain ⟨_, _, _, q⟩ := hs
      exact False.elim q
    | cont =>
      obtain ⟨_, _, _, q⟩ := hs
      exact False.elim q
end
end Snd
set_option Elab.async false
set_option linter.all false
set_option maxRecDepth 100000
set_option maxHeartbeats 4000000
/-! Snd8: what is walked, by its kind; data and their equality; comparisons. -/
namespace Snd
open PySem PySem.Spec PyProof.Rows L2
section
variable {G : Gp} {Γ : Cn} {W : XPost} {σ : L2.St} {H : Hp} {f : MP.Cx}
/-! ### walked -/
theorem okI_val {tg e : Expr} {c : MP.E} (h : OkE G Γ e c) : OkI G Γ tg e (.val c) := fun W X F => by
  refine ⟨fun pins s σ H R I ⟨ρ, σm, m, sr, hr, p⟩ => ?_⟩
  have p : Post G (ItR G) W ρ H R ((c Γ.f σm m).bind fun v m => match MP.itOf m v with | some w => .ok w m | .none => .bad 89) := p
  have run : ∀ (t : TI), PI X tg e t → t σ H R → _ := fun t q z => q.run pins s σ H R I z
  cases e0 : c Γ.f σm m with
  | bad n => rw [e0] at p; exact p.elim
  | ex v m1 =>
    rw [e0] at p
    refine run _ (pi_tup (h W X F)) ?_
    refine ⟨ρ, σm, m, sr, hr, ?_⟩
    rw [e0]
    exact p
  | ok v m1 =>
    rw [e0] at p
    have p : Post G (ItR G) W ρ H R (match MP.itOf m1 v with | some w => .ok w m1 | .none => .bad 89) := p
    have nope : ∀ (t : TI), MP.itOf m1 v = none → _ := fun t z => by
      rw [z] at p; exact (p : False)
    cases v with
    | tup vs =>
      refine run _ (pi_tup (h W X F)) ⟨ρ, σm, m, sr, hr, ?_⟩
      rw [e0]
      intro ρ1 H1 x ex hr1 vr
      unfold VR at vr
      obtain ⟨a, us, rfl, q, r⟩ := vr
      refine ⟨a, rfl, ⟨us, by rw [F.hK]; exact q⟩, ?_⟩
      rw [F.hK]
      exact (Post.at (ρ' := ρ1) (H' := H1) p ex).done hr1 (ItR.tup q r)
    | str t =>
      refine run _ (pi_str (h W X F)) ⟨ρ, σm, m, sr, hr, ?_⟩
      rw [e0]
      intro ρ1 H1 x ex hr1 vr
      obtain ⟨rfl, hs⟩ := vr
      exact ⟨_, rfl, (Post.at (ρ' := ρ1) (H' := H1) p ex).done hr1 (ItR.str hs)⟩
    | ref k =>
      have p : Post G (ItR G) W ρ H R (match MP.itRef m1 k with | some w => .ok w m1 | .none => .bad 89) := p
      unfold MP.itRef at p
      cases e1 : MP.lstAt m1 k with
      | some vs =>
        rw [e1] at p
        refine run _ (pi_list (h W X F)) ⟨ρ, σm, m, sr, hr, ?_⟩
        rw [e0]
        intro ρ1 H1 x ex hr1 vr
        unfold VR at vr
        obtain ⟨a, rfl, hk⟩ := vr
        obtain ⟨us, q, r⟩ := lstAt_of hr1 e1 hk
        refine ⟨a, rfl, ⟨us, by rw [F.hK]; exact q⟩, ?_⟩
        rw [F.hK]
        exact (Post.at (ρ' := ρ1) (H' := H1) p ex).done hr1 (ItR.seq hk)
      | none => rw [e1] at p; exact (p : False).elim
    | _ => exact (p : False).elim
theorem VRs.nil_of {ρ : Rho} {us : List V} (h : VRs G ρ H [] us) : us = [] := by unfold VRs at h; exact h
theorem VRs.cons_of {ρ : Rho} {v : MP.Val} {vs : List MP.Val} {us : List V} (h : VRs G ρ H (v :: vs) us) : ∃ x r, us = x :: r ∧ VR G ρ H v x ∧ VRs G ρ H vs r := by unfold VRs at h; exact h
theorem VRs.one {ρ : Rho} {v : MP.Val} {us : List V} (h : VRs G ρ H [v] us) : ∃ x, us = [x] ∧ VR G ρ H v x := by
  obtain ⟨x, r, rfl, h1, h2⟩ := h.cons_of
  exact ⟨x, by rw [h2.nil_of], h1⟩
theorem VRs.two {ρ : Rho} {v w : MP.Val} {us : List V} (h : VRs G ρ H [v, w] us) : ∃ x y, us = [x, y] ∧ VR G ρ H v x ∧ VR G ρ H w y := by
  obtain ⟨x, r, rfl, h1, h2⟩ := h.cons_of
  obtain ⟨y, rfl, h3⟩ := h2.one
  exact ⟨x, y, rfl, h1, h3⟩
/-- one more argument list is run -/
theorem stepL {γ δ : Type} {Rl' : Rho → Hp → γ → δ → Prop} {cs : List MP.E} {k : List MP.Val → MP.M → MP.R γ} {Q : δ → Hp → Prop} {Q1 : List V → Hp → Prop} {ρ : Rho} {σm : List MP.Val} {m : MP.M} (sr : SR G W ρ H σm σ) (hr : HR G ρ m H)
    (p : Post G Rl' W ρ H Q ((MP.evL f cs σm m).bind k))
    (h : ∀ ρ1 vs m1 xs H1, SR G W ρ1 H1 σm σ → HR G ρ1 m1 H1 → VRs G ρ1 H1 vs xs → Post G Rl' W ρ1 H1 Q (k vs m1) → Q1 xs H1) : trL G f W cs σ H Q1 :=
  ⟨ρ, σm, m, sr, hr, (Post.bind (Rl := VRs G) p).mono fun xs H1 ⟨ρ1, vs, m1, _, ex, hr1, vr, q⟩ => h ρ1 vs m1 xs H1 (sr.ext ex) hr1 vr q⟩
theorem ev1 {γ : Type} {Rl' : Rho → Hp → γ → δ → Prop} {Q : δ → Hp → Prop} {ρ : Rho} {k : MP.Val → MP.R γ} {n : Nat} {vs : List MP.Val} (p : Post G Rl' W ρ H Q (match vs with | [v] => k v | _ => .bad n)) : ∃ v, vs = [v] ∧ Post G Rl' W ρ H Q (k v) := by
  cases vs with
  | nil => exact p.elim
  | cons v r =>
    cases r with
    | nil => exact ⟨v, rfl, p⟩
    | cons w r => exact p.elim
theorem ev2 {γ : Type} {Rl' : Rho → Hp → γ → δ → Prop} {Q : δ → Hp → Prop} {ρ : Rho} {k : MP.Val → MP.Val → MP.R γ} {n : Nat} {vs : List MP.Val} (p : Post G Rl' W ρ H Q (match vs with | [v, w] => k v w | _ => .bad n)) : ∃ v w, vs = [v, w] ∧ Post G Rl' W ρ H Q (k v w) := by
  cases vs with
  | nil => exact p.elim
  | cons v r =>
    cases r with
    | nil => exact p.elim
    | cons w r =>
      cases r with
      | nil => exact ⟨v, w, rfl, p⟩
      | cons _ _ => exact p.elim
/-- a built-in name -/
def Blt (G : Gp) (Γ : Cn) (x : Str) : Prop := Γ.sc.names.lookup x = some .globalImplicit ∧ G.mg x = none
theorem Blt.gl {x : Str} (b : Blt G Γ x) {X : Cx} (F : Fit G Γ W X) : Gl X x := by
  show X.env.scope.names.lookup x = _
  rw [F.hsc]
  exact b.1
theorem Blt.no {x : Str} (b : Blt G Γ x) {X : Cx} (F : Fit G Γ W X) : X.mg x = none := by rw [F.hmg]; exact b.2
theorem inRng_of {a : Int} (h : MP.It.inRng a = true) : -(2 ^ 62) ≤ a ∧ a < 2 ^ 62 := by
  have := Bool.and_eq_true_iff.mp h
  exact ⟨by have := of_decide_eq_true this.1; omega, by have := of_decide_eq_true this.2; omega⟩
theorem okI_rng1 {tg e : Expr} {c : MP.E} {p pos : Pos} (hb : Blt G Γ "range") (h : OkA G Γ [e] [c]) (hs : ∀ env, starEach [e] env = [(false, eval e env)] := by intro _; rfl) : OkI G Γ tg (.Call (.Name "range" p) [e] [] pos) (.rng1 c) := fun W X F => by
  refine PI.weak (pi_range1 (hb.gl F) (hb.no F) (h W X F) (hs X.env)) fun σ H R ⟨ρ, σm, m, sr, hr, p⟩ => ?_
  refine stepL sr hr p fun ρ1 vs m1 xs H1 sr1 hr1 vr p1 => ?_
  obtain ⟨v, rfl, p1⟩ := ev1 p1
  obtain ⟨x, rfl, r⟩ := vr.one
  cases v with
  | int b =>
    cases r
    have p1 : Post G (ItR G) W ρ1 H1 R (match MP.It.inRng b with | true => .ok (.rng 0 1 b.toNat) m1 | false => .bad 90) := p1
    cases e : MP.It.inRng b with
    | false => rw [e] at p1; exact p1.elim
    | true =>
      rw [e] at p1
      obtain ⟨h1, h2⟩ := inRng_of e
      exact ⟨b, rfl, h1, h2, p1.done hr1 ItR.rng⟩
  | _ => exact False.elim p1
theorem okI_rng2 {tg e e2 : Expr} {c c2 : MP.E} {p pos : Pos} (hb : Blt G Γ "range") (h : OkA G Γ [e, e2] [c, c2]) (hs : ∀ env, starEach [e, e2] env = [(false, eval e env), (false, eval e2 env)] := by intro _; rfl)
    (hs2 : ∀ env, starEach [e2] env = [(false, eval e2 env)] := by intro _; rfl) : OkI G Γ tg (.Call (.Name "range" p) [e, e2] [] pos) (.rng2 c c2) := fun W X F => by
  refine PI.weak (pi_range2 (hb.gl F) (hb.no F) (h W X F) (hs X.env) (hs2 X.env)) fun σ H R ⟨ρ, σm, m, sr, hr, p⟩ => ?_
  refine stepL sr hr p fun ρ1 vs m1 xs H1 sr1 hr1 vr p1 => ?_
  obtain ⟨v, w, rfl, p1⟩ := ev2 p1
  obtain ⟨x, y, rfl, r, r2⟩ := vr.two
  cases v with
  | int a =>
    cases w with
    | int b =>
      cases r
      cases r2
      have p1 : Post G (ItR G) W ρ1 H1 R (match MP.It.inRng a && MP.It.inRng b with | true => .ok (.rng a 1 (b - a).toNat) m1 | false => .bad 90) := p1
      cases e : MP.It.inRng a && MP.It.inRng b with
      | false => rw [e] at p1; exact p1.elim
      | true =>
        rw [e] at p1
        have e := Bool.and_eq_true_iff.mp e
        obtain ⟨h1, h2⟩ := inRng_of e.1
        obtain ⟨h3, h4⟩ := inRng_of e.2
        exact ⟨a, b, rfl, ⟨h1, h2, h3, h4⟩, p1.done hr1 ItR.rng⟩
    | _ => exact False.elim p1
  | _ => exact False.elim p1
/-- a new pair beside -/
theorem pair_new {ρ : Rho} {m : MP.M} {v w : MP.Val} {x y : V} {T : Addr} (hr : HR G ρ m H) (hT : H T = none) (r : VR G ρ H v x) (r2 : VR G ρ H w y) : Ext G ρ H ρ (upd H T (.tup [x, y])) ∧ HR G ρ m (upd H T (.tup [x, y])) ∧ VR G ρ (upd H T (.tup [x, y])) (.tup [v, w]) (.ref T) := by
  obtain ⟨h1, e1⟩ := hr.beside (o := .tup [x, y]) hT
  refine ⟨e1, h1, ?_⟩
  unfold VR
  refine ⟨T, [x, y], rfl, SqT.of upd_same, ?_⟩
  unfold VRs
  refine ⟨x, [y], rfl, r.ext e1, ?_⟩
  unfold VRs
  exact ⟨y, [], rfl, r2.ext e1, by unfold VRs; rfl⟩
theorem ItR.zipT {ρ : Rho} {vs ws : List MP.Val} {us xs : List V} {a b : Addr} (q : SqT G.K H a us) (q2 : SqT G.K H b xs) (r : VRs G ρ H vs us) (r2 : VRs G ρ H ws xs) : ItR G ρ H (.zip (.vals vs) (.vals ws)) (RZ.ItzT G.K a b) := fun ρ' m' H' ex hr i => by
  have q' := ex.kp.tup a us q
  have q2' := ex.kp.tup b xs q2
  have r' := r.ext ex
  have r2' := r2.ext ex
  show match (match MP.nxOf (MP.nth vs i) with | .item v => (match MP.nxOf (MP.nth ws i) with | .item w => MP.Nx.item (.tup [v, w]) | r => r) | .done => (match MP.nxOf (MP.nth ws i) with | .odd => .odd | _ => .done) | .odd => .odd) with | .done => _ | .item v => _ | .odd => _
  rw [nth_get, nth_get]
  cases e : vs[i]? with
  | none =>
    cases e2 : ws[i]? with
    | none => exact ⟨us, xs, q', q2', .inl (r'.none e)⟩
    | some w => exact ⟨us, xs, q', q2', .inl (r'.none e)⟩
  | some v =>
    cases e2 : ws[i]? with
    | none => exact ⟨us, xs, q', q2', .inr (r2'.none e2)⟩
    | some w =>
      obtain ⟨x, e1, r1⟩ := r'.get e
      obtain ⟨y, e3, r3⟩ := r2'.get e2
      refine ⟨⟨us, xs, x, y, q', q2', e1, e3⟩, fun z H2 ⟨T, x', y', hz, hT, hh, hx, hy⟩ => ?_⟩
      have := hx us q'
      rw [e1] at this
      cases this
      have := hy xs q2'
      rw [e3] at this
      cases this
      subst hz
      subst hh
      obtain ⟨z1, z2, z3⟩ := pair_new hr hT r1 r3
      exact ⟨ρ', z1, z2, z3⟩
theorem ItR.zipL {ρ : Rho} {k k2 : Nat} {a b : Addr} (hk : G.ro[k]? = some a ∨ ρ k = some a) (hk2 : G.ro[k2]? = some b ∨ ρ k2 = some b) : ItR G ρ H (.zip (.seq k) (.seq k2)) (Itz G.K a b) := fun ρ' m' H' ex hr i => by
  show match (match (match MP.lstAt m' k with | some xs => MP.nxOf (MP.nth xs i) | .none => .odd) with | .item v => (match (match MP.lstAt m' k2 with | some xs => MP.nxOf (MP.nth xs i) | .none => .odd) with | .item w => MP.Nx.item (.tup [v, w]) | r => r) | .done => (match (match MP.lstAt m' k2 with | some xs => MP.nxOf (MP.nth xs i) | .none => .odd) with | .odd => .odd | _ => .done) | .odd => .odd) with | .done => _ | .item v => _ | .odd => _
  cases e0 : MP.lstAt m' k with
  | none => trivial
  | some vs =>
    obtain ⟨us, q', r'⟩ := lstAt_of hr e0 (hk.imp id (ex.le k a))
    simp only
    rw [nth_get]
    cases e00 : MP.lstAt m' k2 with
    | none =>
      cases e : vs[i]? with
      | none => trivial
      | some v => trivial
    | some ws =>
    obtain ⟨xs, q2', r2'⟩ := lstAt_of hr e00 (hk2.imp id (ex.le k2 b))
    simp only
    rw [nth_get]
    cases e : vs[i]? with
    | none =>
      cases e2 : ws[i]? with
      | none => exact ⟨us, xs, q', q2', .inl (r'.none e)⟩
      | some w => exact ⟨us, xs, q', q2', .inl (r'.none e)⟩
    | some v =>
      cases e2 : ws[i]? with
      | none => exact ⟨us, xs, q', q2', .inr (r2'.none e2)⟩
      | some w =>
        obtain ⟨x, e1, r1⟩ := r'.get e
        obtain ⟨y, e3, r3⟩ := r2'.get e2
        refine ⟨⟨us, xs, x, y, q', q2', e1, e3⟩, fun z H2 ⟨T, x', y', hz, hT, hh, hx, hy⟩ => ?_⟩
        have := hx us q'
        rw [e1] at this
        cases this
        have := hy xs q2'
        rw [e3] at this
        cases this
        subst hz
        subst hh
        obtain ⟨z1, z2, z3⟩ := pair_new hr hT r1 r3
        exact ⟨ρ', z1, z2, z3⟩
theorem ItR.enum {ρ : Rho} {k : Nat} {a : Addr} (hk : G.ro[k]? = some a ∨ ρ k = some a) : ItR G ρ H (.enum (.seq k)) (Ite G.K a) := fun ρ' m' H' ex hr i => by
  show match (match (match MP.lstAt m' k with | some xs => MP.nxOf (MP.nth xs i) | .none => .odd) with | .item v => MP.Nx.item (.tup [.int (Int.ofNat i), v]) | r => r) with | .done => _ | .item v => _ | .odd => _
  cases e0 : MP.lstAt m' k with
  | none => trivial
  | some vs =>
    obtain ⟨us, q', r'⟩ := lstAt_of hr e0 (hk.imp id (ex.le k a))
    simp only
    rw [nth_get]
    cases e : vs[i]? with
    | none => exact ⟨us, q', r'.none e⟩
    | some v =>
      obtain ⟨x, e1, r1⟩ := r'.get e
      refine ⟨⟨us, x, q', e1⟩, fun z H2 ⟨T, x', hz, hT, hh, hx⟩ => ?_⟩
      have := hx us q'
      rw [e1] at this
      cases this
      subst hz
      subst hh
      obtain ⟨z1, z2, z3⟩ := pair_new (v := .int (Int.ofNat i)) (x := .int (i : Nat)) hr hT rfl r1
      exact ⟨ρ', z1, z2, z3⟩
theorem optI_of {ρ : Rho} {o : Option MP.ItV} {m : MP.M} {R : It → Hp → Prop} (p : Post G (ItR G) W ρ H R (MP.It.optI o m)) : ∃ w, o = some w ∧ Post G (ItR G) W ρ H R (.ok w m) := by
  cases o with
  | none => exact False.elim p
  | some w => exact ⟨w, rfl, p⟩
theorem okI_zip {e e2 : Expr} {c c2 : MP.E} {p pos tpos : Pos} {elts : List Expr} {kk : Nat} (hb : Blt G Γ "zip") (h : OkA G Γ [e, e2] [c, c2]) (hs : ∀ env, starEach [e, e2] env = (false, eval e env) :: starEach [e2] env := by intro _; rfl)
    (hpl : ∀ env, (backTo pos (starEach [e2] env)).any (·.1) = false := by intro _; rfl) : OkI G Γ (.Tuple elts kk tpos) (.Call (.Name "zip" p) [e, e2] [] pos) (.zip c c2) := fun W X F => by
  refine PI.weak (RZ.pi_zipA (hb.gl F) (hb.no F) (h W X F) (hs X.env) (hpl X.env)) fun σ H R ⟨ρ, σm, m, sr, hr, p⟩ => ?_
  refine stepL sr hr p fun ρ1 vs m1 xs H1 sr1 hr1 vr p1 => ?_
  obtain ⟨v, w, rfl, p1⟩ := ev2 p1
  obtain ⟨x, y, rfl, r, r2⟩ := vr.two
  obtain ⟨it, e, p1⟩ := optI_of p1
  cases v with
  | tup vs =>
    cases w with
    | tup ws =>
      cases e
      unfold VR at r r2
      obtain ⟨a, us, rfl, q, r⟩ := r
      obtain ⟨b, us2, rfl, q2, r2⟩ := r2
      refine ⟨a, b, us, us2, rfl, .inr ⟨by rw [F.hK]; exact q, by rw [F.hK]; exact q2, ?_⟩⟩
      rw [F.hK]
      exact p1.done hr1 (ItR.zipT q q2 r r2)
    | _ => cases e
  | ref k =>
    cases w with
    | ref k2 =>
      have e : (match MP.lstAt m1 k with | some _ => (match MP.lstAt m1 k2 with | some _ => some (MP.ItV.zip (.seq k) (.seq k2)) | .none => .none) | .none => .none) = some it := e
      cases e1 : MP.lstAt m1 k with
      | none => rw [e1] at e; cases e
      | some vs =>
        cases e2 : MP.lstAt m1 k2 with
        | none => rw [e1, e2] at e; cases e
        | some ws =>
          rw [e1, e2] at e
          cases e
          unfold VR at r r2
          obtain ⟨a, rfl, hk⟩ := r
          obtain ⟨b, rfl, hk2⟩ := r2
          obtain ⟨us, q, r⟩ := lstAt_of hr1 e1 hk
          obtain ⟨us2, q2, r2⟩ := lstAt_of hr1 e2 hk2
          refine ⟨a, b, us, us2, rfl, .inl ⟨by rw [F.hK]; exact q, by rw [F.hK]; exact q2, ?_⟩⟩
          rw [F.hK]
          exact p1.done hr1 (ItR.zipL hk hk2)
    | _ => cases e
  | _ => cases e
theorem okI_enum {e : Expr} {c : MP.E} {p pos tpos : Pos} {elts : List Expr} {kk : Nat} (hb : Blt G Γ "enumerate") (h : OkA G Γ [e] [c]) (hs : ∀ env, starEach [e] env = [(false, eval e env)] := by intro _; rfl) :
    OkI G Γ (.Tuple elts kk tpos) (.Call (.Name "enumerate" p) [e] [] pos) (.enum c) := fun W X F => by
  refine PI.weak (pi_enum (hb.gl F) (hb.no F) (h W X F) (hs X.env)) fun σ H R ⟨ρ, σm, m, sr, hr, p⟩ => ?_
  refine stepL sr hr p fun ρ1 vs m1 xs H1 sr1 hr1 vr p1 => ?_
  obtain ⟨v, rfl, p1⟩ := ev1 p1
  obtain ⟨x, rfl, r⟩ := vr.one
  obtain ⟨it, e, p1⟩ := optI_of p1
  cases v with
  | ref k =>
    have e : (match MP.lstAt m1 k with | some _ => some (MP.ItV.enum (.seq k)) | .none => .none) = some it := e
    cases e1 : MP.lstAt m1 k with
    | none => rw [e1] at e; cases e
    | some vs =>
      rw [e1] at e
      cases e
      unfold VR at r
      obtain ⟨a, rfl, hk⟩ := r
      obtain ⟨us, q, r⟩ := lstAt_of hr1 e1 hk
      refine ⟨a, us, rfl, by rw [F.hK]; exact q, ?_⟩
      rw [F.hK]
      exact p1.done hr1 (ItR.enum hk)
  | _ => cases e
end
end Snd
set_option Elab.async false
set_option linter.all false
set_option maxRecDepth 100000
set_option maxHeartbeats 4000000
/-! Snd9: data and their equality; comparisons. -/
namespace Snd
open PySem PySem.Spec PyProof.Rows L2
/-- a value as data -/
def toD (m : MP.M) : Nat → MP.Val → PyData
  | 0, _ => .none
  | n + 1, v => match v with
    | .none => .none
    | .bool b => .bool b
    | .int i => .int i
    | .str s => .str ⟨s.toArray⟩
    | .tup xs => .tuple (xs.map (toD m n))
    | .ref a => match MP.lstAt m a with
      | some xs => .list (xs.map (toD m n))
      | none => .none
    | _ => .none
theorem datL_mem {g : MP.Val → Bool} : ∀ {xs : List MP.Val}, MP.datL g xs = true → ∀ x ∈ xs, g x = true
  | [], _, x, hx => by cases hx
  | y :: r, h, x, hx => by
    have h : (match g y with | true => MP.datL g r | false => false) = true := h
    cases e : g y with
    | false => rw [e] at h; cases h
    | true =>
      rw [e] at h
      rcases List.mem_cons.mp hx with rfl | hx
      · exact e
      · exact datL_mem h x hx
theorem datL_cons {g : MP.Val → Bool} {y : MP.Val} {r : List MP.Val} (h : MP.datL g (y :: r) = true) : g y = true ∧ MP.datL g r = true := by
  have h : (match g y with | true => MP.datL g r | false => false) = true := h
  cases e : g y with
  | false => rw [e] at h; cases h
  | true => rw [e] at h; exact ⟨rfl, h⟩
theorem plain_toD {m : MP.M} : ∀ (n : Nat) (v : MP.Val), (toD m n v).plain = true
  | 0, _ => rfl
  | n + 1, v => by
    have all : ∀ xs : List MP.Val, PyData.plainAll (xs.map (toD m n)) = true := fun xs => by
      induction xs with
      | nil => rfl
      | cons x xs ih => simp only [List.map_cons, PyData.plainAll, plain_toD n x, ih, Bool.and_self]
    cases v with
    | tup xs => exact all xs
    | ref a =>
      show PyData.plain (match MP.lstAt m a with | some xs => .list (xs.map (toD m n)) | none => .none) = true
      cases MP.lstAt m a with
      | none => rfl
      | some xs => exact all xs
    | _ => rfl
theorem depth_toD {m : MP.M} : ∀ (n : Nat) (v : MP.Val), (toD m n v).depth ≤ n
  | 0, _ => Nat.le_refl _
  | n + 1, v => by
    have all : ∀ xs : List MP.Val, PyData.depthAll (xs.map (toD m n)) ≤ n := fun xs => by
      induction xs with
      | nil => exact Nat.zero_le _
      | cons x xs ih =>
        show max _ _ ≤ n
        exact Nat.max_le.mpr ⟨depth_toD n x, ih⟩
    cases v with
    | tup xs => show PyData.depthAll _ + 1 ≤ n + 1; have := all xs; omega
    | ref a =>
      show PyData.depth (match MP.lstAt m a with | some xs => .list (xs.map (toD m n)) | none => .none) ≤ n + 1
      cases MP.lstAt m a with
      | none => exact Nat.zero_le _
      | some xs => show PyData.depthAll _ + 1 ≤ n + 1; have := all xs; omega
    | _ => exact Nat.zero_le _
section
variable {G : Gp} {Γ : Cn} {W : XPost} {σ : L2.St} {H : Hp} {f : MP.Cx}
theorem reads_all {X : Cx} {pins : List (Addr × Obj)} {s : Shared} {ρ : Rho} {m : MP.M} {n : Nat} (IH : ∀ (v : MP.Val) (x : V) (u : Value), MP.datN m n v = true → VR G ρ H v x → RelV x u → ∃ as, Reads s.heap u (toD m n v) as) :
    ∀ (vs : List MP.Val) (xs : List V) (us : List Value), MP.datL (MP.datN m n) vs = true → VRs G ρ H vs xs → Vals xs us → ∃ as, ReadsAll s.heap us (vs.map (toD m n)) as
  | [], xs, us, _, r, q => by
    have := r.nil_of
    subst this
    cases q
    exact ⟨_, .nil⟩
  | v :: vs, xs, us, h, r, q => by
    obtain ⟨x, xs', rfl, r1, r2⟩ := r.cons_of
    cases q with
    | cons q1 q2 =>
      obtain ⟨h1, h2⟩ := datL_cons h
      obtain ⟨as, a1⟩ := IH v x _ h1 r1 q1
      obtain ⟨bs, a2⟩ := reads_all (X := X) (pins := pins) IH vs xs' _ h2 r2 q2
      exact ⟨_, .cons a1 a2⟩
theorem reads_of {X : Cx} {pins : List (Addr × Obj)} {s : Shared} {ρ : Rho} {m : MP.M} (hK : X.K = G.K) (I : Inv X pins σ H s) (hr : HR G ρ m H) : ∀ (n : Nat) (v : MP.Val) (x : V) (u : Value), MP.datN m n v = true → VR G ρ H v x → RelV x u → ∃ as, Reads s.heap u (toD m n v) as
  | 0, v, x, u, h, _, _ => by cases h
  | n + 1, v, x, u, h, r, q => by
    have IH := reads_of hK I hr n
    have h : MP.datF (MP.datN m n) m v = true := h
    cases v with
    | none => cases r; cases q; exact ⟨_, .none⟩
    | bool b => cases r; cases q; exact ⟨_, .bool b⟩
    | int i => cases r; obtain ⟨t, rfl⟩ := q; exact ⟨_, .int i t⟩
    | str s' => obtain ⟨rfl, _⟩ := r; obtain ⟨t, rfl⟩ := q; exact ⟨_, .str _ t⟩
    | tup vs =>
      unfold VR at r
      obtain ⟨a, us, rfl, q1, r1⟩ := r
      cases q
      rw [← hK] at q1
      obtain ⟨its, rv, ⟨o, e1, e2, k, e3⟩, _⟩ := I.tuple q1
      obtain ⟨as, z⟩ := reads_all (X := X) (pins := pins) IH vs us its h r1 rv
      exact ⟨_, .tuple e1 e2 e3 (by simpa using z)⟩
    | ref k =>
      have h : (match MP.lstAt m k with | some xs => MP.datL (MP.datN m n) xs | .none => false) = true := h
      cases e : MP.lstAt m k with
      | none => rw [e] at h; cases h
      | some vs =>
        rw [e] at h
        unfold VR at r
        obtain ⟨a, rfl, hk⟩ := r
        cases q
        obtain ⟨us, q1, r1⟩ := lstAt_of hr e hk
        rw [← hK] at q1
        obtain ⟨its, rv, ⟨o, k', e1, e2, e4, e3⟩, _⟩ := I.list q1
        obtain ⟨as, z⟩ := reads_all (X := X) (pins := pins) IH vs us its h r1 rv
        refine ⟨a :: as, ?_⟩
        show Reads _ _ (match MP.lstAt m k with | some xs => .list (xs.map (toD m n)) | none => .none) _
        rw [e]
        exact .list e1 e2 e3 (by simpa using z)
    | _ => cases h
end
theorem strEq_iff : ∀ s t : List Nat, MP.strEq s t = decide (s = t)
  | [], [] => rfl
  | [], _ :: _ => rfl
  | _ :: _, [] => rfl
  | a :: s, b :: t => by
    show (match Nat.beq a b with | true => MP.strEq s t | false => false) = _
    cases e : Nat.beq a b with
    | true =>
      have := Nat.eq_of_beq_eq_true e
      subst this
      simp only [strEq_iff s t, List.cons.injEq, true_and]
    | false =>
      have : a ≠ b := Nat.ne_of_beq_eq_false e
      simp [this]
theorem beq_dec (a b : Int) : (a == b) = decide (a = b) := by rw [Bool.eq_iff_iff, beq_iff_eq, decide_eq_true_eq]
theorem b2i_eq (b : Bool) : MP.b2i b = if b then 1 else 0 := by cases b <;> rfl
theorem eqN_all {m : MP.M} {n : Nat} (IH : ∀ a b : MP.Val, MP.datN m n a = true → MP.datN m n b = true → MP.eqN m n a b = MP.Tri.ofB (PyData.eqv (toD m n a) (toD m n b))) :
    ∀ xs ys : List MP.Val, MP.datL (MP.datN m n) xs = true → MP.datL (MP.datN m n) ys = true → MP.eqL (MP.eqN m n) xs ys = MP.Tri.ofB (PyData.eqvAll (xs.map (toD m n)) (ys.map (toD m n)))
  | [], [], _, _ => by simp [MP.eqL, PyData.eqvAll, MP.Tri.ofB]
  | [], _ :: _, _, _ => by simp [MP.eqL, PyData.eqvAll, MP.Tri.ofB]
  | _ :: _, [], _, _ => by simp [MP.eqL, PyData.eqvAll, MP.Tri.ofB]
  | x :: xs, y :: ys, hx, hy => by
    obtain ⟨hx1, hx2⟩ := datL_cons hx
    obtain ⟨hy1, hy2⟩ := datL_cons hy
    show (match MP.eqN m n x y with | .yes => MP.eqL (MP.eqN m n) xs ys | r => r) = _
    rw [IH x y hx1 hy1]
    simp only [List.map_cons, PyData.eqvAll]
    cases PyData.eqv (toD m n x) (toD m n y) with
    | true => simp only [MP.Tri.ofB, Bool.true_and]; exact eqN_all IH xs ys hx2 hy2
    | false => rfl
theorem lst_dat {m : MP.M} {n k : Nat} (h : MP.datN m (n + 1) (.ref k) = true) : ∃ xs, MP.lstAt m k = some xs ∧ MP.datL (MP.datN m n) xs = true ∧ toD m (n + 1) (.ref k) = .list (xs.map (toD m n)) := by
  have h : (match MP.lstAt m k with | some xs => MP.datL (MP.datN m n) xs | .none => false) = true := h
  cases e : MP.lstAt m k with
  | none => rw [e] at h; cases h
  | some vs =>
    rw [e] at h
    refine ⟨vs, rfl, h, ?_⟩
    show (match MP.lstAt m k with | some xs => PyData.list (xs.map (toD m n)) | none => .none) = _
    rw [e]
theorem other_dat {m : MP.M} {n : Nat} {b : MP.Val} {d : PyData} (h : MP.datN m (n + 1) b = true) (hd : ∀ xs, PyData.eqv d (.list xs) = false) (h0 : MP.eqOther m b = MP.Tri.ofB (PyData.eqv d (toD m (n + 1) b)) ∨ ∃ k, b = .ref k) : MP.eqOther m b = MP.Tri.ofB (PyData.eqv d (toD m (n + 1) b)) := by
  rcases h0 with h0 | ⟨k, rfl⟩
  · exact h0
  · obtain ⟨xs, e, _, e2⟩ := lst_dat h
    rw [e2, hd]
    unfold MP.lstAt at e
    show (match m.t.get k with | some o => (match o with | .lst _ => .no | .rol _ => .no | _ => .odd) | .none => .odd) = MP.Tri.no
    cases e3 : m.t.get k with
    | none => rw [e3] at e; cases e
    | some o =>
      rw [e3] at e
      cases o with
      | lst _ => rfl
      | rol _ => rfl
      | _ => cases e
theorem str_eq (s t : List Nat) : ((⟨s.toArray⟩ : Str) == ⟨t.toArray⟩) = decide (s = t) := by
  rw [Bool.eq_iff_iff, beq_iff_eq, decide_eq_true_eq]
  constructor
  · intro h; injection h with h; simpa using h
  · intro h; rw [h]
theorem eqN_toD {m : MP.M} : ∀ (n : Nat) (a b : MP.Val), MP.datN m n a = true → MP.datN m n b = true → MP.eqN m n a b = MP.Tri.ofB (PyData.eqv (toD m n a) (toD m n b))
  | 0, a, b, h, _ => by cases h
  | n + 1, a, b, ha, hb => by
    have IH := eqN_toD (m := m) n
    have ha0 : MP.datF (MP.datN m n) m a = true := ha
    have hb0 : MP.datF (MP.datN m n) m b = true := hb
    show MP.eqF (MP.eqN m n) m a b = _
    cases a with
    | none =>
      cases b with
      | none => rfl
      | ref k => exact other_dat (d := .none) hb (fun _ => by simp [PyData.eqv]) (.inr ⟨k, rfl⟩)
      | bool b => rfl
      | int i => rfl
      | str t => rfl
      | tup ys => rfl
      | _ => cases hb0
    | bool x =>
      cases b with
      | none => rfl
      | ref k => exact other_dat (d := .bool x) hb (fun _ => by simp [PyData.eqv]) (.inr ⟨k, rfl⟩)
      | bool b => rfl
      | int i =>
        show MP.Tri.ofB (decide (MP.b2i x = i)) = MP.Tri.ofB ((if x then 1 else 0) == i)
        rw [b2i_eq, beq_dec]
      | str t => rfl
      | tup ys => rfl
      | _ => cases hb0
    | int i =>
      cases b with
      | none => rfl
      | ref k => exact other_dat (d := .int i) hb (fun _ => by simp [PyData.eqv]) (.inr ⟨k, rfl⟩)
      | bool b =>
        show MP.Tri.ofB (decide (i = MP.b2i b)) = MP.Tri.ofB (i == (if b then 1 else 0))
        rw [b2i_eq, beq_dec]
      | int j =>
        show MP.Tri.ofB (decide (i = j)) = MP.Tri.ofB (i == j)
        rw [beq_dec]
      | str t => rfl
      | tup ys => rfl
      | _ => cases hb0
    | str s =>
      cases b with
      | none => rfl
      | ref k => exact other_dat (d := .str ⟨s.toArray⟩) hb (fun _ => by simp [PyData.eqv]) (.inr ⟨k, rfl⟩)
      | bool b => rfl
      | int j => rfl
      | str t =>
        show MP.Tri.ofB (MP.strEq s t) = MP.Tri.ofB ((⟨s.toArray⟩ : Str) == ⟨t.toArray⟩)
        rw [strEq_iff, str_eq]
      | tup ys => rfl
      | _ => cases hb0
    | tup xs =>
      cases b with
      | none => rfl
      | ref k => exact other_dat (d := .tuple (xs.map (toD m n))) hb (fun _ => by simp [PyData.eqv]) (.inr ⟨k, rfl⟩)
      | bool b => rfl
      | int j => rfl
      | str t => rfl
      | tup ys => exact eqN_all IH xs ys ha0 hb0
      | _ => cases hb0
    | ref k =>
      obtain ⟨xs, e, hx, e2⟩ := lst_dat ha
      rw [e2]
      show (match MP.lstAt m k with | some xs => (match b with | .ref y => (match MP.lstAt m y with | some ys => MP.eqL (MP.eqN m n) xs ys | .none => .odd) | b => MP.eqOther m b) | .none => (match MP.dctAt m k with | some xs => MP.eqDct (MP.eqN m n) m xs b | .none => .odd)) = _
      rw [e]
      cases b with
      | none => rfl
      | ref k2 =>
        obtain ⟨ys, e3, hy, e4⟩ := lst_dat hb
        rw [e4]
        simp only
        rw [e3]
        simp only
        rw [eqN_all IH xs ys hx hy]
        simp [PyData.eqv]
      | bool b => rfl
      | int j => rfl
      | str t => rfl
      | tup ys => rfl
      | _ => cases hb0
    | _ => cases ha0
section
variable {G : Gp} {Γ : Cn} {W : XPost} {σ : L2.St} {H : Hp} {f : MP.Cx}
theorem tri_of {ρ : Rho} {t : MP.Tri} {m : MP.M} {Q : VK} (p : Post G (VR G) W ρ H Q (MP.tri t m)) : ∃ b, t = MP.Tri.ofB b ∧ Post G (VR G) W ρ H Q (.ok (.bool b) m) := by
  cases t with
  | yes => exact ⟨true, rfl, p⟩
  | no => exact ⟨false, rfl, p⟩
  | odd => exact False.elim p
theorem tri_done {ρ : Rho} {t : MP.Tri} {m : MP.M} {Q : VK} (p : Post G (VR G) W ρ H Q (MP.tri t m)) (hr : HR G ρ m H) : ∃ b, t = MP.Tri.ofB b ∧ Q (.bl b) H := by
  obtain ⟨b, e, p⟩ := tri_of p
  exact ⟨b, e, p.done (x := V.bl b) hr rfl⟩
theorem ofB_inj {a b : Bool} (h : MP.Tri.ofB a = MP.Tri.ofB b) : a = b := by cases a <;> cases b <;> first | rfl | cases h
theorem neg_of {t : MP.Tri} {b : Bool} (h : t.neg = MP.Tri.ofB b) : t = MP.Tri.ofB (!b) := by
  cases t <;> cases b <;> first | rfl | cases h
theorem eqB_of {m : MP.M} {n : Nat} {a b : MP.Val} {k : Bool} (h : MP.eqB m n a b = MP.Tri.ofB k) : MP.datN m n a = true ∧ MP.datN m n b = true ∧ PyData.eqv (toD m n a) (toD m n b) = k := by
  unfold MP.eqB at h
  cases e1 : MP.datN m n a with
  | false => rw [e1] at h; cases k <;> cases h
  | true =>
    rw [e1] at h
    cases e2 : MP.datN m n b with
    | false => rw [e2] at h; cases k <;> cases h
    | true =>
      rw [e2] at h
      refine ⟨rfl, rfl, ?_⟩
      have h : MP.eqN m n a b = MP.Tri.ofB k := h
      rw [eqN_toD n a b e1 e2] at h
      exact ofB_inj h
theorem eqv_of {ρ : Rho} {m : MP.M} {a b : MP.Val} {x : V} {k : Bool} (r : VR G ρ H a x) (h : MP.eqv m a b = MP.Tri.ofB k) : MP.eqB m MP.EQN a b = MP.Tri.ofB k := by
  cases a with
  | byt s => exact (show False from r).elim
  | _ => exact h
theorem RoomD.eq {d : Nat} {A : Around} (r : RoomD d A) {x y : PyData} (h : x.depth ≤ MP.EQN) : A.units + min x.depth y.depth < cLine := by
  have := r.un
  have : MP.EQN = 120 := rfl
  omega
theorem op_eq_ok {X : Cx} (F : Fit G Γ W X) : OpR X (compareOp .Eq) (rB G W fun a b m => MP.tri (MP.eqv m a b) m) := by
  intro pins s σ H x y v u Q I rx ry ⟨ρ, a, b, m, hr, ar, br, p⟩
  obtain ⟨k, e, qk⟩ := tri_done p hr
  obtain ⟨h1, h2, h3⟩ := eqB_of (eqv_of ar e)
  obtain ⟨as, q1⟩ := reads_of F.hK I hr _ a x v h1 ar rx
  obtain ⟨bs, q2⟩ := reads_of F.hK I hr _ b y u h2 br ry
  exact SeqAt.eq_plain q1 q2 (plain_toD _ _) (plain_toD _ _) (F.room.eq (depth_toD _ _)) (fin_bl (k := k) I qk h3.symm)
theorem op_ne_ok {X : Cx} (F : Fit G Γ W X) : OpR X (compareOp .NotEq) (rB G W fun a b m => MP.tri (MP.eqv m a b).neg m) := by
  intro pins s σ H x y v u Q I rx ry ⟨ρ, a, b, m, hr, ar, br, p⟩
  obtain ⟨k, e, qk⟩ := tri_done p hr
  obtain ⟨h1, h2, h3⟩ := eqB_of (eqv_of ar (neg_of e))
  obtain ⟨as, q1⟩ := reads_of F.hK I hr _ a x v h1 ar rx
  obtain ⟨bs, q2⟩ := reads_of F.hK I hr _ b y u h2 br ry
  exact SeqAt.ne_plain q1 q2 (plain_toD _ _) (plain_toD _ _) (F.room.eq (depth_toD _ _)) (fin_bl (k := k) I qk (by rw [h3, Bool.not_not]))
theorem strLt_iff : ∀ s t : List Nat, MP.strLt s t = decide (s < t)
  | [], [] => rfl
  | [], _ :: _ => by simp [MP.strLt]
  | _ :: _, [] => by simp [MP.strLt]
  | a :: s, b :: t => by
    show (match Nat.beq a b with | true => MP.strLt s t | false => Nat.blt a b) = _
    cases e : Nat.beq a b with
    | true =>
      have := Nat.eq_of_beq_eq_true e
      subst this
      simp only [strLt_iff s t, List.cons_lt_cons_iff, Nat.lt_irrefl, true_and, false_or]
    | false =>
      have h : a ≠ b := Nat.ne_of_beq_eq_false e
      simp only [List.cons_lt_cons_iff, h, false_and, or_false]
      rw [Bool.eq_iff_iff, decide_eq_true_eq]
      show Nat.ble (a + 1) b = true ↔ a + 1 ≤ b
      rw [Nat.ble_eq]
theorem int2t {ρ : Rho} {m : MP.M} {a b : MP.Val} {x y : V} {k : Bool} (ar : VR G ρ H a x) (br : VR G ρ H b y) (h : MP.ltI a b = MP.Tri.ofB k) : ∃ i j, x = .int i ∧ y = .int j ∧ decide (i < j) = k := by
  cases a with
  | int i =>
    cases b with
    | int j => cases ar; cases br; exact ⟨i, j, rfl, rfl, ofB_inj h⟩
    | _ => cases k <;> cases h
  | _ => cases k <;> cases h
theorem op_lt_ok {X : Cx} (F : Fit G Γ W X) : OpR X (compareOp .Lt) (rB G W fun a b m => MP.tri (MP.ltS a b) m) := by
  intro pins s σ H x y v u Q I rx ry ⟨ρ, a, b, m, hr, ar, br, p⟩
  obtain ⟨k, e, qk⟩ := tri_done p hr
  cases a with
  | int i =>
    cases b with
    | int j =>
      cases ar
      cases br
      exact op_lt pins s σ H _ _ v u Q I rx ry ⟨i, j, rfl, rfl, by show Q (.bl (decide (i < j))) H; rw [ofB_inj e]; exact qk⟩
    | _ => cases k <;> cases e
  | str s1 =>
    cases b with
    | str t =>
      obtain ⟨rfl, _⟩ := ar
      obtain ⟨rfl, _⟩ := br
      refine op_lt_str pins s σ H _ _ v u Q I rx ry ⟨_, _, rfl, rfl, ?_⟩
      have e : MP.strLt s1 t = k := ofB_inj e
      rw [strLt_iff] at e
      rw [show (⟨s1.toArray⟩ : Str).cps.toList = s1 from rfl, show (⟨t.toArray⟩ : Str).cps.toList = t from rfl, e]
      exact qk
    | _ => cases k <;> cases e
  | _ => cases k <;> cases e
theorem op_gt_ok {X : Cx} (F : Fit G Γ W X) : OpR X (compareOp .Gt) (rB G W fun a b m => MP.tri (MP.ltI b a) m) := by
  intro pins s σ H x y v u Q I rx ry ⟨ρ, a, b, m, hr, ar, br, p⟩
  obtain ⟨k, e, qk⟩ := tri_done p hr
  obtain ⟨i, j, rfl, rfl, e⟩ := int2t (m := m) br ar e
  exact op_gt pins s σ H _ _ v u Q I rx ry ⟨j, i, rfl, rfl, by show Q (.bl (decide (i < j))) H; rw [e]; exact qk⟩
theorem op_le_ok {X : Cx} (F : Fit G Γ W X) : OpR X (compareOp .LtE) (rB G W fun a b m => MP.tri (MP.ltI b a).neg m) := by
  intro pins s σ H x y v u Q I rx ry ⟨ρ, a, b, m, hr, ar, br, p⟩
  obtain ⟨k, e, qk⟩ := tri_done p hr
  obtain ⟨i, j, rfl, rfl, e⟩ := int2t (m := m) br ar (neg_of e)
  refine op_le pins s σ H _ _ v u Q I rx ry ⟨j, i, rfl, rfl, ?_⟩
  have : decide (j ≤ i) = k := by
    rw [← Bool.not_not (b := k), ← e, ← decide_not]
    simp
  show Q (.bl (decide (j ≤ i))) H
  rw [this]
  exact qk
theorem op_ge_ok {X : Cx} (F : Fit G Γ W X) : OpR X (compareOp .GtE) (rB G W fun a b m => MP.tri (MP.ltI a b).neg m) := by
  intro pins s σ H x y v u Q I rx ry ⟨ρ, a, b, m, hr, ar, br, p⟩
  obtain ⟨k, e, qk⟩ := tri_done p hr
  obtain ⟨i, j, rfl, rfl, e⟩ := int2t (m := m) ar br (neg_of e)
  refine op_ge pins s σ H _ _ v u Q I rx ry ⟨i, j, rfl, rfl, ?_⟩
  have : decide (j ≤ i) = k := by
    rw [← Bool.not_not (b := k), ← e, ← decide_not]
    simp
  show Q (.bl (decide (j ≤ i))) H
  rw [this]
  exact qk
theorem non_of {ρ : Rho} {a : MP.Val} {x : V} (r : VR G ρ H a x) : decide (x = .non) = MP.isNone a := by
  cases a with
  | none => cases r; rfl
  | bool b => cases r; rfl
  | int i => cases r; rfl
  | str s => obtain ⟨rfl, _⟩ := r; rfl
  | tup vs => unfold VR at r; obtain ⟨a, us, rfl, _⟩ := r; rfl
  | ref k => unfold VR at r; obtain ⟨a, rfl, _⟩ := r; rfl
  | cls c => unfold VR at r; obtain ⟨a, rfl, _⟩ := r; rfl
  | _ => exact (show False from r).elim
theorem op_is_ok {X : Cx} (F : Fit G Γ W X) : OpR X (compareOp .Is) (rB G W fun a b m => MP.tri (MP.isV a b) m) := by
  intro pins s σ H x y v u Q I rx ry ⟨ρ, a, b, m, hr, ar, br, p⟩
  obtain ⟨k, e, qk⟩ := tri_done p hr
  cases b with
  | none =>
    cases br
    exact op_isN pins s σ H _ _ v u Q I rx ry ⟨rfl, by rw [non_of ar, ofB_inj e]; exact qk⟩
  | _ => cases k <;> cases e
theorem op_isnot_ok {X : Cx} (F : Fit G Γ W X) : OpR X (compareOp .IsNot) (rB G W fun a b m => MP.tri (MP.isV a b).neg m) := by
  intro pins s σ H x y v u Q I rx ry ⟨ρ, a, b, m, hr, ar, br, p⟩
  obtain ⟨k, e, qk⟩ := tri_done p hr
  have e := neg_of e
  cases b with
  | none =>
    cases br
    exact op_notN pins s σ H _ _ v u Q I rx ry ⟨rfl, by rw [non_of ar, ofB_inj e, Bool.not_not]; exact qk⟩
  | _ => cases k <;> cases e
end
end Snd
set_option Elab.async false
set_option linter.all false
set_option maxRecDepth 100000
set_option maxHeartbeats 4000000
/-! Snd10: membership; comparisons as values and tests. -/
namespace Snd
open PySem PySem.Spec PyProof.Rows L2
theorem datL_all {m : MP.M} {n : Nat} (x : MP.Val) (hx : MP.datN m n x = true) : ∀ xs : List MP.Val, MP.datL (MP.datN m n) xs = true → MP.memG m n x xs = MP.Tri.ofB ((xs.map (toD m n)).any fun y => PyData.eqv y (toD m n x))
  | [], _ => rfl
  | y :: r, h => by
    obtain ⟨h1, h2⟩ := datL_cons h
    show (match MP.eqN m n y x with | .yes => MP.Tri.yes | .no => MP.memG m n x r | .odd => .odd) = _
    rw [eqN_toD n y x h1 hx]
    simp only [List.map_cons, List.any_cons]
    cases PyData.eqv (toD m n y) (toD m n x) with
    | true => rfl
    | false => simp only [MP.Tri.ofB, Bool.false_or]; exact datL_all x hx r h2
theorem memL_of {m : MP.M} {a : MP.Val} {xs : List MP.Val} {k : Bool} (h : MP.memL m a xs = MP.Tri.ofB k) : MP.datN m MP.EQN a = true ∧ MP.datL (MP.datN m MP.EQN) xs = true ∧ ((xs.map (toD m MP.EQN)).any fun y => PyData.eqv y (toD m MP.EQN a)) = k := by
  unfold MP.memL at h
  cases e1 : MP.datN m MP.EQN a with
  | false => rw [e1] at h; cases k <;> cases h
  | true =>
    rw [e1] at h
    cases e2 : MP.datL (MP.datN m MP.EQN) xs with
    | false => rw [e2] at h; cases k <;> cases h
    | true =>
      rw [e2] at h
      have h : MP.memG m MP.EQN a xs = MP.Tri.ofB k := h
      rw [datL_all a e1 xs e2] at h
      exact ⟨rfl, rfl, ofB_inj h⟩
theorem hasN_iff (c : Nat) : ∀ t : List Nat, MP.hasN c t = decide (c ∈ t)
  | [] => rfl
  | a :: r => by
    show (match Nat.beq a c with | true => true | false => MP.hasN c r) = _
    cases e : Nat.beq a c with
    | true => have := Nat.eq_of_beq_eq_true e; subst this; simp
    | false =>
      have h : a ≠ c := Nat.ne_of_beq_eq_false e
      simp only [hasN_iff c r, List.mem_cons, Ne.symm h, false_or]
theorem plainAll_toD {m : MP.M} {n : Nat} : ∀ xs : List MP.Val, PyData.plainAll (xs.map (toD m n)) = true
  | [] => rfl
  | x :: xs => by simp only [List.map_cons, PyData.plainAll, plain_toD n x, plainAll_toD xs, Bool.and_self]
section
variable {G : Gp} {Γ : Cn} {W : XPost} {σ : L2.St} {H : Hp} {f : MP.Cx}
theorem RoomD.mem {d : Nat} {A : Around} (r : RoomD d A) {k : Nat} {y : PyData} (h : y.depth ≤ MP.EQN) : A.units + 1 + min k y.depth < cLine := by
  have := r.un
  have : MP.EQN = 120 := rfl
  omega
/-- what membership comes to, either way round -/
theorem mem_ok {X : Cx} (F : Fit G Γ W X) {pins : List (Addr × Obj)} {s : Shared} {x y : V} {v u : Value} {Q : Value → Shared → Prop} {ρ : Rho} {a b : MP.Val} {m : MP.M} {k : Bool} (I : Inv X pins σ H s) (rx : RelV x v) (ry : RelV y u) (hr : HR G ρ m H) (ar : VR G ρ H a x) (br : VR G ρ H b y)
    (e : MP.member m a b = MP.Tri.ofB k) : (Q (.bool k) s → wpAny (model X.prog X.w) X.A (compareOp .In v u) Q X.xe s) ∧ (Q (.bool (!k)) s → wpAny (model X.prog X.w) X.A (compareOp .NotIn v u) Q X.xe s) := by
  cases b with
  | str t =>
    cases a with
    | str s1 =>
      cases s1 with
      | nil => cases k <;> cases e
      | cons c r =>
        cases r with
        | cons _ _ => cases k <;> cases e
        | nil =>
          obtain ⟨rfl, _⟩ := ar
          obtain ⟨rfl, _⟩ := br
          obtain ⟨t1, rfl⟩ := rx
          obtain ⟨t2, rfl⟩ := ry
          have e : MP.hasN c t = k := ofB_inj e
          rw [hasN_iff] at e
          have z := StrLaws.found_one ⟨t.toArray⟩ c
          have z2 : (!(Builtin.Str.occurrences (⟨t.toArray⟩ : Str) (⟨[c].toArray⟩ : Str) 0 (⟨t.toArray⟩ : Str).length 1).isEmpty) = k := by
            rw [← e]
            exact z
          exact ⟨fun q => in_str (by rw [z2]; exact q), fun q => notIn_str (by rw [z2]; exact q)⟩
    | _ => cases k <;> cases e
  | tup ws =>
    obtain ⟨h1, h2, h3⟩ := memL_of (a := a) (xs := ws) e
    obtain ⟨as, q1⟩ := reads_of F.hK I hr _ a x v h1 ar rx
    have hd : MP.datN m (MP.EQN + 1) (.tup ws) = true := h2
    obtain ⟨bs, q2⟩ := reads_of F.hK I hr _ (.tup ws) y u hd br ry
    have q2 : Reads s.heap u (.tuple (ws.map (toD m MP.EQN))) bs := q2
    exact ⟨fun q => SeqAt.in_tuple_data q2 q1 (plainAll_toD _) (plain_toD _ _) (F.room.mem (depth_toD _ _)) (by rw [h3]; exact q), fun q => SeqAt.notIn_tuple_data q2 q1 (plainAll_toD _) (plain_toD _ _) (F.room.mem (depth_toD _ _)) (by rw [h3]; exact q)⟩
  | ref j =>
    have e : (match MP.lstAt m j with | some xs => MP.memL m a xs | .none => .odd) = MP.Tri.ofB k := e
    cases e1 : MP.lstAt m j with
    | none => rw [e1] at e; cases k <;> cases e
    | some ws =>
      rw [e1] at e
      obtain ⟨h1, h2, h3⟩ := memL_of (a := a) (xs := ws) e
      obtain ⟨as, q1⟩ := reads_of F.hK I hr _ a x v h1 ar rx
      have hd : MP.datN m (MP.EQN + 1) (.ref j) = true := by
        show (match MP.lstAt m j with | some xs => MP.datL (MP.datN m MP.EQN) xs | .none => false) = true
        rw [e1]; exact h2
      obtain ⟨bs, q2⟩ := reads_of F.hK I hr _ (.ref j) y u hd br ry
      have q2 : Reads s.heap u (match MP.lstAt m j with | some xs => .list (xs.map (toD m MP.EQN)) | none => .none) bs := q2
      rw [e1] at q2
      exact ⟨fun q => SeqAt.in_list_data q2 q1 (plainAll_toD _) (plain_toD _ _) (F.room.mem (depth_toD _ _)) (by rw [h3]; exact q), fun q => SeqAt.notIn_list_data q2 q1 (plainAll_toD _) (plain_toD _ _) (F.room.mem (depth_toD _ _)) (by rw [h3]; exact q)⟩
  | _ => cases k <;> cases e
theorem op_in_ok {X : Cx} (F : Fit G Γ W X) : OpR X (compareOp .In) (rB G W fun a b m => MP.tri (MP.member m a b) m) := by
  intro pins s σ H x y v u Q I rx ry ⟨ρ, a, b, m, hr, ar, br, p⟩
  obtain ⟨k, e, qk⟩ := tri_done p hr
  exact (mem_ok F I rx ry hr ar br e).1 (fin_bl (k := k) I qk rfl)
theorem op_notin_ok {X : Cx} (F : Fit G Γ W X) : OpR X (compareOp .NotIn) (rB G W fun a b m => MP.tri (MP.member m a b).neg m) := by
  intro pins s σ H x y v u Q I rx ry ⟨ρ, a, b, m, hr, ar, br, p⟩
  obtain ⟨k, e, qk⟩ := tri_done p hr
  exact (mem_ok F I rx ry hr ar br (neg_of e)).2 (fin_bl (k := k) I qk (by rw [Bool.not_not]))
/-- which is which -/
def opOf : MP.Cmp → CmpOp
  | .eq => .Eq
  | .ne => .NotEq
  | .lt => .Lt
  | .le => .LtE
  | .gt => .Gt
  | .ge => .GtE
  | .isin => .In
  | .notin => .NotIn
  | .is => .Is
  | .isnot => .IsNot
theorem op_cmp_ok {X : Cx} (F : Fit G Γ W X) (op : MP.Cmp) : OpR X (compareOp (opOf op)) (rB G W fun a b m => MP.tri (MP.cmpop op m a b) m) := by
  cases op with
  | eq => exact op_eq_ok F
  | ne => exact op_ne_ok F
  | lt => exact op_lt_ok F
  | le => exact op_le_ok F
  | gt => exact op_gt_ok F
  | ge => exact op_ge_ok F
  | isin => exact op_in_ok F
  | notin => exact op_notin_ok F
  | is => exact op_is_ok F
  | isnot => exact op_isnot_ok F
theorem tOp_of {X : Cx} {r : MP.Val → MP.Val → MP.M → MP.R MP.Val} {a b : Expr} {ca cb : MP.E} {Q : VK} (h : trE G f W (fun f σ m => (ca f σ m).bind fun v m => (cb f σ m).bind fun w m => r v w m) σ H Q) : tOp (rB G W r) (trE G f W ca) (trE G f W cb) σ H Q := by
  obtain ⟨ρ, σm, m, sr, hr, p⟩ := h
  refine step sr hr p fun ρ1 v m1 x H1 sr1 hr1 vr _ p1 => ?_
  exact step sr1 hr1 p1 fun ρ2 w m2 y H2 sr2 hr2 wr ex p2 => ⟨ρ2, v, w, m2, hr2, vr.ext ex, wr, p2⟩
theorem ok_cmp {op : MP.Cmp} {a b : Expr} {ca cb : MP.E} {pos : Pos} (ha : OkE G Γ a ca) (hb : OkE G Γ b cb) (hm : behindInMarks (opOf op) b = false := by first | exact nomark _ | with_unfolding_all rfl) : OkE G Γ (.Compare a [opOf op] [b] pos) (.cmp op ca cb) := fun W X F =>
  PE.weak (pe_cmpR (op_cmp_ok F op) (ha W X F) (hb W X F) hm) fun σ H Q h => tOp_of (X := X) (a := a) (b := b) h
theorem okT_cmp {op : MP.Cmp} {a b : Expr} {ca cb : MP.E} {pos : Pos} (ha : OkE G Γ a ca) (hb : OkE G Γ b cb) (hm : behindInMarks (opOf op) b = false := by first | exact nomark _ | with_unfolding_all rfl) : OkT G Γ (.Compare a [opOf op] [b] pos) (.cmp op ca cb) := fun W X F =>
  PT.weak (pt_cmpR (op_cmp_ok F op) (ha W X F) (hb W X F) hm) fun σ H Q h => tOp_of (X := X) (a := a) (b := b) h
theorem chain_of {X : Cx} {op op' : MP.Cmp} {ca cb cc : MP.E} {Q : VK} (h : trE G f W (.chain op op' ca cb cc) σ H Q) : tChain (rB G W fun a b m => MP.tri (MP.cmpop op m a b) m) (rB G W fun a b m => MP.tri (MP.cmpop op' m a b) m) (trE G f W ca) (trE G f W cb) (trE G f W cc) σ H Q := by
  obtain ⟨ρ, σm, m, sr, hr, p⟩ := h
  refine step sr hr p fun ρ1 v m1 x H1 sr1 hr1 vr _ p1 => ?_
  refine step sr1 hr1 p1 fun ρ2 w m2 y H2 sr2 hr2 wr ex p2 => ⟨ρ2, v, w, m2, hr2, vr.ext ex, wr, ?_⟩
  have p2 : Post G (VR G) W ρ2 H2 Q (match MP.cmpop op m2 v w with
    | .yes => (cc f σm m2).bind fun z m => MP.tri (MP.cmpop op' m w z) m
    | .no => .ok (.bool false) m2
    | .odd => .bad 41) := p2
  cases e : MP.cmpop op m2 v w with
  | odd => rw [e] at p2; exact p2.elim
  | no =>
    rw [e] at p2
    show Post G (VR G) W ρ2 H2 _ (MP.tri (MP.cmpop op m2 v w) m2)
    rw [e]
    intro ρ3 H3 z ex3 hr3 zr
    cases zr
    refine ⟨false, rfl, ?_⟩
    rw [if_neg Bool.false_ne_true]
    exact (Post.at (ρ' := ρ3) (H' := H3) p2 ex3).done hr3 rfl
  | yes =>
    rw [e] at p2
    show Post G (VR G) W ρ2 H2 _ (MP.tri (MP.cmpop op m2 v w) m2)
    rw [e]
    intro ρ3 H3 z ex3 hr3 zr
    cases zr
    refine ⟨true, rfl, ?_⟩
    rw [if_pos rfl]
    have p3 : Post G (VR G) W ρ3 H3 Q ((cc f σm m2).bind fun z m => MP.tri (MP.cmpop op' m w z) m) := Post.at p2 ex3
    exact step (sr2.ext ex3) hr3 p3 fun ρ4 z m4 zx H4 sr4 hr4 zr ex4 p4 => ⟨ρ4, w, z, m4, hr4, (wr.ext ex3).ext ex4, zr, p4⟩
theorem ok_chain {op op' : MP.Cmp} {a b c : Expr} {ca cb cc : MP.E} {pos : Pos} (ha : OkE G Γ a ca) (hb : OkE G Γ b cb) (hc : OkE G Γ c cc) (hm : lastMarks [opOf op, opOf op'] [b, c] = false := by with_unfolding_all rfl) : OkE G Γ (.Compare a [opOf op, opOf op'] [b, c] pos) (.chain op op' ca cb cc) := fun W X F =>
  PE.weak (pe_chain (op_cmp_ok F op) (op_cmp_ok F op') (ha W X F) (hb W X F) (hc W X F) hm) fun σ H Q h => chain_of (X := X) h
theorem okT_chain {op op' : MP.Cmp} {a b c : Expr} {ca cb cc : MP.E} {pos : Pos} (ha : OkE G Γ a ca) (hb : OkE G Γ b cb) (hc : OkE G Γ c cc) (hm : lastMarks [opOf op, opOf op'] [b, c] = false := by with_unfolding_all rfl) : OkT G Γ (.Compare a [opOf op, opOf op'] [b, c] pos) (.chain op op' ca cb cc) := fun W X F =>
  PT.weak (pt_chain (op_cmp_ok F op) (op_cmp_ok F op') (ha W X F) (hb W X F) (hc W X F) hm) fun σ H Q h => chain_of (X := X) h
end
end Snd
set_option Elab.async false
set_option linter.all false
set_option maxRecDepth 100000
set_option maxHeartbeats 4000000
/-! Snd11: places, slices, len. -/
namespace Snd
open PySem PySem.Spec PyProof.Rows L2
/-! ### dicts -/
section
variable {G : Gp} {ρ : Rho} {H : Hp}
theorem VR.int_inv {k : MP.Val} {j : Int} (r : VR G ρ H k (.int j)) : k = .int j := by
  cases k with
  | int i => have e : V.int j = V.int i := r; cases e; rfl
  | str s => obtain ⟨e, _⟩ := r; cases e
  | tup vs => unfold VR at r; obtain ⟨_, _, e, _⟩ := r; cases e
  | ref n => unfold VR at r; obtain ⟨_, e, _⟩ := r; cases e
  | cls n => unfold VR at r; obtain ⟨_, e, _⟩ := r; cases e
  | none => have e : V.int j = V.non := r; cases e
  | bool b => have e : V.int j = V.bl b := r; cases e
  | _ => exact (show False from r).elim
theorem VR.str_inv {k : MP.Val} {t : Str} (r : VR G ρ H k (.str t)) : ∃ s, k = .str s ∧ t = ⟨s.toArray⟩ := by
  cases k with
  | int i => have e : V.str t = V.int i := r; cases e
  | str s => obtain ⟨e, _⟩ := r; cases e; exact ⟨s, rfl, rfl⟩
  | tup vs => unfold VR at r; obtain ⟨_, _, e, _⟩ := r; cases e
  | ref n => unfold VR at r; obtain ⟨_, e, _⟩ := r; cases e
  | cls n => unfold VR at r; obtain ⟨_, e, _⟩ := r; cases e
  | none => have e : V.str t = V.non := r; cases e
  | bool b => have e : V.str t = V.bl b := r; cases e
  | _ => exact (show False from r).elim
theorem key_of {k : MP.Val} {y : V} (hk : MP.isKey k = true) (r : VR G ρ H k y) : ∃ q : Key, y = kV q := by
  cases k with
  | int i => cases r; exact ⟨.inl i, rfl⟩
  | str s => obtain ⟨rfl, _⟩ := r; exact ⟨.inr _, rfl⟩
  | _ => cases hk
theorem fin_dec {b : Bool} {P : Prop} [Decidable P] (h : b = true ↔ P) : b = decide P := by
  rw [Bool.eq_iff_iff, decide_eq_true_eq]; exact h
theorem keyEq_of {a k : MP.Val} {p q : Key} (ra : VR G ρ H a (kV p)) (rk : VR G ρ H k (kV q)) : MP.keyEq a k = decide (p = q) := by
  cases p with
  | inl i =>
    have := VR.int_inv ra; subst this
    cases q with
    | inl j => have := VR.int_inv rk; subst this; exact fin_dec (by show decide (i = j) = true ↔ _; simp)
    | inr t => obtain ⟨s, rfl, rfl⟩ := VR.str_inv rk; exact fin_dec (by show false = true ↔ _; simp)
  | inr t =>
    obtain ⟨s, rfl, rfl⟩ := VR.str_inv ra
    cases q with
    | inl j => have := VR.int_inv rk; subst this; exact fin_dec (by show false = true ↔ _; simp)
    | inr t =>
      obtain ⟨s2, rfl, rfl⟩ := VR.str_inv rk
      show MP.strEq s s2 = _
      rw [strEq_iff]
      have h := str_eq s s2
      rw [Bool.eq_iff_iff, beq_iff_eq] at h
      exact fin_dec (by rw [← h]; constructor <;> intro z <;> first | exact congrArg _ z | (injection z))
/-- the value found -/
def OptR (G : Gp) (ρ : Rho) (H : Hp) : Option MP.Val → Option V → Prop
  | none, none => True
  | some v, some x => VR G ρ H v x
  | _, _ => False
theorem lookK_of {k : MP.Val} {q : Key} (rk : VR G ρ H k (kV q)) : ∀ {kvs : List (MP.Val × MP.Val)} {us : List (Key × V)}, KR G ρ H kvs us → OptR G ρ H (MP.lookK k kvs) (valV us q)
  | [], us, r => by have r : us = [] := r; subst r; exact trivial
  | (a, v) :: kvs, us, r => by
    obtain ⟨p, x, us', rfl, r1, r2, r3⟩ := r
    show OptR G ρ H (match MP.keyEq a k with | true => some v | false => MP.lookK k kvs) _
    rw [keyEq_of r1 rk]
    by_cases h : p = q
    · rw [valV_pos (p := (p, x)) h]
      simp only [h, decide_true]
      exact r2
    · rw [valV_neg (p := (p, x)) h]
      simp only [h, decide_false]
      exact lookK_of rk r3
theorem KR.length : ∀ {kvs : List (MP.Val × MP.Val)} {us : List (Key × V)}, KR G ρ H kvs us → us.length = kvs.length
  | [], us, r => by have r : us = [] := r; subst r; rfl
  | (a, v) :: kvs, us, r => by
    obtain ⟨p, x, us', rfl, r1, r2, r3⟩ := r
    simp [KR.length r3]
theorem KR.append : ∀ {kvs ks : List (MP.Val × MP.Val)} {us ws : List (Key × V)}, KR G ρ H kvs us → KR G ρ H ks ws → KR G ρ H (kvs ++ ks) (us ++ ws)
  | [], _, us, _, r, r' => by have r : us = [] := r; subst r; exact r'
  | (a, v) :: kvs, _, us, _, r, r' => by
    obtain ⟨p, x, us', rfl, r1, r2, r3⟩ := r
    exact ⟨p, x, _, rfl, r1, r2, KR.append r3 r'⟩
theorem mapK_of {k v : MP.Val} {q : Key} {x : V} (rk : VR G ρ H k (kV q)) (rv : VR G ρ H v x) : ∀ {kvs : List (MP.Val × MP.Val)} {us : List (Key × V)}, KR G ρ H kvs us → KR G ρ H (MP.mapK k v kvs) (us.map fun kv => if kv.1 = q then (kv.1, x) else kv)
  | [], us, r => by have r : us = [] := r; subst r; rfl
  | (a, w) :: kvs, us, r => by
    obtain ⟨p, y, us', rfl, r1, r2, r3⟩ := r
    show KR G ρ H (match MP.keyEq a k with | true => (a, v) :: MP.mapK k v kvs | false => (a, w) :: MP.mapK k v kvs) _
    rw [keyEq_of r1 rk, List.map_cons]
    by_cases h : p = q
    · simp only [h, decide_true, if_true]
      exact ⟨q, x, _, rfl, h ▸ r1, rv, mapK_of rk rv r3⟩
    · simp only [h, decide_false, if_false]
      exact ⟨p, y, _, rfl, r1, r2, mapK_of rk rv r3⟩
theorem putK_of {k v : MP.Val} {q : Key} {x : V} {kvs : List (MP.Val × MP.Val)} {us : List (Key × V)} (rk : VR G ρ H k (kV q)) (rv : VR G ρ H v x) (r : KR G ρ H kvs us) : KR G ρ H (MP.putK k v kvs) (L2.putK us q x) := by
  have z := lookK_of rk r
  show KR G ρ H (match MP.lookK k kvs with | some _ => MP.mapK k v kvs | none => kvs ++ [(k, v)]) _
  unfold L2.putK
  rw [valV_any]
  cases e1 : MP.lookK k kvs with
  | some w =>
    rw [e1] at z
    cases e2 : valV us q with
    | none => rw [e2] at z; exact z.elim
    | some y => rw [if_pos (show (some y).isSome = true from rfl)]; exact mapK_of rk rv r
  | none =>
    rw [e1] at z
    cases e2 : valV us q with
    | some y => rw [e2] at z; exact z.elim
    | none =>
      rw [if_neg (by simp)]
      exact r.append ⟨q, x, [], rfl, rk, rv, rfl⟩
theorem dctAt_of {m : MP.M} {k : Nat} {kvs : List (MP.Val × MP.Val)} {a : Addr} (hr : HR G ρ m H) (e : MP.dctAt m k = some kvs) (hk : G.ro[k]? = some a ∨ ρ k = some a) : ∃ us, H a = some (.dK us) ∧ KR G ρ H kvs us ∧ ρ k = some a ∧ m.t.get k = some (.dct kvs) := by
  unfold MP.dctAt at e
  cases e1 : m.t.get k with
  | none => rw [e1] at e; cases e
  | some o =>
    rw [e1] at e
    rcases hk with hk | hk
    · obtain ⟨o', e2, r⟩ := hr.ro k a hk
      rw [e1] at e2; cases e2
      cases o with
      | rol ys => cases e
      | _ => exact r.elim
    · have r := hr.obj k o a e1 hk
      cases o with
      | dct ys =>
        cases e
        obtain ⟨us, h1, h2⟩ := r
        exact ⟨us, h1, h2, hk, rfl⟩
      | rod ys => exact r.elim
      | _ => cases e
theorem dput_of {m : MP.M} {k v : MP.Val} {kvs kvs' : List (MP.Val × MP.Val)} {us : List (Key × V)} {y x : V} (h : MP.dput m k v kvs = some kvs') (r : KR G ρ H kvs us) (rk : VR G ρ H k y) (rv : VR G ρ H v x) : ∃ q, y = kV q ∧ us.length < sizeLine ∧ KR G ρ H kvs' (L2.putK us q x) := by
  unfold MP.dput at h
  cases e1 : MP.isKey k with
  | false => rw [e1] at h; cases h
  | true =>
    rw [e1] at h
    cases e2 : Nat.blt kvs.length MP.SIZE with
    | false => rw [e2] at h; cases h
    | true =>
      rw [e2] at h
      cases h
      obtain ⟨q, rfl⟩ := key_of e1 rk
      refine ⟨q, rfl, ?_, putK_of rk rv r⟩
      rw [r.length, sizeLine_eq]
      exact Nat.le_of_ble_eq_true e2
theorem look_of {m : MP.M} {k : MP.Val} {kvs : List (MP.Val × MP.Val)} {us : List (Key × V)} {y : V} {o : Option MP.Val} (h : MP.look m k kvs = some o) (r : KR G ρ H kvs us) (rk : VR G ρ H k y) : ∃ q, y = kV q ∧ OptR G ρ H o (valV us q) := by
  unfold MP.look at h
  cases e1 : MP.isKey k with
  | false => rw [e1] at h; cases h
  | true =>
    rw [e1] at h
    cases h
    obtain ⟨q, rfl⟩ := key_of e1 rk
    exact ⟨q, rfl, lookK_of rk r⟩
end
theorem ix_dget {X : Cx} (hu : X.A.units + 1 < cLine) : IxR X (fun x y H Q => ∃ a v, x = .ref a ∧ DGet H a y (some v) ∧ Q v H) := by
  intro value slice pins s σ H x y v u Q I rx ry h hs
  obtain ⟨a, z, rfl, g, q⟩ := h
  cases rx
  exact tail_any (dict_typeIs I g) PySem.F.slot_dict_getitem.lookup (d_getItem hu I g ry fun w' s3 I3 rw' => ⟨z, H, I3, rw', q⟩) hs
theorem RoomD.one {d : Nat} {A : Around} (r : RoomD d A) : A.units + 1 < cLine := by have := r.un; omega
theorem ix_of {i : Int} {n j : Nat} (h : MP.ixOf i n = some j) : ixN n i = some j := by
  unfold ixN
  cases i with
  | ofNat k =>
    have h : (match Nat.blt k n with | true => some k | false => none) = some j := h
    cases e : Nat.blt k n with
    | false => rw [e] at h; cases h
    | true =>
      rw [e] at h
      obtain rfl : k = j := by injection h
      have : k < n := Nat.le_of_ble_eq_true e
      rw [if_pos (show (0 : Int) ≤ Int.ofNat k from Int.ofNat_zero_le k), if_pos (show Int.ofNat k < (n : Int) from Int.ofNat_lt.mpr this)]
      rfl
  | negSucc k =>
    have h : (match Nat.blt k n with | true => some (n - (k + 1)) | false => none) = some j := h
    cases e : Nat.blt k n with
    | false => rw [e] at h; cases h
    | true =>
      rw [e] at h
      cases h
      have : k < n := Nat.le_of_ble_eq_true e
      rw [if_neg (by omega), if_pos (by omega)]
      congr 1
      omega
theorem at_of {α : Type} {xs : List α} {i : Int} {n j : Nat} {v : α} (h : MP.ixOf i n = some j) (hn : xs.length = n) (e : xs[j]? = some v) : atI xs i = some v := by
  unfold atI
  rw [hn, ix_of h]
  exact e
theorem cut_of (i : Int) (n d : Nat) : MP.cutOf i n = HT.sIx n d (some i) := by
  show MP.cutOf i n = if i < 0 then (i + (n : Int)).toNat else min i.toNat n
  cases i with
  | ofNat k =>
    rw [if_neg (show ¬ (Int.ofNat k < 0) from Int.not_lt.mpr (Int.ofNat_zero_le k))]
    show (match Nat.blt k n with | true => k | false => n) = min k n
    cases e : Nat.blt k n with
    | true => have : k < n := Nat.le_of_ble_eq_true e; rw [Nat.min_eq_left (Nat.le_of_lt this)]
    | false =>
      have : ¬ k < n := fun q => by
        have : Nat.blt k n = true := Nat.ble_eq_true_of_le q
        rw [this] at e; cases e
      rw [Nat.min_eq_right (by omega)]
  | negSucc k =>
    rw [if_pos (by omega)]
    show n - (k + 1) = _
    omega
theorem slice_eq {α : Type} (xs : List α) (l h : Nat) : MP.slice xs l h = (xs.drop l).take (h - l) := by
  unfold MP.slice
  rw [List.drop_take]
section
variable {G : Gp} {Γ : Cn} {W : XPost} {σ : L2.St} {H : Hp} {f : MP.Cx}
theorem getAt_of {α : Type} {xs : List α} {i : MP.Val} {k : α → MP.R MP.Val} {ρ : Rho} {y : V} {Q : VK} (ir : VR G ρ H i y) (p : Post G (VR G) W ρ H Q (MP.getAt xs i k)) : ∃ n j v, y = .int n ∧ MP.ixOf n xs.length = some j ∧ xs[j]? = some v ∧ Post G (VR G) W ρ H Q (k v) := by
  cases i with
  | int n =>
    cases ir
    have p : Post G (VR G) W ρ H Q (match MP.ixOf n xs.length with | some j => (match MP.nth xs j with | some v => k v | .none => .bad 17) | .none => .bad 18) := p
    cases e : MP.ixOf n xs.length with
    | none => rw [e] at p; exact p.elim
    | some j =>
      rw [e] at p
      simp only at p
      rw [nth_get] at p
      cases e2 : xs[j]? with
      | none => rw [e2] at p; exact p.elim
      | some v => rw [e2] at p; exact ⟨n, j, v, rfl, e, e2, p⟩
  | _ => exact False.elim p
theorem item_ok {X : Cx} (F : Fit G Γ W X) : IxR X (rB G W MP.item) := by
  intro value sl pins s σ H x y v u Q I rx ry ⟨ρ, a, i, m, hr, ar, ir, p⟩ hs
  cases a with
  | tup vs =>
    unfold VR at ar
    obtain ⟨p0, us, rfl, q, r⟩ := ar
    obtain ⟨n, j, w, rfl, h1, h2, p⟩ := getAt_of (xs := vs) (i := i) ir p
    obtain ⟨z, e1, r1⟩ := r.get h2
    exact ix_tup value sl pins s σ H _ _ v u Q I rx ry ⟨p0, us, n, z, rfl, rfl, by rw [F.hK]; exact q, at_of h1 r.length e1, p.done hr r1⟩ hs
  | str t =>
    obtain ⟨rfl, ht⟩ := ar
    obtain ⟨hl, p⟩ := fits_of (xs := t) p
    obtain ⟨n, j, w, rfl, h1, h2, p⟩ := getAt_of (xs := t) (i := i) ir p
    refine ix_str value sl pins s σ H _ _ v u Q I rx ry ⟨_, n, w, rfl, rfl, by simpa [Str.length] using hl, at_of h1 rfl h2, p.done hr ⟨rfl, fun c hc => ?_⟩⟩ hs
    have : c = w := by simpa using hc
    subst this
    exact ht _ (List.mem_of_getElem? h2)
  | ref k =>
    have p : Post G (VR G) W ρ H Q (match MP.lstAt m k with
      | some xs => MP.getAt xs i fun v => .ok v m
      | .none => match MP.dctAt m k with
        | some kvs => (match MP.look m i kvs with | some o => (match o with | some v => .ok v m | .none => .bad 20) | .none => .bad 21)
        | .none => .bad 22) := p
    cases e : MP.lstAt m k with
    | some vs =>
      rw [e] at p
      unfold VR at ar
      obtain ⟨p0, rfl, hk⟩ := ar
      obtain ⟨us, q, r⟩ := lstAt_of hr e hk
      obtain ⟨n, j, w, rfl, h1, h2, p⟩ := getAt_of (xs := vs) (i := i) ir p
      obtain ⟨z, e1, r1⟩ := r.get h2
      exact ix_list value sl pins s σ H _ _ v u Q I rx ry ⟨p0, us, n, z, rfl, rfl, by rw [F.hK]; exact q, at_of h1 r.length e1, p.done hr r1⟩ hs
    | none =>
      rw [e] at p
      have p : Post G (VR G) W ρ H Q (match MP.dctAt m k with
        | some kvs => (match MP.look m i kvs with | some o => (match o with | some v => .ok v m | .none => .bad 20) | .none => .bad 21)
        | .none => .bad 22) := p
      cases e2 : MP.dctAt m k with
      | none => rw [e2] at p; exact p.elim
      | some kvs =>
        rw [e2] at p
        unfold VR at ar
        obtain ⟨p0, rfl, hk⟩ := ar
        obtain ⟨us, h1, kr, _, _⟩ := dctAt_of hr e2 hk
        simp only at p
        cases e3 : MP.look m i kvs with
        | none => rw [e3] at p; exact p.elim
        | some o =>
          rw [e3] at p
          obtain ⟨q, rfl, z⟩ := look_of e3 kr ir
          cases o with
          | none => exact p.elim
          | some w =>
            cases e4 : valV us q with
            | none => rw [e4] at z; exact z.elim
            | some zz =>
              rw [e4] at z
              refine ix_dget F.room.one value sl pins s σ H _ _ v u Q I rx ry ⟨p0, zz, rfl, ?_, p.done hr z⟩ hs
              rw [← e4]
              exact DGet.k h1
  | byt t => exact (show False from ar).elim
  | _ => exact False.elim p
theorem ok_idx {a b : Expr} {ca cb : MP.E} {pos : Pos} (ha : OkE G Γ a ca) (hb : OkE G Γ b cb) (hs : PlainIx b := by intro _ _; rfl) : OkE G Γ (.Subscript a b pos) (.idx ca cb) := fun W X F =>
  PE.weak (pe_ix (item_ok F) (ha W X F) (hb W X F) hs) fun σ H Q h => tOp_of (X := X) (a := a) (b := b) h
/-! ### slices -/
def trO (G : Gp) (f : MP.Cx) (W : XPost) : Option MP.E → TO
  | none => tNoPart
  | some c => tPart (trE G f W c)
def OkO (G : Gp) (Γ : Cn) (e : Option Expr) (c : Option MP.E) : Prop := ∀ (W : XPost) (X : Cx), Fit G Γ W X → PO X e (trO G Γ.f W c)
theorem okO_none : OkO G Γ none none := fun W X F => po_none
theorem okO_some {e : Expr} {c : MP.E} (h : OkE G Γ e c) : OkO G Γ (some e) (some c) := fun W X F => po_some (h W X F)
/-- a part's run -/
theorem step_opt {co : Option MP.E} {k : Option Int → MP.M → MP.R MP.Val} {Q : VK} {Q1 : Option Int → Hp → Prop} {ρ : Rho} {σm : List MP.Val} {m : MP.M} (sr : SR G W ρ H σm σ) (hr : HR G ρ m H)
    (p : Post G (VR G) W ρ H Q ((MP.evOpt f co σm m).bind k))
    (h : ∀ ρ1 o m1 H1, SR G W ρ1 H1 σm σ → HR G ρ1 m1 H1 → Ext G ρ H ρ1 H1 → Post G (VR G) W ρ1 H1 Q (k o m1) → Q1 o H1) : trO G f W co σ H Q1 := by
  cases co with
  | none => exact h ρ none m H sr hr Ext.refl p
  | some c =>
    have e0 : (MP.evOpt f (some c) σm m).bind k = (c f σm m).bind fun v m => (match v with | .int i => MP.R.ok (some i) m | _ => .bad 24).bind k := by
      show ((c f σm m).bind fun v m => match v with | .int i => MP.R.ok (some i) m | _ => .bad 24).bind k = _
      cases c f σm m <;> rfl
    rw [e0] at p
    refine step sr hr p fun ρ1 v m1 x H1 sr1 hr1 vr ex p1 => ?_
    cases v with
    | int i => cases vr; exact ⟨i, rfl, h ρ1 (some i) m1 H1 sr1 hr1 ex p1⟩
    | _ => exact False.elim p1
theorem bound_of {ρ : Rho} {lo : Option Int} {d n : Nat} {k : Nat → MP.R MP.Val} {Q : VK} (p : Post G (VR G) W ρ H Q (MP.bound lo d n k)) : Post G (VR G) W ρ H Q (k (HT.sIx n d lo)) := by
  cases lo with
  | none => exact p
  | some i =>
    have p : Post G (VR G) W ρ H Q (k (MP.cutOf i n)) := p
    rw [cut_of i n d] at p
    exact p
theorem VRs.take {ρ : Rho} : ∀ {vs : List MP.Val} {us : List V} (n : Nat), VRs G ρ H vs us → VRs G ρ H (vs.take n) (us.take n)
  | [], _, n, h => by have := h.nil_of; subst this; simp; unfold VRs; rfl
  | v :: vs, _, 0, h => by simp; unfold VRs; rfl
  | v :: vs, _, n + 1, h => by
    obtain ⟨x, r, rfl, h1, h2⟩ := h.cons_of
    rw [List.take_succ_cons, List.take_succ_cons]
    unfold VRs
    exact ⟨x, _, rfl, h1, VRs.take n h2⟩
theorem VRs.drop {ρ : Rho} : ∀ {vs : List MP.Val} {us : List V} (n : Nat), VRs G ρ H vs us → VRs G ρ H (vs.drop n) (us.drop n)
  | vs, _, 0, h => h
  | [], _, n + 1, h => by have := h.nil_of; subst this; simp; unfold VRs; rfl
  | v :: vs, _, n + 1, h => by
    obtain ⟨x, r, rfl, h1, h2⟩ := h.cons_of
    exact VRs.drop n h2
theorem VRs.cut {ρ : Rho} {vs : List MP.Val} {us : List V} (lo hi : Option Int) (h : VRs G ρ H vs us) : VRs G ρ H (MP.slice vs (HT.sIx vs.length 0 lo) (HT.sIx vs.length vs.length hi)) (cutV us lo hi) := by
  rw [slice_eq]
  unfold cutV
  rw [h.length]
  exact (h.drop _).take _
def rS (G : Gp) (W : XPost) : V → Option Int → Option Int → Hp → VK → Prop := fun x lo hi H Q => ∃ ρ v m, HR G ρ m H ∧ VR G ρ H v x ∧ Post G (VR G) W ρ H Q (MP.sliced v lo hi m)
theorem sliced_ok {X : Cx} (F : Fit G Γ W X) : SlR X (rS G W) := by
  intro pins s σ H x v vl vu lo hi sl Q I rx hs pl pu ⟨ρ, a, m, hr, ar, p⟩
  cases a with
  | tup vs =>
    unfold VR at ar
    obtain ⟨p0, us, rfl, q, r⟩ := ar
    have p : Post G (VR G) W ρ H Q (MP.bound lo 0 vs.length fun l => MP.bound hi vs.length vs.length fun h => .ok (.tup (MP.slice vs l h)) m) := p
    have p := bound_of (bound_of p)
    have rc := r.cut lo hi
    refine sl_tupA pins s σ H _ v vl vu lo hi sl Q I rx hs pl pu ⟨p0, us, rfl, by rw [F.hK]; exact q, fun ⟨z1, z2⟩ => ?_, fun _ p' hp => new_tup hr rc hp p⟩
    rw [r.length] at z1 z2
    rw [z1, z2, slice_eq] at p
    simp at p
    refine p.done hr ?_
    unfold VR
    exact ⟨p0, us, rfl, q, r⟩
  | str t =>
    obtain ⟨rfl, ht⟩ := ar
    obtain ⟨hl, p⟩ := fits_of (xs := t) p
    have p := bound_of (bound_of p)
    refine sl_str pins s σ H _ v vl vu lo hi sl Q I rx hs pl pu ⟨_, rfl, by simpa [Str.length] using hl, ?_⟩
    refine p.done hr ⟨?_, fun c hc => ?_⟩
    · unfold cutS
      rw [slice_eq]
      rfl
    · unfold MP.slice at hc
      exact ht c (List.mem_of_mem_take (List.mem_of_mem_drop hc))
  | ref k =>
    have p : Post G (VR G) W ρ H Q (match MP.lstAt m k with
      | some xs => MP.bound lo 0 xs.length fun l => MP.bound hi xs.length xs.length fun h => MP.mkObj m (.lst (MP.slice xs l h))
      | .none => .bad 25) := p
    cases e : MP.lstAt m k with
    | none => rw [e] at p; exact p.elim
    | some vs =>
      rw [e] at p
      unfold VR at ar
      obtain ⟨p0, rfl, hk⟩ := ar
      obtain ⟨us, q, r⟩ := lstAt_of hr e hk
      have p := bound_of (bound_of p)
      exact sl_list pins s σ H _ v vl vu lo hi sl Q I rx hs pl pu ⟨p0, us, rfl, by rw [F.hK]; exact q, fun p' hp => new_lst hr (r.cut lo hi) hp p⟩
  | byt t => exact (show False from ar).elim
  | _ => exact False.elim p
theorem ok_slc {e : Expr} {lo hi : Option Expr} {c : MP.E} {cl ch : Option MP.E} {pos p2 : Pos} (he : OkE G Γ e c) (hl : OkO G Γ lo cl) (hh : OkO G Γ hi ch) : OkE G Γ (.Subscript e (.Slice lo hi none p2) pos) (.slc c cl ch) := fun W X F => by
  refine PE.weak (pe_slice (sliced_ok F) (he W X F) (hl W X F) (hh W X F)) fun σ H Q ⟨ρ, σm, m, sr, hr, p⟩ => ?_
  refine step sr hr p fun ρ1 v m1 x H1 sr1 hr1 vr _ p1 => ?_
  refine step_opt sr1 hr1 p1 fun ρ2 l m2 H2 sr2 hr2 ex2 p2 => ?_
  refine step_opt sr2 hr2 p2 fun ρ3 h m3 H3 sr3 hr3 ex3 p3 => ?_
  exact ⟨ρ3, v, m3, hr3, (vr.ext ex2).ext ex3, p3⟩
/-! ### len -/
theorem stepA1 {γ δ : Type} {Rl' : Rho → Hp → γ → δ → Prop} {c : MP.E} {k : MP.Val → MP.M → MP.R γ} {Q : δ → Hp → Prop} {Q1 : List V → Hp → Prop} {ρ : Rho} {σm : List MP.Val} {m : MP.M} (sr : SR G W ρ H σm σ) (hr : HR G ρ m H)
    (p : Post G Rl' W ρ H Q ((c f σm m).bind k))
    (h : ∀ ρ1 v m1 x H1, SR G W ρ1 H1 σm σ → HR G ρ1 m1 H1 → VR G ρ1 H1 v x → Post G Rl' W ρ1 H1 Q (k v m1) → Q1 [x] H1) : trL G f W [c] σ H Q1 := by
  refine ⟨ρ, σm, m, sr, hr, ?_⟩
  show Post G (VRs G) W ρ H Q1 ((c f σm m).bind fun v m => .ok [v] m)
  cases e : c f σm m with
  | bad n => rw [e] at p; exact p.elim
  | ex v m1 => rw [e] at p; exact p
  | ok v m1 =>
    rw [e] at p
    intro ρ1 H1 xs ex hr1 vr
    obtain ⟨x, rfl, r⟩ := VRs.one vr
    exact h ρ1 v m1 x H1 (sr.ext ex) hr1 r (Post.at (r := k v m1) p ex)
theorem stepA2 {γ δ : Type} {Rl' : Rho → Hp → γ → δ → Prop} {c c2 : MP.E} {k : MP.Val → MP.Val → MP.M → MP.R γ} {Q : δ → Hp → Prop} {Q1 : List V → Hp → Prop} {ρ : Rho} {σm : List MP.Val} {m : MP.M} (sr : SR G W ρ H σm σ) (hr : HR G ρ m H)
    (p : Post G Rl' W ρ H Q ((c f σm m).bind fun v m => (c2 f σm m).bind fun w m => k v w m))
    (h : ∀ ρ1 v w m1 x y H1, SR G W ρ1 H1 σm σ → HR G ρ1 m1 H1 → VR G ρ1 H1 v x → VR G ρ1 H1 w y → Post G Rl' W ρ1 H1 Q (k v w m1) → Q1 [x, y] H1) : trL G f W [c, c2] σ H Q1 := by
  refine ⟨ρ, σm, m, sr, hr, ?_⟩
  show Post G (VRs G) W ρ H Q1 ((c f σm m).bind fun v m => (MP.evL f [c2] σm m).bind fun vs m => .ok (v :: vs) m)
  cases e : c f σm m with
  | bad n => rw [e] at p; exact p.elim
  | ex v m1 => rw [e] at p; exact p
  | ok v m1 =>
    rw [e] at p
    have p : Post G Rl' W ρ H Q ((c2 f σm m1).bind fun w m => k v w m) := p
    show Post G (VRs G) W ρ H Q1 (((c2 f σm m1).bind fun w m => MP.R.ok [w] m).bind fun vs m => .ok (v :: vs) m)
    cases e2 : c2 f σm m1 with
    | bad n => rw [e2] at p; exact p.elim
    | ex w m2 => rw [e2] at p; exact p
    | ok w m2 =>
      rw [e2] at p
      intro ρ1 H1 xs ex hr1 vr
      obtain ⟨x, y, rfl, r, r2⟩ := VRs.two vr
      exact h ρ1 v w m2 x y H1 (sr.ext ex) hr1 r r2 (Post.at (r := k v w m2) p ex)
/-- a built-in function of one argument, by values -/
def rC1 (G : Gp) (W : XPost) (k : MP.Val → MP.M → MP.R MP.Val) : List V → Hp → VK → Prop := fun xs H Q => ∃ ρ v x m, xs = [x] ∧ HR G ρ m H ∧ VR G ρ H v x ∧ Post G (VR G) W ρ H Q (k v m)
theorem ok_b1 {x id : Str} {bid : String} {k : MP.Val → MP.M → MP.R MP.Val} {e : Expr} {c : MP.E} {pp pos : Pos} (hc : ∀ W X, Fit G Γ W X → CallR X (.builtin bid) (rC1 G W k)) (hb : Blt G Γ x) (hv : bootBuiltins x = some (.builtin bid)) (h : OkE G Γ e c)
    (hn : x ≠ "__name__" := by decide) (hdb : (x == ("__debug__" : Str)) = false := by decide) (he : ∀ env, starEach [e] env = (false, eval e env) :: starEach [] env := by intro _; rfl) : OkE G Γ (.Call (.Name x pp) [e] [] pos) (MP.E.v1 c k) := fun W X F =>
  PE.weak (pe_callB (hc W X F) (hb.gl F) (hb.no F) hv (okA_cons h okA_nil he W X F) hn hdb (he X.env)) fun σ H Q ⟨ρ, σm, m, sr, hr, p⟩ =>
    stepA1 sr hr p fun ρ1 v m1 x H1 sr1 hr1 vr p1 => ⟨ρ1, v, x, m1, rfl, hr1, vr, p1⟩
theorem ok_t1 {x id : Str} {bid : String} {k : MP.Val → MP.M → MP.R MP.Val} {e : Expr} {c : MP.E} {pp pos : Pos} (hc : ∀ W X, Fit G Γ W X → CallR X (.type bid) (rC1 G W k)) (hb : Blt G Γ x) (hv : bootBuiltins x = some (.type bid)) (h : OkE G Γ e c)
    (hn : x ≠ "__name__" := by decide) (hdb : (x == ("__debug__" : Str)) = false := by decide) (he : ∀ env, starEach [e] env = (false, eval e env) :: starEach [] env := by intro _; rfl) : OkE G Γ (.Call (.Name x pp) [e] [] pos) (MP.E.v1 c k) := fun W X F =>
  PE.weak (pe_callTy (hc W X F) (hb.gl F) (hb.no F) hv (okA_cons h okA_nil he W X F) hn hdb (he X.env)) fun σ H Q ⟨ρ, σm, m, sr, hr, p⟩ =>
    stepA1 sr hr p fun ρ1 v m1 x H1 sr1 hr1 vr p1 => ⟨ρ1, v, x, m1, rfl, hr1, vr, p1⟩
end
end Snd
set_option Elab.async false
set_option linter.all false
set_option maxRecDepth 100000
set_option maxHeartbeats 4000000
/-! Snd12: built-in functions. -/
namespace Snd
open PySem PySem.Spec PyProof.Rows L2
section
variable {G : Gp} {Γ : Cn} {W : XPost} {σ : L2.St} {H : Hp} {f : MP.Cx}
theorem len_ok {X : Cx} (F : Fit G Γ W X) : CallR X (.builtin "len") (rC1 G W MP.lenV) := by
  intro pins s σ H xs us Q I rs hh
  obtain ⟨ρ, v, x, m, rfl, hr, vr, p⟩ := hh
  cases v with
  | str t =>
    obtain ⟨rfl, ht⟩ := vr
    obtain ⟨hl, p⟩ := fits_of (xs := t) p
    refine call_len_str pins s σ H _ us Q I rs ⟨_, rfl, by simpa [Str.length] using hl, ?_⟩
    have e : (⟨t.toArray⟩ : Str).length = t.length := by simp [Str.length]
    rw [e]
    exact p.done hr rfl
  | tup vs =>
    unfold VR at vr
    obtain ⟨a, us', rfl, q, r⟩ := vr
    refine call_len_seq pins s σ H _ us Q I rs ⟨a, us', rfl, .inr (by rw [F.hK]; exact q), ?_⟩
    rw [r.length]
    exact Post.done (x := V.int (vs.length : Nat)) p hr rfl
  | ref k =>
    have p : Post G (VR G) W ρ H Q (match MP.lstAt m k with
      | some xs => .ok (.int (Int.ofNat xs.length)) m
      | .none => match MP.dctAt m k with
        | some xs => .ok (.int (Int.ofNat xs.length)) m
        | .none => match MP.setAt m k with
          | some xs => .ok (.int (Int.ofNat xs.length)) m
          | .none => .bad 15) := p
    unfold VR at vr
    obtain ⟨a, rfl, hk⟩ := vr
    cases e : MP.lstAt m k with
    | some vs =>
      rw [e] at p
      obtain ⟨us', q, r⟩ := lstAt_of hr e hk
      refine call_len_seq pins s σ H _ us Q I rs ⟨a, us', rfl, .inl (by rw [F.hK]; exact q), ?_⟩
      rw [r.length]
      exact Post.done (x := V.int (vs.length : Nat)) p hr rfl
    | none =>
      rw [e] at p
      cases e2 : MP.dctAt m k with
      | some kvs =>
        rw [e2] at p
        obtain ⟨us', h1, kr, _, _⟩ := dctAt_of hr e2 hk
        refine call_lenD pins s σ H _ us Q I rs ⟨a, us', rfl, h1, ?_⟩
        rw [kr.length]
        exact Post.done (x := V.int (kvs.length : Nat)) p hr rfl
      | none =>
        rw [e2] at p
        cases e3 : MP.setAt m k with
        | none => rw [e3] at p; exact p.elim
        | some xs =>
          exfalso
          unfold MP.setAt at e3
          cases e4 : m.t.get k with
          | none => rw [e4] at e3; cases e3
          | some o =>
            rw [e4] at e3
            rcases hk with hk | hk
            · obtain ⟨o', e5, r⟩ := hr.ro k a hk
              rw [e4] at e5; cases e5
              cases o <;> first | exact r.elim | cases e3
            · have r := hr.obj k o a e4 hk
              cases o <;> first | exact r.elim | cases e3
  | byt t => exact (show False from vr).elim
  | _ => exact False.elim p
theorem ok_len {e : Expr} {c : MP.E} {pp pos : Pos} (hb : Blt G Γ "len") (h : OkE G Γ e c) (he : ∀ env, starEach [e] env = (false, eval e env) :: starEach [] env := by intro _; rfl) : OkE G Γ (.Call (.Name "len" pp) [e] [] pos) (.bLen c) :=
  ok_b1 (id := "") (fun _ _ F => len_ok F) hb rfl h (he := he)
/-! ### list(x), tuple(x), int(x) -/
/-- a sequence's values: a tuple or a list -/
theorem seq_of {ρ : Rho} {m : MP.M} {v : MP.Val} {x : V} {vs : List MP.Val} (hr : HR G ρ m H) (vr : VR G ρ H v x) (hv : MP.seqOf m v = some vs) : ∃ a us, x = .ref a ∧ VRs G ρ H vs us ∧ ((SqL G.K H a us) ∨ (SqT G.K H a us ∧ v = .tup vs)) := by
  cases v with
  | tup ws =>
    cases hv
    unfold VR at vr
    obtain ⟨a, us, rfl, q, r⟩ := vr
    exact ⟨a, us, rfl, r, .inr ⟨q, rfl⟩⟩
  | ref k =>
    unfold VR at vr
    obtain ⟨a, rfl, hk⟩ := vr
    obtain ⟨us, q, r⟩ := lstAt_of hr hv hk
    exact ⟨a, us, rfl, r, .inl q⟩
  | _ => cases hv
theorem list_ok {X : Cx} (F : Fit G Γ W X) : CallR X (.type "list") (rC1 G W fun v m => MP.opt 52 (MP.seqOf m v) fun xs => MP.mkObj m (.lst xs)) := by
  intro pins s σ H xs us Q I rs hh
  obtain ⟨ρ, v, x, m, rfl, hr, vr, p⟩ := hh
  obtain ⟨vs, e, p⟩ := opt_of p
  obtain ⟨a, us', rfl, r, q⟩ := seq_of hr vr e
  exact call_list_of pins s σ H _ us Q I rs ⟨a, us', rfl, by rw [F.hK]; exact q.imp id (·.1), fun l hl => new_lst hr r hl p⟩
theorem ok_list {e : Expr} {c : MP.E} {pp pos : Pos} (hb : Blt G Γ "list") (h : OkE G Γ e c) (he : ∀ env, starEach [e] env = (false, eval e env) :: starEach [] env := by intro _; rfl) : OkE G Γ (.Call (.Name "list" pp) [e] [] pos) (.bList c) :=
  ok_t1 (id := "") (fun _ _ F => list_ok F) hb rfl h (he := he)
theorem tuple_ok {X : Cx} (F : Fit G Γ W X) : CallR X (.type "tuple") (rC1 G W fun v m => MP.opt 53 (MP.seqOf m v) fun xs => .ok (.tup xs) m) := by
  intro pins s σ H xs us Q I rs hh
  obtain ⟨ρ, v, x, m, rfl, hr, vr, p⟩ := hh
  obtain ⟨vs, e, p⟩ := opt_of p
  obtain ⟨a, us', rfl, r, q⟩ := seq_of hr vr e
  refine call_tuple_of pins s σ H _ us Q I rs ⟨a, us', rfl, ?_⟩
  rcases q with q | ⟨q, rfl⟩
  · exact .inl ⟨by rw [F.hK]; exact q, fun l hl => new_tup hr r hl p⟩
  · exact .inr ⟨by rw [F.hK]; exact q, p.done hr vr⟩
theorem ok_tuple {e : Expr} {c : MP.E} {pp pos : Pos} (hb : Blt G Γ "tuple") (h : OkE G Γ e c) (he : ∀ env, starEach [e] env = (false, eval e env) :: starEach [] env := by intro _; rfl) : OkE G Γ (.Call (.Name "tuple" pp) [e] [] pos) (.bTuple c) :=
  ok_t1 (id := "") (fun _ _ F => tuple_ok F) hb rfl h (he := he)
theorem int_ok {X : Cx} (F : Fit G Γ W X) : CallR X (.type "int") (rC1 G W MP.E.intV) := by
  intro pins s σ H xs us Q I rs hh
  obtain ⟨ρ, v, x, m, rfl, hr, vr, p⟩ := hh
  cases v with
  | int i =>
    cases vr
    exact call_int1 pins s σ H _ us Q I rs (.inl ⟨i, rfl, Post.done (x := V.int i) p hr rfl⟩)
  | _ => exact False.elim p
theorem ok_int1 {e : Expr} {c : MP.E} {pp pos : Pos} (hb : Blt G Γ "int") (h : OkE G Γ e c) (he : ∀ env, starEach [e] env = (false, eval e env) :: starEach [] env := by intro _; rfl) : OkE G Γ (.Call (.Name "int" pp) [e] [] pos) (.bInt c) :=
  ok_t1 (id := "") (fun _ _ F => int_ok F) hb rfl h (he := he)
/-! ### all, any, sum -/
theorem bools_of {ρ : Rho} {vs : List MP.Val} {us : List V} {l : List Bool} (r : VRs G ρ H vs us) (h : MP.bools vs = some l) : us = l.map V.bl := by
  induction vs generalizing us l with
  | nil => cases h; exact r.nil_of
  | cons v vs ih =>
    obtain ⟨x, us', rfl, r1, r2⟩ := r.cons_of
    cases v with
    | bool b =>
      have h : (match MP.bools vs with | some l => some (b :: l) | .none => .none) = some l := h
      cases e : MP.bools vs with
      | none => rw [e] at h; cases h
      | some l' => rw [e] at h; cases h; cases r1; rw [ih r2 e]; rfl
    | _ => cases h
theorem ints_of {ρ : Rho} {vs : List MP.Val} {us : List V} {l : List Int} (r : VRs G ρ H vs us) (h : MP.nums vs = some l) : us = l.map V.int := by
  induction vs generalizing us l with
  | nil => cases h; exact r.nil_of
  | cons v vs ih =>
    obtain ⟨x, us', rfl, r1, r2⟩ := r.cons_of
    cases v with
    | int b =>
      have h : (match MP.nums vs with | some l => some (b :: l) | .none => .none) = some l := h
      cases e : MP.nums vs with
      | none => rw [e] at h; cases h
      | some l' => rw [e] at h; cases h; cases r1; rw [ih r2 e]; rfl
    | _ => cases h
theorem strs_of {ρ : Rho} {vs : List MP.Val} {us : List V} {l : List (List Nat)} (r : VRs G ρ H vs us) (h : MP.txts vs = some l) : us = l.map (fun s => V.str ⟨s.toArray⟩) ∧ ∀ s ∈ l, ∀ c ∈ s, c < 128 := by
  induction vs generalizing us l with
  | nil => cases h; exact ⟨r.nil_of, fun s hs => by cases hs⟩
  | cons v vs ih =>
    obtain ⟨x, us', rfl, r1, r2⟩ := r.cons_of
    cases v with
    | str b =>
      have h : (match MP.txts vs with | some l => some (b :: l) | .none => .none) = some l := h
      cases e : MP.txts vs with
      | none => rw [e] at h; cases h
      | some l' =>
        rw [e] at h; cases h
        obtain ⟨rfl, hb⟩ := r1
        obtain ⟨rfl, ha⟩ := ih r2 e
        refine ⟨rfl, fun s hs => ?_⟩
        rcases List.mem_cons.mp hs with rfl | hs
        · exact hb
        · exact ha s hs
    | _ => cases h
theorem allB_eq : ∀ l : List Bool, MP.allB l = l.all id
  | [] => rfl
  | true :: r => by show MP.allB r = _; rw [allB_eq r]; rfl
  | false :: r => rfl
theorem anyB_eq : ∀ l : List Bool, MP.anyB l = l.any id
  | [] => rfl
  | true :: r => rfl
  | false :: r => by show MP.anyB r = _; rw [anyB_eq r]; rfl
theorem lstV_of {ρ : Rho} {m : MP.M} {v : MP.Val} {x : V} {vs : List MP.Val} (hr : HR G ρ m H) (vr : VR G ρ H v x) (hv : MP.lstV m v = some vs) : ∃ a us, x = .ref a ∧ VRs G ρ H vs us ∧ SqL G.K H a us := by
  cases v with
  | ref k =>
    unfold VR at vr
    obtain ⟨a, rfl, hk⟩ := vr
    obtain ⟨us, q, r⟩ := lstAt_of hr hv hk
    exact ⟨a, us, rfl, r, q⟩
  | _ => cases hv
theorem all_ok {X : Cx} (F : Fit G Γ W X) : CallR X (.builtin "all") (rC1 G W fun v m => MP.opt 63 (MP.lstV m v) fun xs => MP.opt 63 (MP.bools xs) fun l => .ok (.bool (MP.allB l)) m) := by
  intro pins s σ H xs us Q I rs hh
  obtain ⟨ρ, v, x, m, rfl, hr, vr, p⟩ := hh
  obtain ⟨vs, e, p⟩ := opt_of p
  obtain ⟨l, e2, p⟩ := opt_of p
  obtain ⟨a, us', rfl, r, q⟩ := lstV_of hr vr e
  have := bools_of r e2
  subst this
  refine cr_all F.calm pins s σ H _ us Q I rs ⟨a, l, rfl, by rw [F.hK]; exact q, ?_⟩
  rw [← allB_eq]
  exact Post.done (x := V.bl (MP.allB l)) p hr rfl
theorem any_ok {X : Cx} (F : Fit G Γ W X) : CallR X (.builtin "any") (rC1 G W fun v m => MP.opt 62 (MP.lstV m v) fun xs => MP.opt 62 (MP.bools xs) fun l => .ok (.bool (MP.anyB l)) m) := by
  intro pins s σ H xs us Q I rs hh
  obtain ⟨ρ, v, x, m, rfl, hr, vr, p⟩ := hh
  obtain ⟨vs, e, p⟩ := opt_of p
  obtain ⟨l, e2, p⟩ := opt_of p
  obtain ⟨a, us', rfl, r, q⟩ := lstV_of hr vr e
  have := bools_of r e2
  subst this
  refine cr_any F.calm pins s σ H _ us Q I rs ⟨a, l, rfl, by rw [F.hK]; exact q, ?_⟩
  rw [← anyB_eq]
  exact Post.done (x := V.bl (MP.anyB l)) p hr rfl
theorem sum_ok {X : Cx} (F : Fit G Γ W X) : CallR X (.builtin "sum") (rC1 G W fun v m => MP.opt 59 (MP.lstV m v) fun xs => MP.opt 59 (MP.nums xs) fun l => .ok (.int (MP.sumI l)) m) := by
  intro pins s σ H xs us Q I rs hh
  obtain ⟨ρ, v, x, m, rfl, hr, vr, p⟩ := hh
  obtain ⟨vs, e, p⟩ := opt_of p
  obtain ⟨l, e2, p⟩ := opt_of p
  obtain ⟨a, us', rfl, r, q⟩ := lstV_of hr vr e
  have := ints_of r e2
  subst this
  refine cr_sum F.calm pins s σ H _ us Q I rs ⟨a, l, rfl, by rw [F.hK]; exact q, ?_⟩
  have e3 : l.sum = MP.sumI l := by
    clear p q r rs e2
    induction l with
    | nil => rfl
    | cons a l ih =>
      rw [List.sum_cons, ih]
      rfl
  rw [e3]
  exact Post.done (x := V.int (MP.sumI l)) p hr rfl
theorem ok_all {e : Expr} {c : MP.E} {pp pos : Pos} (hb : Blt G Γ "all") (h : OkE G Γ e c) (he : ∀ env, starEach [e] env = (false, eval e env) :: starEach [] env := by intro _; rfl) : OkE G Γ (.Call (.Name "all" pp) [e] [] pos) (.bAll c) :=
  ok_b1 (id := "") (fun _ _ F => all_ok F) hb rfl h (he := he)
theorem ok_any {e : Expr} {c : MP.E} {pp pos : Pos} (hb : Blt G Γ "any") (h : OkE G Γ e c) (he : ∀ env, starEach [e] env = (false, eval e env) :: starEach [] env := by intro _; rfl) : OkE G Γ (.Call (.Name "any" pp) [e] [] pos) (.bAny c) :=
  ok_b1 (id := "") (fun _ _ F => any_ok F) hb rfl h (he := he)
theorem ok_sum {e : Expr} {c : MP.E} {pp pos : Pos} (hb : Blt G Γ "sum") (h : OkE G Γ e c) (he : ∀ env, starEach [e] env = (false, eval e env) :: starEach [] env := by intro _; rfl) : OkE G Γ (.Call (.Name "sum" pp) [e] [] pos) (.bSum c) :=
  ok_b1 (id := "") (fun _ _ F => sum_ok F) hb rfl h (he := he)
end
end Snd
set_option Elab.async false
set_option linter.all false
set_option maxRecDepth 100000
set_option maxHeartbeats 4000000
/-! Snd13: isinstance. -/
namespace Snd
open PySem PySem.Spec PyProof.Rows L2
def tyS : MP.TyN → String
  | .none => "NoneType"
  | .bool => "bool"
  | .int => "int"
  | .str => "str"
  | .tup => "tuple"
  | .lst => "list"
  | .dct => "dict"
  | .byt => "bytes"
def tyT : MP.Ty → Option String
  | .int => some "int"
  | .str => some "str"
  | .bool => some "bool"
  | .tup => some "tuple"
  | .lst => some "list"
  | .byt => some "bytes"
  | .dct => some "dict"
  | _ => none
theorem kit_is : ∀ (n : MP.TyN) (t : MP.Ty) (T : String), tyT t = some T → L2.kitB (tyS n) T = some (n.is t) := by
  intro n t T h
  cases t <;> first
    | (cases h; done)
    | (obtain rfl : _ = T := by injection h
       cases n <;> decide +kernel)
section
variable {G : Gp} {Γ : Cn} {W : XPost} {σ : L2.St} {H : Hp} {f : MP.Cx}
theorem ty_of {ρ : Rho} {m : MP.M} {v : MP.Val} {x : V} {n : MP.TyN} (hr : HR G ρ m H) (vr : VR G ρ H v x) (h : MP.tyN m v = some n) : TyX G.K H x (.type (tyS n)) := by
  cases v with
  | none => cases h; cases vr; exact .base .non
  | bool b => cases h; cases vr; exact .base (.bl b)
  | int i => cases h; cases vr; exact .base (.int i)
  | str s => cases h; obtain ⟨rfl, _⟩ := vr; exact .base (.str _)
  | tup vs =>
    cases h
    unfold VR at vr
    obtain ⟨a, us, rfl, q, _⟩ := vr
    rcases q with q | q
    · rcases q with q | ⟨o, q⟩
      · exact .base (.tup q)
      · exact .fTuple q
    · obtain ⟨o, its, n, hk, hc, _⟩ := q
      exact .kTuple hk hc
  | ref k =>
    unfold VR at vr
    obtain ⟨a, rfl, hk⟩ := vr
    have h : (match MP.lstAt m k with | some _ => some MP.TyN.lst | .none => (match MP.dctAt m k with | some _ => some MP.TyN.dct | .none => none)) = some n := h
    cases e : MP.lstAt m k with
    | some vs =>
      rw [e] at h
      cases h
      obtain ⟨us, q, _⟩ := lstAt_of hr e hk
      rcases q with q | q
      · rcases q with q | ⟨o, q⟩
        · exact .base (.lst q)
        · exact .base (.frz q)
      · obtain ⟨o, its, n, hk, hc, _⟩ := q
        exact .kList hk hc
    | none =>
      rw [e] at h
      cases e2 : MP.dctAt m k with
      | none => rw [e2] at h; cases h
      | some kvs =>
        rw [e2] at h
        cases h
        obtain ⟨us, q, _⟩ := dctAt_of hr e2 hk
        exact .base (.dK q)
  | byt s => exact (show False from vr).elim
  | _ => cases h
/-- where an instance's class stands: what isinstance asks -/
def Insts (G : Gp) : Prop := ∀ (c : Nat) (C : Addr), G.ca c = some C → True
theorem isi_ok {X : Cx} (F : Fit G Γ W X) {t : MP.Ty} {T : String} (ht : tyT t = some T) : CallR X (.builtin "isinstance") (fun xs H Q => ∃ ρ v x m, xs = [x, .ty T] ∧ HR G ρ m H ∧ VR G ρ H v x ∧ (MP.tyN m v).isSome = true ∧ Post G (VR G) W ρ H Q (MP.opt 47 (MP.isBlt m v t) fun b => .ok (.bool b) m)) := by
  intro pins s σ H xs us Q I rs hh
  obtain ⟨ρ, v, x, m, rfl, hr, vr, hs, p⟩ := hh
  cases e : MP.tyN m v with
  | none => rw [e] at hs; cases hs
  | some n =>
    have e2 : MP.isBlt m v t = some (n.is t) := by unfold MP.isBlt; rw [e]
    rw [e2] at p
    refine call_isi pins s σ H _ us Q I rs ⟨x, .ty T, .type (tyS n), .type T, n.is t, rfl, .ty T, by rw [F.hK]; exact ty_of hr vr e, kit_ty (kit_is n t T ht), ?_⟩
    exact Post.done (x := V.bl (n.is t)) p hr rfl
theorem hasTys1 {p : MP.Tree MP.Cls} {m : MP.M} {v : MP.Val} {t : MP.Ty} {T : String} (ht : tyT t = some T) : MP.hasTys p m v [t] = MP.isBlt m v t := by
  have e : MP.hasTy p m v t = MP.isBlt m v t := by cases t <;> first | rfl | cases ht
  show (match MP.hasTy p m v t with | some b => (match b with | true => some true | false => MP.hasTys p m v []) | none => none) = _
  rw [e]
  cases MP.isBlt m v t with
  | none => rfl
  | some b => cases b <;> rfl
theorem ok_isi1 {e : Expr} {c : MP.E} {T : String} {y : Str} {t : MP.Ty} {pp p2 pos : Pos} (hb : Blt G Γ "isinstance") (hy : Blt G Γ y) (ht : tyT t = some T) (h : OkE G Γ e c) (hv : bootBuiltins y = some (.type T) := by rfl) (hn : y ≠ "__name__" := by decide) (hd : (y == ("__debug__" : Str)) = false := by decide)
    (he : ∀ env, starEach [e, .Name y p2] env = (false, eval e env) :: starEach [.Name y p2] env := by intro _; rfl) (he2 : ∀ env, starEach [.Name y p2] env = (false, eval (.Name y p2) env) :: starEach [] env := by intro _; rfl) (hpl : ∀ env, (backTo pos (starEach [.Name y p2] env)).any (·.1) = false := by intro _; rfl) :
    OkE G Γ (.Call (.Name "isinstance" pp) [e, .Name y p2] [] pos) (.isi c [t]) := fun W X F => by
  refine PE.weak (pe_callB (isi_ok F ht) (hb.gl F) (hb.no F) rfl (pa_cons (h W X F) (pa_cons (pe_bltn (v := .ty T) (hy.gl F) (hy.no F) hv rfl hn hd) pa_nil (he2 X.env)) (he X.env)) (by decide) (by decide) (he X.env) (hpl X.env)) fun σ H Q ⟨ρ, σm, m, sr, hr, p⟩ => ?_
  refine step sr hr p fun ρ1 v m1 x H1 sr1 hr1 vr _ p1 => ?_
  rw [hasTys1 ht] at p1
  refine ⟨ρ1, v, x, m1, rfl, hr1, vr, ?_, p1⟩
  cases e : MP.tyN m1 v with
  | some n => rfl
  | none =>
    have : MP.isBlt m1 v t = none := by unfold MP.isBlt; rw [e]
    rw [this] at p1
    exact p1.elim
/-! ### unary minus -/
theorem ok_neg {a : Expr} {ca : MP.E} {pos : Pos} (ha : OkE G Γ a ca) : OkE G Γ (.UnaryOp .USub a pos) (.neg ca) := fun W X F => by
  refine PE.weak (pe_un un_neg (ha W X F)) fun σ H Q ⟨ρ, σm, m, sr, hr, p⟩ => ?_
  refine step sr hr p fun ρ1 v m1 x H1 sr1 hr1 vr _ p1 => ?_
  cases v with
  | int i => cases vr; exact ⟨i, rfl, Post.done (x := V.int (-i)) p1 hr1 rfl⟩
  | _ => exact False.elim p1
end
end Snd
set_option Elab.async false
set_option linter.all false
set_option maxRecDepth 100000
set_option maxHeartbeats 4000000
/-! Snd14: attributes, methods, classes. -/
namespace Snd
open PySem PySem.Spec PyProof.Rows L2
section
variable {G : Gp} {Γ : Cn} {W : XPost} {σ : L2.St} {H : Hp} {f : MP.Cx}
theorem FR.get {ρ : Rho} {fl : Nat} : ∀ {fs : List (Nat × MP.Val)} {us : List (Str × V)}, FR G ρ H fs us → OptR G ρ H (MP.fldGet fl fs) (us.lookup (G.nm fl))
  | [], us, r => by have r : us = [] := r; subst r; exact trivial
  | (g, v) :: fs, us, r => by
    obtain ⟨x, us', rfl, r1, r2⟩ := r
    show OptR G ρ H (match Nat.beq g fl with | true => some v | false => MP.fldGet fl fs) _
    rw [List.lookup_cons]
    cases e : Nat.beq g fl with
    | true =>
      have := Nat.eq_of_beq_eq_true e
      subst this
      simp only [beq_self_eq_true]
      exact r1
    | false =>
      have h : g ≠ fl := Nat.ne_of_beq_eq_false e
      have h2 : (G.nm fl == G.nm g) = false := by
        rw [beq_eq_false_iff_ne]
        intro z
        exact h (G.nmi _ _ z.symm)
      simp only [h2]
      exact FR.get r2
theorem FR.put {ρ : Rho} {fl : Nat} {v : MP.Val} {x : V} (rv : VR G ρ H v x) : ∀ {fs : List (Nat × MP.Val)} {us : List (Str × V)}, FR G ρ H fs us → FR G ρ H (MP.fldPut fl v fs) (putF (G.nm fl) x us)
  | [], us, r => by have r : us = [] := r; subst r; exact ⟨x, [], rfl, rv, rfl⟩
  | (g, w) :: fs, us, r => by
    obtain ⟨y, us', rfl, r1, r2⟩ := r
    show FR G ρ H (match Nat.beq g fl with | true => (g, v) :: fs | false => (g, w) :: MP.fldPut fl v fs) (if G.nm g = G.nm fl then (G.nm g, x) :: us' else (G.nm g, y) :: putF (G.nm fl) x us')
    cases e : Nat.beq g fl with
    | true =>
      have := Nat.eq_of_beq_eq_true e
      subst this
      rw [if_pos rfl]
      exact ⟨x, us', rfl, rv, r2⟩
    | false =>
      have h : g ≠ fl := Nat.ne_of_beq_eq_false e
      rw [if_neg fun z => h (G.nmi _ _ z)]
      exact ⟨y, _, rfl, r1, FR.put rv r2⟩
theorem FR.length {ρ : Rho} : ∀ {fs : List (Nat × MP.Val)} {us : List (Str × V)}, FR G ρ H fs us → us.length = fs.length
  | [], us, r => by have r : us = [] := r; subst r; rfl
  | (g, v) :: fs, us, r => by obtain ⟨x, us', rfl, r1, r2⟩ := r; simp [FR.length r2]
theorem fldPut_mem {fl : Nat} {v : MP.Val} : ∀ {fs : List (Nat × MP.Val)} {q : Nat × MP.Val}, q ∈ MP.fldPut fl v fs → q.1 = fl ∨ ∃ q' ∈ fs, q'.1 = q.1
  | [], q, h => by
    have h : q ∈ [(fl, v)] := h
    rw [List.mem_singleton] at h
    subst h
    exact .inl rfl
  | (g, w) :: fs, q, h => by
    have h : q ∈ (match Nat.beq g fl with | true => (g, v) :: fs | false => (g, w) :: MP.fldPut fl v fs) := h
    cases e : Nat.beq g fl with
    | true =>
      rw [e] at h
      rcases List.mem_cons.mp h with rfl | h
      · exact .inr ⟨(g, w), List.mem_cons_self, rfl⟩
      · exact .inr ⟨q, List.mem_cons_of_mem _ h, rfl⟩
    | false =>
      rw [e] at h
      rcases List.mem_cons.mp h with rfl | h
      · exact .inr ⟨(g, w), List.mem_cons_self, rfl⟩
      · rcases fldPut_mem h with z | ⟨q', h1, h2⟩
        · exact .inl z
        · exact .inr ⟨q', List.mem_cons_of_mem _ h1, h2⟩
/-- an object of a class -/
theorem ins_of {ρ : Rho} {m : MP.M} {k c : Nat} {fs : List (Nat × MP.Val)} {x : V} (hr : HR G ρ m H) (e : m.t.get k = some (.ins c fs)) (vr : VR G ρ H (.ref k) x) : ∃ a C dx us, x = .ref a ∧ ρ k = some a ∧ G.ca c = some C ∧ H a = some (.ins C dx us) ∧ FR G ρ H fs us ∧ Cls G.K C ∧ ∀ q ∈ fs, NoAttr G.K C (G.nm q.1) := by
  unfold VR at vr
  obtain ⟨a, rfl, hk | hk⟩ := vr
  · obtain ⟨o, e1, r⟩ := hr.ro k a hk
    rw [e] at e1; cases e1
    exact r.elim
  · obtain ⟨C, dx, us, h1, h2, h3, h4, h5⟩ := hr.obj k _ a e hk
    exact ⟨a, C, dx, us, rfl, hk, h1, h2, h3, h4, h5⟩
theorem fldGet_mem {fl : Nat} {v : MP.Val} : ∀ {fs : List (Nat × MP.Val)}, MP.fldGet fl fs = some v → ∃ q ∈ fs, q.1 = fl
  | [], h => by cases h
  | (g, w) :: fs, h => by
    have h : (match Nat.beq g fl with | true => some w | false => MP.fldGet fl fs) = some v := h
    cases e : Nat.beq g fl with
    | true => exact ⟨(g, w), List.mem_cons_self, Nat.eq_of_beq_eq_true e⟩
    | false =>
      rw [e] at h
      obtain ⟨q, h1, h2⟩ := fldGet_mem h
      exact ⟨q, List.mem_cons_of_mem _ h1, h2⟩
theorem attI_of {ρ : Rho} {m : MP.M} {k fl : Nat} {x : V} {γ δ : Type} {Rl : Rho → Hp → γ → δ → Prop} {Q : δ → Hp → Prop} {kk : MP.Val → MP.M → MP.R γ} (hr : HR G ρ m H) (vr : VR G ρ H (.ref k) x) (p : Post G Rl W ρ H Q ((MP.E.attI m k fl).bind kk)) :
    ∃ a C dx us v y, x = .ref a ∧ H a = some (.ins C dx us) ∧ Cls G.K C ∧ NoAttr G.K C (G.nm fl) ∧ us.lookup (G.nm fl) = some y ∧ VR G ρ H v y ∧ Post G Rl W ρ H Q (kk v m) := by
  unfold MP.E.attI at p
  cases e : m.t.get k with
  | none => rw [e] at p; exact p.elim
  | some o =>
    rw [e] at p
    cases o with
    | ins c fs =>
      obtain ⟨a, C, dx, us, rfl, hk, h1, h2, h3, h4, h5⟩ := ins_of hr e vr
      cases e2 : MP.fldGet fl fs with
      | none =>
        have p : Post G Rl W ρ H Q ((MP.opt 43 (MP.fldGet fl fs) fun w => .ok w m).bind kk) := p
        rw [e2] at p
        exact p.elim
      | some v =>
        have p : Post G Rl W ρ H Q ((MP.opt 43 (MP.fldGet fl fs) fun w => .ok w m).bind kk) := p
        rw [e2] at p
        have z := h3.get (fl := fl)
        rw [e2] at z
        obtain ⟨q, hq, hq2⟩ := fldGet_mem e2
        cases e3 : us.lookup (G.nm fl) with
        | none => rw [e3] at z; exact z.elim
        | some y =>
          rw [e3] at z
          refine ⟨a, C, dx, us, v, y, rfl, h2, h4, ?_, e3, z, p⟩
          rw [← hq2]
          exact h5 q hq
    | _ => exact p.elim
theorem ok_att {e : Expr} {x : Str} {fl : Nat} {c : MP.E} {pos : Pos} (he : OkE G Γ e c) (hx : G.nm fl = x) (hb : ∀ env, attributeBase e x env (eval e env) = eval e env := by intro _; rfl) : OkE G Γ (.Attribute e x pos) (.att c fl) := fun W X F => by
  refine PE.weak (pe_fld (he W X F) (hb X.env)) fun σ H Q ⟨ρ, σm, m, sr, hr, p⟩ => ?_
  refine step sr hr p fun ρ1 v m1 x1 H1 sr1 hr1 vr _ p1 => ?_
  cases v with
  | ref k =>
    have e0 : MP.E.attI m1 k fl = (MP.E.attI m1 k fl).bind fun v m => .ok v m := by cases MP.E.attI m1 k fl <;> rfl
    have p1 : Post G (VR G) W ρ1 H1 Q (MP.E.attI m1 k fl) := p1
    rw [e0] at p1
    obtain ⟨a, C, dx, us, v, y, rfl, h2, h4, h5, h6, h7, p1⟩ := attI_of hr1 vr p1
    subst hx
    exact ⟨a, C, dx, us, y, rfl, h2, by rw [F.hK]; exact h4, by rw [F.hK]; exact h5, h6, p1.done hr1 h7⟩
  | exn c ws => exact (show False from vr).elim
  | _ => exact False.elim p1
/-- what is known of the classes -/
structure ClsF (G : Gp) (p : MP.Tree MP.Cls) : Prop where
  fld : ∀ c C fl, G.ca c = some C → MP.Tg.hasF p c fl = true → NoAttr G.K C (G.nm fl)
  meth : ∀ c C n g, G.ca c = some C → MP.methC p c n = some g → ∃ fa fd ps, G.fn g = some (fa, fd, ps) ∧ Meth G.K C (G.nm n) fa ∧ Binds G.K fd ps []
  inst : ∀ c k i, p.get c = some k → k.kind = .inst → k.init = some i → ∃ C fa fd ps, G.ca c = some C ∧ Cls G.K C ∧ G.fn i = some (fa, fd, ps) ∧ Mk G.K C fa ∧ Binds G.K fd ps []
theorem attP_of {ρ : Rho} {p : MP.Tree MP.Cls} {m : MP.M} {k fl : Nat} {v : MP.Val} {x y : V} {σm : List MP.Val} {Q : L2.St → Hp → Prop} (CF : ClsF G p) (hr : HR G ρ m H) (sr : SR G W ρ H σm σ) (vr : VR G ρ H (.ref k) x) (rv : VR G ρ H v y)
    (pp : Post G (SR G W) W ρ H Q (MP.Tg.attP p m k fl v σm)) : ∃ a C dx us, x = .ref a ∧ H a = some (.ins C dx us) ∧ Cls G.K C ∧ NoAttr G.K C (G.nm fl) ∧ us.length < 1000 ∧ Q σ (upd H a (.ins C dx (putF (G.nm fl) y us))) := by
  unfold MP.Tg.attP at pp
  cases e : m.t.get k with
  | none => rw [e] at pp; exact pp.elim
  | some o =>
    rw [e] at pp
    cases o with
    | ins c fs =>
      obtain ⟨a, C, dx, us, rfl, hk, h1, h2, h3, h4, h5⟩ := ins_of hr e vr
      have pp : Post G (SR G W) W ρ H Q (match MP.Tg.hasF p c fl && Nat.blt fs.length 900 with | true => .ok σm (MP.putObj m k (.ins c (MP.fldPut fl v fs))) | false => .bad 94) := pp
      cases e2 : MP.Tg.hasF p c fl && Nat.blt fs.length 900 with
      | false => rw [e2] at pp; exact pp.elim
      | true =>
        rw [e2] at pp
        have e3 := Bool.and_eq_true_iff.mp e2
        have hl : fs.length < 900 := Nat.le_of_ble_eq_true e3.2
        have na := CF.fld c C fl h1 e3.1
        have kp : Keep G.K H (upd H a (.ins C dx (putF (G.nm fl) y us))) := Keep.write h2 trivial
        obtain ⟨hr2, ex⟩ := hr.put (ob' := .ins c (MP.fldPut fl v fs)) (o := .ins C dx (putF (G.nm fl) y us)) hk ⟨C, dx, _, h1, upd_same, (FR.put rv h3).mono Le.refl kp, h4, fun q hq => by
          rcases fldPut_mem hq with z | ⟨q', z1, z2⟩
          · rw [z]; exact na
          · rw [← z2]; exact h5 q' z1⟩
        exact ⟨a, C, dx, us, rfl, h2, h4, na, by rw [h3.length]; omega, pp ρ _ σ ex hr2 (sr.ext ex)⟩
    | _ => exact pp.elim
/-- o.f = e -/
theorem okS_att {o e : Expr} {x : Str} {fl : Nat} {co c : MP.E} {pos' pos : Pos} (CF : ClsF G Γ.f.p) (ho : OkE G Γ o co) (he : OkE G Γ e c) (hx : G.nm fl = x) (hs : ∀ env, swapsWith e (some (.Attribute o x pos')) pos.line env = pure false := by intro _; rfl) : OkS G Γ (.Assign [.Attribute o x pos'] e pos) (.asg (.att co fl) c) := fun W X F => by
  refine PS.weak (ps_fld (ho W X F) (he W X F) (hs X.env)) fun D σ H ⟨ρ, σm, m, sr, hr, p⟩ => ?_
  refine step sr hr p fun ρ1 v m1 y H1 sr1 hr1 vr _ p1 => ?_
  have e0 : ∀ (σm : List MP.Val) (m : MP.M) (v : MP.Val), (MP.Tg.att co fl Γ.f v σm m).bind (fun σ m => MP.R.ok (MP.Fl.next σ) m) = (co Γ.f σm m).bind fun w m => (match w with | .ref a => MP.Tg.attP Γ.f.p m a fl v σm | _ => .bad 95).bind fun σ m => .ok (.next σ) m := fun σm m v => by
    show ((co Γ.f σm m).bind fun w m => match w with | .ref a => MP.Tg.attP Γ.f.p m a fl v σm | _ => .bad 95).bind _ = _
    cases co Γ.f σm m <;> rfl
  rw [e0] at p1
  refine step sr1 hr1 p1 fun ρ2 w m2 z H2 sr2 hr2 wr ex p2 => ?_
  cases w with
  | ref k =>
    have p2 : Post G (FlR G W) W ρ2 H2 (ends D) ((MP.Tg.attP Γ.f.p m2 k fl v σm).bind fun σ m => .ok (.next σ) m) := p2
    obtain ⟨a, C, dx, us, rfl, h2, h4, na, hl, ρ3, σm', m3, _, ex3, hr3, sr3, q⟩ := attP_of (W := W) CF hr2 sr2 wr (vr.ext ex) (Post.bind (Rl := SR G W) p2)
    subst hx
    refine ⟨a, C, dx, us, rfl, h2, by rw [F.hK]; exact h4, by rw [F.hK]; exact na, hl, ?_⟩
    exact (show ends D (FV.nx σ) _ from Post.done (Rl := FlR G W) q hr3 sr3)
  | _ => exact False.elim p2
/-! ### a op= e -/
theorem in_op {X : Cx} (F : Fit G Γ W X) {op : MP.Bin} {o : Operator} (ho : (op = .add ∧ o = .Add) ∨ (op = .sub ∧ o = .Sub)) : InOp X o (rB G W (MP.augOp op)) := by
  intro pins s σ H x y u v Q I rx ry h
  obtain ⟨ρ, a, b, m, hr, ar, br, p⟩ := h
  rcases ho with ⟨rfl, rfl⟩ | ⟨rfl, rfl⟩
  · cases a with
    | int i =>
      cases b with
      | int j => cases ar; cases br; exact in_add pins s σ H _ _ u v Q I rx ry ⟨i, j, rfl, rfl, Post.done (x := V.int (i + j)) p hr rfl⟩
      | _ => exact False.elim p
    | str s1 =>
      cases b with
      | str t =>
        obtain ⟨rfl, ha⟩ := ar
        obtain ⟨rfl, hb⟩ := br
        obtain ⟨hl, p⟩ := fits_of (xs := s1 ++ t) p
        refine in_addS pins s σ H _ _ u v Q I rx ry ⟨_, _, rfl, rfl, ?_, ?_⟩
        · rw [List.length_append] at hl
          simpa [Str.length] using hl
        · rw [str_app]
          exact Post.done (x := V.str ⟨(s1 ++ t).toArray⟩) p hr ⟨rfl, fun c hc => (List.mem_append.mp hc).elim (ha c) (hb c)⟩
      | _ => exact False.elim p
    | _ => exact False.elim p
  · obtain ⟨i, j, rfl, rfl, p⟩ := int2_of ar br p
    exact in_sub pins s σ H _ _ u v Q I rx ry ⟨i, j, rfl, rfl, Post.done (x := V.int (i - j)) p hr rfl⟩
/-- o.f op= e, the class told again at the end -/
def sAugA (K : PySem.W.Frag) (ta tv : TE) (rd : V → V → Hp → VK → Prop) (f : Str) : TS := fun D σ H => ta σ H fun x H1 => ∃ a C dx fs v, x = .ref a ∧ H1 a = some (.ins C dx fs) ∧ Cls K C ∧ NoAttr K C f ∧ fs.lookup f = some v ∧
  tv σ H1 fun y H2 => rd v y H2 fun z H3 => ∃ C' dx' fs', H3 a = some (.ins C' dx' fs') ∧ Cls K C' ∧ NoAttr K C' f ∧ fs'.length < 1000 ∧ D.nx σ (upd H3 a (.ins C' dx' (putF f z fs')))
theorem ps_augA {X : Cx} {o value : Expr} {f : Str} {pos tpos : Pos} {ta tv : TE} {op : Operator} {rd : V → V → Hp → VK → Prop} (ha : PE X o ta) (hv : PE X value tv) (hop : InOp X op rd) : PS X (.AugAssign (.Attribute o f tpos) op value pos) (sAugA X.K ta tv rd f) := by
  refine ⟨fun pins s σ H D I h => ?_⟩
  refine wpAny_AugAssign_AttributeAny (thn (ha.run pins s σ H _ I h) fun ov s1 ⟨x, H1, I1, rx, a, C, dx, fs, v, ex, ea, c, n, l, q⟩ => ?_)
  subst ex
  cases (show ov = Value.ref a from rx)
  refine getattr_ok I1 ea c n l fun u s2 I2 ru => thn (hv.run pins s2 σ H1 _ I2 q) fun w3 s3 ⟨y, H2, I3, ry, q3⟩ => thn (hop pins s3 σ H2 v y u w3 _ I3 ru ry q3) fun w4 s4 ⟨z, H3, I4, rz, C', dx', fs', ea', c', n', l', q4⟩ => ?_
  exact setattr_ok I4 ea' c' n' l' rz fun s5 I5 => ⟨σ, _, I5, q4⟩
theorem okS_augAtt {o e : Expr} {x : Str} {fl : Nat} {co c : MP.E} {op : MP.Bin} {oo : Operator} {pos' pos : Pos} (CF : ClsF G Γ.f.p) (hop : (op = .add ∧ oo = .Add) ∨ (op = .sub ∧ oo = .Sub)) (ho : OkE G Γ o co) (he : OkE G Γ e c) (hx : G.nm fl = x) : OkS G Γ (.AugAssign (.Attribute o x pos') oo e pos) (.augAtt co fl op c) := fun W X F => by
  refine PS.weak (ps_augA (ho W X F) (he W X F) (in_op F hop)) fun D σ H ⟨ρ, σm, m, sr, hr, p⟩ => ?_
  refine step sr hr p fun ρ1 v m1 y H1 sr1 hr1 vr _ p1 => ?_
  cases v with
  | ref k =>
    have p1 : Post G (FlR G W) W ρ1 H1 (ends D) ((MP.E.attI m1 k fl).bind fun x m => (c Γ.f σm m).bind fun y m => (MP.augOp op x y m).bind fun z m => (MP.Tg.attP Γ.f.p m k fl z σm).bind fun σ m => .ok (.next σ) m) := p1
    obtain ⟨a, C, dx, us, v, y, rfl, h2, h4, h5, h6, h7, p1⟩ := attI_of hr1 vr p1
    subst hx
    refine ⟨a, C, dx, us, y, rfl, h2, by rw [F.hK]; exact h4, by rw [F.hK]; exact h5, h6, ?_⟩
    refine step sr1 hr1 p1 fun ρ2 w m2 z H2 sr2 hr2 wr ex p2 => ?_
    refine ⟨ρ2, v, w, m2, hr2, h7.ext ex, wr, (Post.bind (Rl := VR G) p2).mono fun zz H3 ⟨ρ3, w3, m3, _, ex3, hr3, r3, p3⟩ => ?_⟩
    obtain ⟨a', C', dx', us', e', h2', h4', na', hl', ρ4, σm', m4, _, ex4, hr4, sr4, q⟩ := attP_of (W := W) CF hr3 (sr2.ext ex3) ((vr.ext ex).ext ex3) r3 (Post.bind (Rl := SR G W) p3)
    cases e'
    exact ⟨C', dx', us', h2', by rw [F.hK]; exact h4', by rw [F.hK]; exact na', hl', (show ends D (FV.nx σ) _ from Post.done (Rl := FlR G W) q hr4 sr4)⟩
  | _ => exact False.elim p1
/-! ### methods of own classes -/
theorem meth_of {ρ : Rho} {m : MP.M} {v : MP.Val} {x : V} {n i : Nat} (CF : ClsF G Γ.f.p) (hr : HR G ρ m H) (vr : VR G ρ H v x) (h : MP.methOf Γ.f.p v m n = some i) : ∃ a C dx us fa fd ps, x = .ref a ∧ H a = some (.ins C dx us) ∧ Cls G.K C ∧ us.lookup (G.nm n) = none ∧ G.fn i = some (fa, fd, ps) ∧ Meth G.K C (G.nm n) fa ∧ Binds G.K fd ps [] := by
  cases v with
  | ref k =>
    have h : (match MP.clsOf m k with | some c => MP.methC Γ.f.p c n | .none => .none) = some i := h
    unfold MP.clsOf at h
    cases e : m.t.get k with
    | none => rw [e] at h; cases h
    | some o =>
      rw [e] at h
      cases o with
      | ins c fs =>
        obtain ⟨a, C, dx, us, rfl, hk, h1, h2, h3, h4, h5⟩ := ins_of hr e vr
        obtain ⟨fa, fd, ps, m1, m2, m3⟩ := CF.meth c C n i h1 h
        refine ⟨a, C, dx, us, fa, fd, ps, rfl, h2, h4, ?_, m1, m2, m3⟩
        have z := h3.get (fl := n)
        cases e2 : us.lookup (G.nm n) with
        | none => rfl
        | some y =>
          rw [e2] at z
          cases e3 : MP.fldGet n fs with
          | none => rw [e3] at z; exact z.elim
          | some w =>
            obtain ⟨q, hq, hq2⟩ := fldGet_mem e3
            have := h5 q hq
            rw [hq2] at this
            have z2 := m2.at_
            unfold NoAttr at this
            rw [this] at z2
            cases z2
      | _ => cases h
  | _ => cases h
theorem ok_meth {o e : Expr} {es : List Expr} {x : Str} {n : Nat} {co : MP.E} {cs : List MP.E} {apos pos : Pos} {pl : Env → Sem Bool} (CF : ClsF G Γ.f.p) (ho : OkE G Γ o co) (ha : OkA G Γ (e :: es) cs) (hx : G.nm n = x) (hlen : ∀ i fa fd ps, G.fn i = some (fa, fd, ps) → ∀ vs m, vs.length ≠ ps.length → ∃ k, Γ.f.call i vs m = .bad k)
    (hst : ∀ env, starEach (e :: es) env = (false, eval e env) :: starEach es env := by intro _; rfl) (hpl : ∀ env, (backTo pos (starEach es env)).any (·.1) = false := by intro _; rfl)
    (ht : ∀ env, eval (.Call (.Attribute o x apos) (e :: es) [] pos) env = (do
      let ov ← eval o env
      standAt apos.atName
      let (f, first) ← holding [ov] (getMethod ov x (pl env))
      callWith pos f first (backTo pos (starEach (e :: es) env)) (backToKw pos (keywordEach [] env))) := by intro _; rfl) : OkE G Γ (.Call (.Attribute o x apos) (e :: es) [] pos) (.meth co n cs) := fun W X F => by
  subst hx
  refine ⟨fun pins s σ H Q I ⟨ρ, σm, m, sr, hr, p⟩ => ?_⟩
  have room : RoomD (Γ.d - 1) X.A := F.room.mono (Nat.sub_le _ _)
  have p : Post G (VR G) W ρ H Q ((co Γ.f σm m).bind fun v m => MP.opt 48 (MP.methOf Γ.f.p v m n) fun i => (MP.evL Γ.f cs σm m).bind fun vs m => Γ.f.call i (v :: vs) m) := p
  refine PySem.W.methodCall_KW (pl := pl X.env) (thn ((ho W X F).run pins s σ H _ I (step sr hr p fun ρ1 v m1 x H1 sr1 hr1 vr ex p1 => (show ∃ ρ1 v m1, SR G W ρ1 H1 σm σ ∧ HR G ρ1 m1 H1 ∧ VR G ρ1 H1 v x ∧ Post G (VR G) W ρ1 H1 Q (MP.opt 48 (MP.methOf Γ.f.p v m1 n) fun i => (MP.evL Γ.f cs σm m1).bind fun vs m => Γ.f.call i (v :: vs) m) from ⟨ρ1, v, m1, sr1, hr1, vr, p1⟩))) fun u s1 ⟨x, H1, I1, rx, ρ1, v, m1, sr1, hr1, vr, p1⟩ => ?_) (ht X.env)
  obtain ⟨i, ei, p1⟩ := opt_of p1
  obtain ⟨a, C, dx, us, fa, fd, ps, rfl, h2, h4, h6, m1', m2, m3⟩ := meth_of CF hr1 vr ei
  cases (show u = Value.ref a from rx)
  rw [← F.hK] at h4 m2
  refine getmeth_ok I1 h2 h4 m2 h6 ?_
  refine PySem.W.callWith_K (first := [.ref a]) (h₀ := X.base) I1.ok.mod.kin m2.kp (thn ((ha W X F).run pos pins s1 σ H1 _ I1 ⟨ρ1, σm, m1, sr1, hr1, Post.bind (Rl := VRs G) p1⟩) fun us2 s2 ⟨vs, H2, I2, r, ρ2, ws, m2', _, ex2, hr2, vr2, p2⟩ => ⟨I2.kIn, ?_⟩) (hst X.env) (hpl X.env)
  have hl : (v :: ws).length = ps.length := call_len (hlen i fa fd ps m1') p2
  exact runD (us := .ref a :: us2) (vs := .ref a :: vs) (ws := v :: ws) F room m1' m3 I2 sr1.sg (.cons rfl r) hr2 (by unfold VRs; exact ⟨_, vs, rfl, vr.ext ex2, vr2⟩) hl p2
theorem ok_meth0 {o : Expr} {x : Str} {n : Nat} {co : MP.E} {apos pos : Pos} {pl : Env → Sem Bool} (CF : ClsF G Γ.f.p) (ho : OkE G Γ o co) (hx : G.nm n = x) (hlen : ∀ i fa fd ps, G.fn i = some (fa, fd, ps) → ∀ vs m, vs.length ≠ ps.length → ∃ k, Γ.f.call i vs m = .bad k)
    (ht : ∀ env, eval (.Call (.Attribute o x apos) [] [] pos) env = (do
      let ov ← eval o env
      standAt apos.atName
      let (f, first) ← holding [ov] (getMethod ov x (pl env))
      callWith pos f first (backTo pos (starEach [] env)) (backToKw pos (keywordEach [] env))) := by intro _; rfl) : OkE G Γ (.Call (.Attribute o x apos) [] [] pos) (.meth co n []) := fun W X F => by
  subst hx
  refine ⟨fun pins s σ H Q I ⟨ρ, σm, m, sr, hr, p⟩ => ?_⟩
  have room : RoomD (Γ.d - 1) X.A := F.room.mono (Nat.sub_le _ _)
  have p : Post G (VR G) W ρ H Q ((co Γ.f σm m).bind fun v m => MP.opt 48 (MP.methOf Γ.f.p v m n) fun i => Γ.f.call i [v] m) := p
  refine PySem.W.methodCall_KW (pl := pl X.env) (thn ((ho W X F).run pins s σ H _ I (step sr hr p fun ρ1 v m1 x H1 sr1 hr1 vr ex p1 => (show ∃ ρ1 v m1, SR G W ρ1 H1 σm σ ∧ HR G ρ1 m1 H1 ∧ VR G ρ1 H1 v x ∧ Post G (VR G) W ρ1 H1 Q (MP.opt 48 (MP.methOf Γ.f.p v m1 n) fun i => Γ.f.call i [v] m1) from ⟨ρ1, v, m1, sr1, hr1, vr, p1⟩))) fun u s1 ⟨x, H1, I1, rx, ρ1, v, m1, sr1, hr1, vr, p1⟩ => ?_) (ht X.env)
  obtain ⟨i, ei, p1⟩ := opt_of p1
  obtain ⟨a, C, dx, us, fa, fd, ps, rfl, h2, h4, h6, m1', m2, m3⟩ := meth_of CF hr1 vr ei
  cases (show u = Value.ref a from rx)
  rw [← F.hK] at h4 m2
  refine getmeth_ok I1 h2 h4 m2 h6 ?_
  have hl : [v].length = ps.length := call_len (hlen i fa fd ps m1') p1
  exact PySem.W.callWith_K0 (first := [.ref a]) I1.kIn m2.kp (runD (us := [.ref a]) (vs := [.ref a]) (ws := [v]) F room m1' m3 I1 sr1.sg (.cons rfl .nil) hr1 (by unfold VRs; exact ⟨_, [], rfl, vr, by unfold VRs; rfl⟩) hl p1)
end
end Snd
set_option Elab.async false
set_option linter.all false
set_option maxRecDepth 100000
set_option maxHeartbeats 4000000
/-! Snd15: classes made; methods of lists and dicts; stores by places. -/
namespace Snd
open PySem PySem.Spec PyProof.Rows L2
section
variable {G : Gp} {Γ : Cn} {W : XPost} {σ : L2.St} {H : Hp} {f : MP.Cx}
/-! ### an object is made -/
theorem RoomD.make {d : Nat} {A : Around} (r : RoomD d A) (hd : 0 < d) (C : Addr) (us : List Value) (kw : List (Str × Value)) : RoomD (d - 1) (A.under (.builtin "type.__call__" ⟨.ref C :: us, kw⟩)) :=
  ⟨r.hd, by have := r.dp; rw [make_depth]; omega, by have := r.un; rw [make_units]; omega⟩
theorem make_of {X : Cx} {pins : List (Addr × Obj)} {s : Shared} {Q : VK} {c : Nat} {C : Addr} {us : List Value} {vs : List V} {ρ : Rho} {ws : List MP.Val} {m : MP.M} {k : MP.Cls} {i : Nat} (F : Fit G Γ W X) (hd : 0 < Γ.d) (hca : G.ca c = some C) (hcl : Cls G.K C)
    {fa : Addr} {fd : FuncData} {ps : List Str} (hfn : G.fn i = some (fa, fd, ps)) (M : Mk G.K C fa) (hb : Binds G.K fd ps []) (I : Inv X pins σ H s) (hsg : W.sg σ) (r : Vals vs us) (hm : HR G ρ m H) (hv : VRs G ρ H ws vs) (hl : (MP.Val.ref m.n :: ws).length = ps.length)
    (p : Post G (VR G) W ρ H Q (match Γ.f.call i (.ref m.n :: ws) ⟨m.n + 1, m.t.set (.ins c []) m.n⟩ with | .ok v m' => (match v with | .none => .ok (.ref m.n) m' | _ => .bad 117) | .ex v m' => .ex v m' | .bad n => .bad n)) : wpAny (model X.prog X.w) X.A (call (.ref C) us) (EP X pins σ Q) X.xe s := by
  have h1 : H (s.heap.objs.size + 1) = none := I.hok.fresh (Nat.le_succ _)
  have h0 : H s.heap.objs.size = none := I.hok.fresh (Nat.le_refl _)
  have hne : s.heap.objs.size ≠ s.heap.objs.size + 1 := Nat.ne_of_lt (Nat.lt_succ_self _)
  have I2 := Inv.made (C := C) I
  obtain ⟨hrA, exA⟩ := hm.beside (o := .own (s.heap.objs.size + 1)) h0
  have h1' : upd H s.heap.objs.size (.own (s.heap.objs.size + 1)) (s.heap.objs.size + 1) = none := by rw [upd_ne (Ne.symm hne)]; exact h1
  obtain ⟨hrB, exB⟩ := hrA.alloc (ob := .ins c []) (o := .ins C s.heap.objs.size []) h1' ⟨C, _, [], hca, upd_same, rfl, hcl, fun q hq => by cases hq⟩
  have exAB := exA.trans exB
  have r2 : Vals (V.ref (s.heap.objs.size + 1) :: vs) (Value.ref (s.heap.objs.size + 1) :: us) := .cons rfl r
  have hv2 : VRs G (rhoAt ρ m.n (s.heap.objs.size + 1)) (upd (upd H s.heap.objs.size (.own (s.heap.objs.size + 1))) (s.heap.objs.size + 1) (.ins C s.heap.objs.size [])) (.ref m.n :: ws) (V.ref (s.heap.objs.size + 1) :: vs) := by
    unfold VRs
    exact ⟨_, vs, rfl, by unfold VR; exact ⟨_, rfl, .inr rhoAt_self⟩, hv.ext exAB⟩
  have e0 := (I2.env0.make C us [])
  rw [F.hK, F.hmg] at e0
  have kin := I2.kIn
  rw [F.hK] at kin
  have hus : ((Value.ref (s.heap.objs.size + 1) :: us) ++ ([] : List Value)).length = ps.length := by
    rw [List.append_nil, ← r2.length, hv2.length, hl]
  have hbt := hb _ (Value.ref (s.heap.objs.size + 1) :: us) kin hus
  rw [List.append_nil] at hbt
  have hQ : Post G (VR G) W (rhoAt ρ m.n (s.heap.objs.size + 1)) (upd (upd H s.heap.objs.size (.own (s.heap.objs.size + 1))) (s.heap.objs.size + 1) (.ins C s.heap.objs.size [])) (fun v H2 => v = .non ∧ Q (.ref (s.heap.objs.size + 1)) H2) (Γ.f.call i (.ref m.n :: ws) ⟨m.n + 1, m.t.set (.ins c []) m.n⟩) := by
    cases e : Γ.f.call i (.ref m.n :: ws) ⟨m.n + 1, m.t.set (.ins c []) m.n⟩ with
    | bad n => rw [e] at p; exact p.elim
    | ex v m' =>
      rw [e] at p
      intro ρ' H' ex' hr'
      exact p ρ' H' (exAB.trans ex') hr'
    | ok v m' =>
      rw [e] at p
      intro ρ' H' x ex' hr' rel
      cases v with
      | none =>
        cases rel
        refine ⟨rfl, p ρ' H' (.ref (s.heap.objs.size + 1)) (exAB.trans ex') hr' ?_⟩
        unfold VR
        exact ⟨_, rfl, .inr (ex'.le _ _ rhoAt_self)⟩
      | _ => exact False.elim p
  have kIn := I.kIn
  rw [F.hK] at kIn
  refine wpAny_call (make_map (f := fa) kIn M.makes M.init (beq_iff_eq.mp M.fn) (codeAny_mono (F.calls i fa fd ps hfn _ X.stack _ _ ⟨Value.ref (s.heap.objs.size + 1) :: us, []⟩ (Value.ref (s.heap.objs.size + 1) :: us) _ _ W _ (.ref m.n :: ws) ⟨m.n + 1, m.t.set (.ins c []) m.n⟩ (F.room.make hd C us []) e0 hbt r2 hrB hv2 hl hQ) fun res s' hq' => ?_))
  cases res with
  | error e => exact F.takes _ _ (XE.of_call (W := wx G W) I2 (fun cls d H' h => ⟨hsg, h⟩) hq')
  | ok fl =>
    cases fl with
    | ret u =>
      obtain ⟨v, H', I3, rv, ev, q3⟩ := I2.after hq'
      subst ev
      exact ⟨rv, ⟨V.ref (s.heap.objs.size + 1), H', I3, rfl, q3⟩⟩
    | next => exact False.elim hq'
    | brk => exact False.elim hq'
    | cont => exact False.elim hq'
theorem ok_mk0 {x : Str} {c i : Nat} {C : Addr} {k : MP.Cls} {pp pos : Pos} (CF : ClsF G Γ.f.p) (hp : Γ.f.p.get c = some k) (hk : k.kind = .inst) (hi : k.init = some i) (hca : G.ca c = some C) (hm : G.mg x = some (.ref C)) (hg : Γ.sc.names.lookup x = some .globalImplicit) (hd : 0 < Γ.d)
    (hlen : ∀ i fa fd ps, G.fn i = some (fa, fd, ps) → ∀ vs m, vs.length ≠ ps.length → ∃ k, Γ.f.call i vs m = .bad k) (hdb : (x == ("__debug__" : Str)) = false := by decide) : OkE G Γ (.Call (.Name x pp) [] [] pos) (.mk c []) := fun W X F => by
  refine ⟨fun pins s σ H Q I ⟨ρ, σm, m, sr, hr, p⟩ => ?_⟩
  obtain ⟨C', fa, fd, ps, z1, z2, z3, z4, z5⟩ := CF.inst c k i hp hk hi
  rw [hca] at z1
  cases z1
  have p : Post G (VR G) W ρ H Q (MP.make Γ.f c [] m) := p
  have e0 : MP.make Γ.f c [] m = (match Γ.f.call i [.ref m.n] ⟨m.n + 1, m.t.set (.ins c []) m.n⟩ with | .ok v m' => (match v with | .none => .ok (.ref m.n) m' | _ => .bad 117) | .ex v m' => .ex v m' | .bad n => .bad n) := by
    unfold MP.make
    rw [hp]
    simp only
    rw [hk]
    simp only
    rw [hi]
    try rfl
  rw [e0] at p
  have hl : [MP.Val.ref m.n].length = ps.length := by
    by_cases h : [MP.Val.ref m.n].length = ps.length
    · exact h
    · obtain ⟨n, e⟩ := hlen i fa fd ps z3 [MP.Val.ref m.n] ⟨m.n + 1, m.t.set (.ins c []) m.n⟩ h
      rw [e] at p
      exact p.elim
  refine wpAny_Call_Name_kw (ld_glob I (by show X.env.scope.names.lookup x = _; rw [F.hsc]; exact hg) (by rw [F.hmg]; exact hm) ?_ hdb)
  exact PySem.W.callWith_K0 I.kIn (by rw [F.hK]; exact z4.kp) (make_of (us := []) (vs := []) (ws := []) (k := k) F hd hca z2 z3 z4 z5 I sr.sg .nil hr (by unfold VRs; rfl) hl p)
/-! ### methods of lists -/
theorem lstW_of {ρ : Rho} {m : MP.M} {v : MP.Val} {x : V} {Q : VK} {k : Nat → List MP.Val → MP.R MP.Val} (hr : HR G ρ m H) (vr : VR G ρ H v x) (p : Post G (VR G) W ρ H Q (MP.lstW m v k)) : ∃ j a vs us, v = .ref j ∧ x = .ref a ∧ ρ j = some a ∧ H a = some (.lst us) ∧ VRs G ρ H vs us ∧ Post G (VR G) W ρ H Q (k j vs) := by
  cases v with
  | ref j =>
    have p : Post G (VR G) W ρ H Q (match m.t.get j with | some o => (match o with | .lst xs => k j xs | _ => .bad 30) | .none => .bad 30) := p
    cases e : m.t.get j with
    | none => rw [e] at p; exact p.elim
    | some o =>
      rw [e] at p
      cases o with
      | lst vs =>
        obtain ⟨a, us, rfl, hk, h1, h2⟩ := lst_of hr e vr
        exact ⟨j, a, vs, us, rfl, rfl, hk, h1, h2, p⟩
      | _ => exact p.elim
  | _ => exact False.elim p
theorem isL_of {ρ : Rho} {m : MP.M} {v : MP.Val} {x : V} (hr : HR G ρ m H) (vr : VR G ρ H v x) (h : MP.E.isL m v = true) : tyV G.K "list" x H := by
  cases v with
  | ref j =>
    have h : MP.isSome (MP.lstO m j) = true := h
    cases e : MP.lstO m j with
    | none => rw [e] at h; cases h
    | some vs =>
      obtain ⟨a, us, rfl, hk, h1, h2⟩ := lst_of hr (lstO_of e) vr
      exact .inl ⟨rfl, us, SqL.of h1⟩
  | _ => cases h
theorem vIf_of {ρ : Rho} {t : MP.M → MP.Val → Bool} {k : MP.Cx → List MP.Val → MP.Val → MP.M → MP.R MP.Val} {co : MP.E} {σm : List MP.Val} {m : MP.M} {Q : VK} {Q1 : VK} (sr : SR G W ρ H σm σ) (hr : HR G ρ m H) (p : Post G (VR G) W ρ H Q (MP.E.vIf t co k f σm m))
    (h : ∀ ρ1 v m1 x H1, SR G W ρ1 H1 σm σ → HR G ρ1 m1 H1 → VR G ρ1 H1 v x → t m1 v = true → Post G (VR G) W ρ1 H1 Q (k f σm v m1) → Q1 x H1) : trE G f W co σ H Q1 := by
  refine step sr hr p fun ρ1 v m1 x H1 sr1 hr1 vr _ p1 => ?_
  have p1 : Post G (VR G) W ρ1 H1 Q (match t m1 v with | true => k f σm v m1 | false => .bad 115) := p1
  cases e : t m1 v with
  | false => rw [e] at p1; exact p1.elim
  | true => rw [e] at p1; exact h ρ1 v m1 x H1 sr1 hr1 vr e p1
/-- what a method of one argument does, by values -/
def rM1 (G : Gp) (W : XPost) (k : MP.Val → MP.Val → MP.M → MP.R MP.Val) : V → List V → Hp → VK → Prop := fun x xs H Q => ∃ ρ v w y m, xs = [y] ∧ HR G ρ m H ∧ VR G ρ H v x ∧ VR G ρ H w y ∧ Post G (VR G) W ρ H Q (k v w m)
def rM0 (G : Gp) (W : XPost) (k : MP.Val → MP.M → MP.R MP.Val) : V → List V → Hp → VK → Prop := fun x xs H Q => ∃ ρ v m, xs = [] ∧ HR G ρ m H ∧ VR G ρ H v x ∧ Post G (VR G) W ρ H Q (k v m)
/-- the list at j is written -/
theorem put_lst {ρ : Rho} {m : MP.M} {j : Nat} {a : Addr} {us ys : List V} {vs : List MP.Val} {v : MP.Val} {x : V} {Q : VK} (hr : HR G ρ m H) (hk : ρ j = some a) (h1 : H a = some (.lst us)) (r : VRs G ρ H vs ys) (rv : VR G ρ H v x) (p : Post G (VR G) W ρ H Q (.ok v (MP.putObj m j (.lst vs)))) : Q x (upd H a (.lst ys)) := by
  have kp : Keep G.K H (upd H a (.lst ys)) := Keep.write h1 trivial
  obtain ⟨hr2, ex⟩ := hr.put (ob' := .lst vs) (o := .lst ys) hk ⟨ys, upd_same, r.mono Le.refl kp⟩
  exact p ρ _ x ex hr2 (rv.ext ex)
theorem put_dct {ρ : Rho} {m : MP.M} {j : Nat} {a : Addr} {us ys : List (Key × V)} {kvs : List (MP.Val × MP.Val)} {v : MP.Val} {x : V} {Q : VK} (hr : HR G ρ m H) (hk : ρ j = some a) (h1 : H a = some (.dK us)) (r : KR G ρ H kvs ys) (rv : VR G ρ H v x) (p : Post G (VR G) W ρ H Q (.ok v (MP.putObj m j (.dct kvs)))) : Q x (upd H a (.dK ys)) := by
  have kp : Keep G.K H (upd H a (.dK ys)) := Keep.write h1 trivial
  obtain ⟨hr2, ex⟩ := hr.put (ob' := .dct kvs) (o := .dK ys) hk ⟨ys, upd_same, r.mono Le.refl kp⟩
  exact p ρ _ x ex hr2 (rv.ext ex)
theorem append_ok {X : Cx} : MtR X "list.append" (rM1 G W MP.E.appendV) := by
  intro pins s σ H x xs v us Q I rx rs h
  obtain ⟨ρ, a, w, y, m, rfl, hr, ar, wr, p⟩ := h
  obtain ⟨j, a, vs, us', rfl, rfl, hk, h1, h2, p⟩ := lstW_of hr ar p
  have p : Post G (VR G) W ρ H Q (match Nat.blt vs.length MP.SIZE with | true => .ok .none (MP.putObj m j (.lst (vs ++ [w]))) | false => .bad 116) := p
  cases e : Nat.blt vs.length MP.SIZE with
  | false => rw [e] at p; exact p.elim
  | true =>
    rw [e] at p
    refine mt_append pins s σ H _ _ v us Q I rx rs ⟨a, us', y, rfl, rfl, h1, by rw [h2.length, sizeLine_eq]; exact Nat.le_of_ble_eq_true e, ?_⟩
    exact put_lst hr hk h1 (h2.snoc wr) (v := .none) (x := .non) rfl p
theorem VRs.erase {ρ : Rho} : ∀ {vs : List MP.Val} {us : List V} (n : Nat), VRs G ρ H vs us → VRs G ρ H (MP.eraseIx vs n) (us.eraseIdx n)
  | [], _, n, h => by have := h.nil_of; subst this; simp [MP.eraseIx]; unfold VRs; rfl
  | v :: vs, _, 0, h => by
    obtain ⟨x, r, rfl, h1, h2⟩ := h.cons_of
    simpa [MP.eraseIx] using h2
  | v :: vs, _, n + 1, h => by
    obtain ⟨x, r, rfl, h1, h2⟩ := h.cons_of
    show VRs G ρ H (v :: MP.eraseIx vs n) (x :: r.eraseIdx n)
    unfold VRs
    exact ⟨x, _, rfl, h1, VRs.erase n h2⟩
theorem pop1_ok {X : Cx} : MtR X "list.pop" (rM1 G W MP.E.pop1) := by
  intro pins s σ H x xs v us Q I rx rs h
  obtain ⟨ρ, a, w, y, m, rfl, hr, ar, wr, p⟩ := h
  obtain ⟨j, a, vs, us', rfl, rfl, hk, h1, h2, p⟩ := lstW_of hr ar p
  cases w with
  | int i =>
    cases wr
    have p : Post G (VR G) W ρ H Q (match MP.idxOk i with | true => MP.E.popAt m j vs i | false => .bad 75) := p
    cases e : MP.idxOk i with
    | false => rw [e] at p; exact p.elim
    | true =>
      rw [e] at p
      have e' := Bool.and_eq_true_iff.mp e
      have b1 := of_decide_eq_true e'.1
      have b2 := of_decide_eq_true e'.2
      obtain ⟨k, ek, p⟩ := opt_of p
      obtain ⟨z, ez, p⟩ := opt_of p
      rw [nth_get] at ez
      obtain ⟨zz, e3, r3⟩ := h2.get ez
      obtain ⟨s1, s2, s3, s4⟩ := ixN_seq (ix_of ek)
      refine mt_popAt pins s σ H _ _ v us Q I rx rs ⟨a, us', i, k, zz, rfl, rfl, h1, by omega, by omega, by rw [h2.length]; exact s1, e3, ?_⟩
      exact put_lst hr hk h1 (h2.erase k) r3 p
  | _ => exact False.elim p
theorem pop_ok {X : Cx} : MtR X "list.pop" (rM0 G W MP.E.popV) := by
  intro pins s σ H x xs v us Q I rx rs h
  obtain ⟨ρ, a, m, rfl, hr, ar, p⟩ := h
  obtain ⟨j, a, vs, us', rfl, rfl, hk, h1, h2, p⟩ := lstW_of hr ar p
  have p : Post G (VR G) W ρ H Q (match vs.length with | 0 => .bad 74 | n + 1 => MP.opt 74 (MP.nth vs n) fun w => .ok w (MP.putObj m j (.lst (vs.take n)))) := p
  cases e : vs.length with
  | zero => rw [e] at p; exact p.elim
  | succ n =>
    rw [e] at p
    obtain ⟨z, ez, p⟩ := opt_of p
    rw [nth_get] at ez
    obtain ⟨zz, e3, r3⟩ := h2.get ez
    have hl : us'.length = n + 1 := by rw [h2.length, e]
    refine mt_pop pins s σ H _ _ v us Q I rx rs ⟨a, us', zz, rfl, rfl, h1, by rw [hl]; exact e3, ?_⟩
    rw [List.dropLast_eq_take, hl]
    exact put_lst hr hk h1 (h2.take n) r3 p
theorem ok_lm1 {o e : Expr} {name : Str} {id : String} {co c : MP.E} {k : MP.Val → MP.Val → MP.M → MP.R MP.Val} {apos cpos : Pos} (slot : Slot "list" name id) (hty : typeOf (.builtin id) = pure (.type "method_descriptor")) (hm : ∀ W X, MtR X id (rM1 G W k)) (ho : OkE G Γ o co) (he : OkE G Γ e c)
    (hbase : ∀ env, attributeBase o name env (eval o env) = eval o env := by intro _; rfl)
    (hfew : ∀ env, ((backTo cpos (starEach [e] env)).all (fun x => !x.1) && (backToKw cpos (keywordEach [] env)).all (fun x => x.1.isSome)
      && decide (([e] : List Expr).length + ([] : List Keyword).length + (if ([] : List Keyword).isEmpty then 0 else 1) < 30)) = true := by intro _; rfl)
    (hline : (apos.endLine == cpos.line) = true := by rfl) (hs : ∀ env, starEach [e] env = (false, eval e env) :: starEach [] env := by intro _; rfl) : OkE G Γ (.Call (.Attribute o name apos) [e] [] cpos) (.mL1 co c k) := fun W X F => by
  refine PE.weak (pe_bm PySem.F.plainAttrs_list slot hty (hm W X) (ho W X F) (okA_cons he okA_nil hs W X F) (hbase X.env) (hfew X.env) hline (hs X.env)) fun σ H Q ⟨ρ, σm, m, sr, hr, p⟩ => ?_
  refine vIf_of sr hr p fun ρ1 v m1 x H1 sr1 hr1 vr ht p1 => ⟨by rw [F.hK]; exact isL_of hr1 vr ht, ?_⟩
  refine ⟨ρ1, σm, m1, sr1, hr1, ?_⟩
  show Post G (VRs G) W ρ1 H1 _ ((c Γ.f σm m1).bind fun v m => .ok [v] m)
  cases e2 : c Γ.f σm m1 with
  | bad n => rw [e2] at p1; exact p1.elim
  | ex w m2 => rw [e2] at p1; exact p1
  | ok w m2 =>
    rw [e2] at p1
    intro ρ2 H2 xs ex hr2 vr2
    obtain ⟨y, rfl, r⟩ := VRs.one vr2
    exact ⟨ρ2, v, w, y, m2, rfl, hr2, vr.ext ex, r, Post.at (r := k v w m2) p1 ex⟩
theorem ok_lm0 {o : Expr} {name : Str} {id : String} {co : MP.E} {k : MP.Val → MP.M → MP.R MP.Val} {apos cpos : Pos} (slot : Slot "list" name id) (hty : typeOf (.builtin id) = pure (.type "method_descriptor")) (hm : ∀ W X, MtR X id (rM0 G W k)) (ho : OkE G Γ o co)
    (hbase : ∀ env, attributeBase o name env (eval o env) = eval o env := by intro _; rfl) (hline : (apos.endLine == cpos.line) = true := by rfl) : OkE G Γ (.Call (.Attribute o name apos) [] [] cpos) (.mL0 co k) := fun W X F => by
  refine PE.weak (pe_bm0 PySem.F.plainAttrs_list slot hty (hm W X) (ho W X F) (hbase X.env) hline) fun σ H Q ⟨ρ, σm, m, sr, hr, p⟩ => ?_
  exact vIf_of sr hr p fun ρ1 v m1 x H1 sr1 hr1 vr ht p1 => ⟨by rw [F.hK]; exact isL_of hr1 vr ht, ⟨ρ1, v, m1, rfl, hr1, vr, p1⟩⟩
end
end Snd
set_option Elab.async false
set_option linter.all false
set_option maxRecDepth 100000
set_option maxHeartbeats 4000000
/-! Snd16: methods of dicts; stores by places; two names at once. -/
namespace Snd
open PySem PySem.Spec PyProof.Rows L2
section
variable {G : Gp} {Γ : Cn} {W : XPost} {σ : L2.St} {H : Hp} {f : MP.Cx}
theorem isD_of {ρ : Rho} {m : MP.M} {v : MP.Val} {x : V} (hr : HR G ρ m H) (vr : VR G ρ H v x) (h : MP.E.isD m v = true) : ∃ a, x = .ref a ∧ IsD H a := by
  cases v with
  | ref j =>
    have h : MP.isSome (MP.dctAt m j) = true := h
    cases e : MP.dctAt m j with
    | none => rw [e] at h; cases h
    | some kvs =>
      unfold VR at vr
      obtain ⟨a, rfl, hk⟩ := vr
      obtain ⟨us, h1, _⟩ := dctAt_of hr e hk
      exact ⟨a, rfl, .inl ⟨us, .inl h1⟩⟩
  | _ => cases h
theorem dctW_of {ρ : Rho} {m : MP.M} {v : MP.Val} {x : V} {Q : VK} {k : Nat → List (MP.Val × MP.Val) → MP.R MP.Val} (hr : HR G ρ m H) (vr : VR G ρ H v x) (p : Post G (VR G) W ρ H Q (MP.dctW m v k)) : ∃ j a kvs us, v = .ref j ∧ x = .ref a ∧ ρ j = some a ∧ H a = some (.dK us) ∧ KR G ρ H kvs us ∧ Post G (VR G) W ρ H Q (k j kvs) := by
  cases v with
  | ref j =>
    have p : Post G (VR G) W ρ H Q (match m.t.get j with | some o => (match o with | .dct xs => k j xs | _ => .bad 29) | .none => .bad 29) := p
    cases e : m.t.get j with
    | none => rw [e] at p; exact p.elim
    | some o =>
      rw [e] at p
      cases o with
      | dct kvs =>
        unfold VR at vr
        obtain ⟨a, rfl, hk⟩ := vr
        obtain ⟨us, h1, h2, h3, _⟩ := dctAt_of (kvs := kvs) hr (by unfold MP.dctAt; rw [e]) hk
        exact ⟨j, a, kvs, us, rfl, rfl, h3, h1, h2, p⟩
      | _ => exact p.elim
  | _ => exact False.elim p
theorem dctR_of {ρ : Rho} {m : MP.M} {v : MP.Val} {x : V} {Q : VK} {k : List (MP.Val × MP.Val) → MP.R MP.Val} (hr : HR G ρ m H) (vr : VR G ρ H v x) (p : Post G (VR G) W ρ H Q (MP.dctR m v k)) : ∃ a kvs us, x = .ref a ∧ H a = some (.dK us) ∧ KR G ρ H kvs us ∧ Post G (VR G) W ρ H Q (k kvs) := by
  cases v with
  | ref j =>
    have p : Post G (VR G) W ρ H Q (match MP.dctAt m j with | some kvs => k kvs | .none => .bad 31) := p
    cases e : MP.dctAt m j with
    | none => rw [e] at p; exact p.elim
    | some kvs =>
      rw [e] at p
      unfold VR at vr
      obtain ⟨a, rfl, hk⟩ := vr
      obtain ⟨us, h1, h2, _⟩ := dctAt_of hr e hk
      exact ⟨a, kvs, us, rfl, h1, h2, p⟩
  | _ => exact False.elim p
theorem ok_dsetd {o e g : Expr} {co c c2 : MP.E} {apos cpos : Pos} (ho : OkE G Γ o co) (he : OkE G Γ e c) (hg : OkE G Γ g c2) (m0 : ∀ X : Cx, M2 X o "setdefault" apos e g cpos) : OkE G Γ (.Call (.Attribute o "setdefault" apos) [e, g] [] cpos) (.mSetdefault co c c2) := fun W X F => by
  refine PE.weak (pe_dsetd (ho W X F) (he W X F) (hg W X F) (m0 X)) fun σ H Q ⟨ρ, σm, m, sr, hr, p⟩ => ?_
  have p : Post G (VR G) W ρ H Q (MP.E.vIf MP.E.isD co (fun f σ v m => (c f σ m).bind fun x m => (c2 f σ m).bind fun y m => MP.E.setdef v x y m) Γ.f σm m) := p
  refine vIf_of sr hr p fun ρ1 v m1 x H1 sr1 hr1 vr ht p1 => ?_
  obtain ⟨a, rfl, hd⟩ := isD_of hr1 vr ht
  refine ⟨a, rfl, hd, ?_⟩
  refine step sr1 hr1 p1 fun ρ2 w m2 y H2 sr2 hr2 wr ex2 p2 => ?_
  refine step sr2 hr2 p2 fun ρ3 z m3 zx H3 sr3 hr3 zr ex3 p3 => ?_
  obtain ⟨j, a', kvs, us, rfl, e1, hk, h1, h2, p3⟩ := dctW_of hr3 ((vr.ext ex2).ext ex3) p3
  cases e1
  have p3 : Post G (VR G) W ρ3 H3 Q (match Nat.blt kvs.length MP.SIZE with
    | true => MP.opt 78 (MP.look m3 w kvs) fun r => (match r with | some w => .ok w m3 | .none => .ok z (MP.putObj m3 j (.dct (MP.putK w z kvs))))
    | false => .bad 78) := p3
  cases eb : Nat.blt kvs.length MP.SIZE with
  | false => rw [eb] at p3; exact p3.elim
  | true =>
    rw [eb] at p3
    obtain ⟨r, er, p3⟩ := opt_of p3
    obtain ⟨q, rfl, lk⟩ := look_of er h2 (wr.ext ex3)
    refine ⟨us, q, h1, rfl, by rw [h2.length, sizeLine_eq]; exact Nat.le_of_ble_eq_true eb, fun u0 e4 => ?_, fun e4 => ?_⟩
    · rw [e4] at lk
      cases r with
      | none => exact lk.elim
      | some w0 => exact p3.done hr3 lk
    · rw [e4] at lk
      cases r with
      | some w0 => exact lk.elim
      | none => exact put_dct hr3 hk h1 (putK_of (wr.ext ex3) zr h2) zr p3
theorem ok_dget2 {o e g : Expr} {co c c2 : MP.E} {apos cpos : Pos} (ho : OkE G Γ o co) (he : OkE G Γ e c) (hg : OkE G Γ g c2) (m0 : ∀ X : Cx, M2 X o "get" apos e g cpos) : OkE G Γ (.Call (.Attribute o "get" apos) [e, g] [] cpos) (.mGet2 co c c2) := fun W X F => by
  refine PE.weak (pe_dget2 F.room.one (ho W X F) (he W X F) (hg W X F) (m0 X)) fun σ H Q ⟨ρ, σm, m, sr, hr, p⟩ => ?_
  have p : Post G (VR G) W ρ H Q (MP.E.vIf MP.E.isD co (fun f σ v m => (c f σ m).bind fun x m => (c2 f σ m).bind fun y m => MP.E.get2 v x y m) Γ.f σm m) := p
  refine vIf_of sr hr p fun ρ1 v m1 x H1 sr1 hr1 vr ht p1 => ?_
  obtain ⟨a, rfl, hd⟩ := isD_of hr1 vr ht
  refine ⟨a, rfl, hd, ?_⟩
  refine step sr1 hr1 p1 fun ρ2 w m2 y H2 sr2 hr2 wr ex2 p2 => ?_
  refine step sr2 hr2 p2 fun ρ3 z m3 zx H3 sr3 hr3 zr ex3 p3 => ?_
  obtain ⟨a', kvs, us, e1, h1, h2, p3⟩ := dctR_of hr3 ((vr.ext ex2).ext ex3) p3
  cases e1
  obtain ⟨r, er, p3⟩ := opt_of p3
  obtain ⟨q, rfl, lk⟩ := look_of er h2 (wr.ext ex3)
  refine ⟨valV us q, DGet.k h1, ?_⟩
  cases r with
  | some w0 =>
    cases e4 : valV us q with
    | none => rw [e4] at lk; exact lk.elim
    | some u0 => rw [e4] at lk; exact p3.done hr3 lk
  | none =>
    cases e4 : valV us q with
    | none => exact p3.done hr3 zr
    | some u0 => rw [e4] at lk; exact lk.elim
theorem ok_dget1 {o e : Expr} {co c : MP.E} {apos cpos : Pos} (ho : OkE G Γ o co) (he : OkE G Γ e c) (m0 : ∀ X : Cx, M1 X o "get" apos e cpos) : OkE G Γ (.Call (.Attribute o "get" apos) [e] [] cpos) (.mGet co c) := fun W X F => by
  refine PE.weak (pe_dget1 F.room.one (ho W X F) (he W X F) (m0 X)) fun σ H Q ⟨ρ, σm, m, sr, hr, p⟩ => ?_
  have p : Post G (VR G) W ρ H Q (MP.E.vIf MP.E.isD co (fun f σ v m => (c f σ m).bind fun x m => MP.E.get1 v x m) Γ.f σm m) := p
  refine vIf_of sr hr p fun ρ1 v m1 x H1 sr1 hr1 vr ht p1 => ?_
  obtain ⟨a, rfl, hd⟩ := isD_of hr1 vr ht
  refine ⟨a, rfl, hd, ?_⟩
  refine step sr1 hr1 p1 fun ρ2 w m2 y H2 sr2 hr2 wr ex2 p2 => ?_
  obtain ⟨a', kvs, us, e1, h1, h2, p3⟩ := dctR_of hr2 (vr.ext ex2) p2
  cases e1
  obtain ⟨r, er, p3⟩ := opt_of p3
  obtain ⟨q, rfl, lk⟩ := look_of er h2 wr
  refine ⟨valV us q, DGet.k h1, ?_⟩
  cases r with
  | some w0 =>
    cases e4 : valV us q with
    | none => rw [e4] at lk; exact lk.elim
    | some u0 => rw [e4] at lk; exact p3.done hr2 lk
  | none =>
    cases e4 : valV us q with
    | none => exact Post.done (x := V.non) p3 hr2 rfl
    | some u0 => rw [e4] at lk; exact lk.elim
/-! ### stores by places -/
theorem VRs.set {ρ : Rho} {v : MP.Val} {x : V} (rv : VR G ρ H v x) : ∀ {vs : List MP.Val} {us : List V} (n : Nat), VRs G ρ H vs us → VRs G ρ H (MP.setN v vs n) (us.set n x)
  | [], _, n, h => by have := h.nil_of; subst this; simp [MP.setN]; unfold VRs; rfl
  | w :: vs, _, 0, h => by
    obtain ⟨y, r, rfl, h1, h2⟩ := h.cons_of
    show VRs G ρ H (v :: vs) (x :: r)
    unfold VRs
    exact ⟨x, r, rfl, rv, h2⟩
  | w :: vs, _, n + 1, h => by
    obtain ⟨y, r, rfl, h1, h2⟩ := h.cons_of
    show VRs G ρ H (w :: MP.setN v vs n) (y :: r.set n x)
    unfold VRs
    exact ⟨y, _, rfl, h1, VRs.set rv n h2⟩
def rP (G : Gp) (W : XPost) : TSet := fun o i v H Q => ∃ ρ j k z m σm σ Q1, HR G ρ m H ∧ VR G ρ H (.ref j) o ∧ VR G ρ H k i ∧ VR G ρ H z v ∧ SR G W ρ H σm σ ∧ Post G (SR G W) W ρ H Q1 (MP.Tg.idxP m j k z σm) ∧ ∀ H', Q1 σ H' → Q H'
theorem set_ok {X : Cx} (F : Fit G Γ W X) : PSet X (rP G W) := by
  intro pins s σ0 H o i v ov iv u Q I ro ri rv ⟨ρ, j, k, z, m, σm, σ, Q1, hr, jr, kr, zr, sr, p, hq⟩
  unfold VR at jr
  obtain ⟨a, rfl, hk⟩ := jr
  unfold MP.Tg.idxP at p
  cases e : m.t.get j with
  | none => rw [e] at p; exact p.elim
  | some ob =>
    rw [e] at p
    cases ob with
    | lst xs =>
      obtain ⟨a', us, e1, hk', h1, h2⟩ := lst_of hr e (x := .ref a) (by unfold VR; exact ⟨a, rfl, hk⟩)
      cases e1
      cases k with
      | int n =>
        cases kr
        have p : Post G (SR G W) W ρ H Q1 (match MP.ixOf n xs.length with | some jj => .ok σm (MP.putObj m j (.lst (MP.setN z xs jj))) | .none => .bad 96) := p
        cases e2 : MP.ixOf n xs.length with
        | none => rw [e2] at p; exact p.elim
        | some jj =>
          rw [e2] at p
          have kp : Keep G.K H (upd H a (.lst (us.set jj v))) := Keep.write h1 trivial
          obtain ⟨hr2, ex⟩ := hr.put (ob' := .lst (MP.setN z xs jj)) (o := .lst (us.set jj v)) hk' ⟨_, upd_same, (VRs.set zr jj h2).mono Le.refl kp⟩
          exact set_list pins s σ0 H _ _ v ov iv u Q I ro ri rv ⟨a, us, n, jj, rfl, rfl, h1, by rw [h2.length]; exact ix_of e2, hq _ (p ρ _ σ ex hr2 (sr.ext ex))⟩
      | _ => exact p.elim
    | dct kvs =>
      obtain ⟨us, h1, h2, hk', _⟩ := dctAt_of (kvs := kvs) hr (by unfold MP.dctAt; rw [e]) hk
      obtain ⟨kvs', ep, p⟩ := opt2_of p
      obtain ⟨q, rfl, hl, r⟩ := dput_of ep h2 kr zr
      have kp : Keep G.K H (upd H a (.dK (L2.putK us q v))) := Keep.write h1 trivial
      obtain ⟨hr2, ex⟩ := hr.put (ob' := .dct kvs') (o := .dK (L2.putK us q v)) hk' ⟨_, upd_same, r.mono Le.refl kp⟩
      exact set_dict F.room.one pins s σ0 H _ _ v ov iv u Q I ro ri rv ⟨a, _, rfl, DPut.k h1 hl, hq _ (p ρ _ σ ex hr2 (sr.ext ex))⟩
    | _ => exact p.elim
theorem okG_idx {o i : Expr} {co ci : MP.E} {pos : Pos} (ho : OkE G Γ o co) (hi : OkE G Γ i ci)
    (ha : ∀ env v, assign (.Subscript o i pos) env v = (do
      let ov ← holding [v] (eval o env)
      let iv ← holding [v, ov] (eval i env)
      standAt pos
      holding [v, ov, iv] (setItem ov iv v)
      release [v, ov, iv] []) := by intro _ _; rfl) : OkG G Γ (.Subscript o i pos) (.idx co ci) := fun W X F => by
  refine PG.weak (pg_sub (ho W X F) (hi W X F) (set_ok F) (ha X.env)) fun v σ H Q ⟨ρ, σm, m, z, sr, hr, zr, p⟩ => ?_
  refine step sr hr p fun ρ1 w m1 x H1 sr1 hr1 wr ex1 p1 => ?_
  refine step sr1 hr1 p1 fun ρ2 k m2 y H2 sr2 hr2 kr ex2 p2 => ?_
  cases w with
  | ref j => exact ⟨ρ2, j, k, z, m2, σm, σ, Q, hr2, wr.ext ex2, kr, (zr.ext ex1).ext ex2, sr2, p2, fun _ h => h⟩
  | _ => exact p2.elim
/-! ### a, b = x, y -/
theorem okS_par {x y : Str} {a b : Expr} {i j : Nat} {ca cb : MP.E} {px py pt pos : Pos} {kt k2 : Nat} {pt2 : Pos} (hi : Γ.N[i]? = some x) (hj : Γ.N[j]? = some y) (hij : i ≠ j) (hop : Γ.opn = true) (hx : Γ.sc.names.lookup x = some .local) (hy : Γ.sc.names.lookup y = some .local) (ha : OkA G Γ [a, b] [ca, cb])
    (hw : ∀ env : Env, env.scope = Γ.sc → swappedStores [.Tuple [.Name x px, .Name y py] kt pt] (.Tuple [a, b] k2 pt2) env = pure (some [x, y]))
    (hs : ∀ env, swapsWithSole [.Tuple [.Name x px, .Name y py] kt pt] (.Tuple [a, b] k2 pt2) pos.line env = pure false := by intro _; rfl) : OkS G Γ (.Assign [.Tuple [.Name x px, .Name y py] kt pt] (.Tuple [a, b] k2 pt2) pos) (.asg (.tup [.loc i, .loc j]) (.tup [ca, cb])) := fun W X F => by
  refine PS.weak (ps_par F.calm (by rw [F.hN]; exact F.nd) (by rw [F.hN]; exact hi) (by rw [F.hN]; exact hj) hij (by rw [F.hsc]; exact hx) (by rw [F.hsc]; exact hy) (ha W X F) (hw X.env F.hsc) (hs X.env)) fun D σ H ⟨ρ, σm, m, sr, hr, p⟩ => ?_
  have e0 : ((MP.E.tup [ca, cb] Γ.f σm m).bind fun v m => (MP.Tg.tup [.loc i, .loc j] Γ.f v σm m).bind fun σ m => MP.R.ok (MP.Fl.next σ) m) = ((MP.evL Γ.f [ca, cb] σm m).bind fun vs m => (MP.Tg.tup [.loc i, .loc j] Γ.f (.tup vs) σm m).bind fun σ m => MP.R.ok (MP.Fl.next σ) m) := by
    show ((MP.evL Γ.f [ca, cb] σm m).bind fun vs m => MP.R.ok (MP.Val.tup vs) m).bind _ = _
    cases MP.evL Γ.f [ca, cb] σm m <;> rfl
  have p : Post G (FlR G W) W ρ H (ends D) ((MP.E.tup [ca, cb] Γ.f σm m).bind fun v m => (MP.Tg.tup [.loc i, .loc j] Γ.f v σm m).bind fun σ m => MP.R.ok (MP.Fl.next σ) m) := p
  rw [e0] at p
  refine ⟨ρ, σm, m, sr, hr, (Post.bind (Rl := VRs G) p).mono fun xs H1 ⟨ρ1, vs, m1, el, ex, hr1, vr, p1⟩ => ?_⟩
  have hl := evL_len _ _ _ _ _ _ el
  cases vs with
  | nil => cases hl
  | cons v r =>
    cases r with
    | nil => cases hl
    | cons w r =>
      cases r with
      | cons _ _ => cases hl
      | nil =>
        obtain ⟨x1, y1, rfl, r1, r2⟩ := vr.two
        refine ⟨x1, y1, rfl, ?_⟩
        exact (show ends D (FV.nx _) H1 from Post.done (Rl := FlR G W) p1 hr1 (((sr.ext ex).set r1 i (F.opn hop _ _ _ sr.sg)).set r2 j (F.opn hop _ _ _ (F.opn hop _ _ _ sr.sg))))
end
end Snd
set_option Elab.async false
set_option linter.all false
set_option maxRecDepth 100000
set_option maxHeartbeats 4000000
/-! Gap1: tuple * 0, tuple * 1 (HandS has a factor of two and more). -/
namespace Gap
open PySem PySem.Spec PyProof.Rows L2
theorem tuple_mul0 (l : Addr) (items : Array Value) (n : Nat) (dd : Option Addr) (sl : Array (Option Value)) (x : Int) (u : Tok) (c0 : (decide (x < -(2 ^ 63)) || decide (x ≥ 2 ^ 63)) = false) (c1 : (items.isEmpty || x == 1) = false) (c2 : (decide (x ≤ 0) || items.isEmpty) = true) :
    Meets (Builtin.«tuple.__mul__» ⟨[.ref l, .int x u], []⟩) (fun _ R s => s.heap.get? l = some { cls := .type "tuple", dict := dd, data := .seq items n, slots := sl } ∧
      R (.ok (.ret (Value.ref s.heap.objs.size))) { s with heap := s.heap.push { cls := Value.type "tuple", data := Data.seq #[] }, toks := s.toks }) :=
  .of_wp fun prog w A R s h => by
    obtain ⟨hp, g, d, tk, os⟩ := s
    obtain ⟨hl, h⟩ := h
    have f1 := AutoSeq1.idx_int
    wp_walk using wpAny_loadPart' hl
    repeat (first
      | (refine wpAny_ite_false (decide_eq_false (by rw [c0]; exact Bool.false_ne_true)) ?_; wp_walk using wpAny_loadPart' hl)
      | (refine wpAny_ite_false (decide_eq_false (by rw [c1]; exact Bool.false_ne_true)) ?_; wp_walk using wpAny_loadPart' hl)
      | (refine wpAny_ite_true (decide_eq_true c2) ?_; wp_walk using wpAny_loadPart' hl))
    exact ⟨_, rfl, h⟩
theorem tuple_mul1 (l : Addr) (items : Array Value) (n : Nat) (dd : Option Addr) (sl : Array (Option Value)) (x : Int) (u : Tok) (c0 : (decide (x < -(2 ^ 63)) || decide (x ≥ 2 ^ 63)) = false) (c1 : (items.isEmpty || x == 1) = true) :
    Meets (Builtin.«tuple.__mul__» ⟨[.ref l, .int x u], []⟩) (fun _ R s => s.heap.get? l = some { cls := .type "tuple", dict := dd, data := .seq items n, slots := sl } ∧
      R (.ok (.ret (Value.ref l))) s) :=
  .of_wp fun prog w A R s h => by
    obtain ⟨hp, g, d, tk, os⟩ := s
    obtain ⟨hl, h⟩ := h
    have f1 := AutoSeq1.idx_int
    wp_walk using wpAny_loadPart' hl
    repeat (first
      | (refine wpAny_ite_false (decide_eq_false (by rw [c0]; exact Bool.false_ne_true)) ?_; wp_walk using wpAny_loadPart' hl)
      | (refine wpAny_ite_true (decide_eq_true c1) ?_; wp_walk using wpAny_loadPart' hl))
    exact ⟨_, rfl, h⟩
theorem op_rep01 {X : Cx} : OpR X (binaryOp .Mult) (fun x y H Q => ∃ l k xs, x = .ref l ∧ y = .int k ∧ SqT X.K H l xs ∧ -(2 ^ 63) ≤ k ∧ k < 2 ^ 63 ∧ ((xs = [] ∨ k = 1) ∧ Q (.ref l) H ∨ (xs ≠ [] ∧ k ≤ 0) ∧ ∀ p, H p = none → Q (.ref p) (upd H p (.tup [])))) := by
  intro pins s σ H x y v u Q I rx ry h
  obtain ⟨l, k, xs, rfl, rfl, hT, b1, b2, h⟩ := h
  cases rx
  obtain ⟨t, rfl⟩ := ry
  obtain ⟨its, r, ⟨⟨cls, dd, data, sl⟩, ho, hc, n, hd⟩, hs⟩ := I.tuple hT
  simp only at hc hd
  subst hc hd
  have c0 : (decide (k < -(2 ^ 63)) || decide (k ≥ 2 ^ 63)) = false := by
    rw [decide_eq_false (by omega), decide_eq_false (by omega)] <;> rfl
  have hemp : its.toArray.isEmpty = true ↔ xs = [] := by
    rw [r.nil_iff.symm]
    simp
  rcases h with ⟨hc, q⟩ | ⟨⟨hne, hk⟩, q⟩
  · have c1 : (its.toArray.isEmpty || k == 1) = true := by
      rcases hc with hc | hc
      · rw [hemp.mpr hc]; rfl
      · rw [hc]; simp
    refine wpAny_binaryOp_repeat_ref (T := "tuple") (U := "int") (by decide) ⟨_, ho, rfl⟩ (fun s' => typeIs_int s' k t) noFill_tuple_mul F.fills_int_mul F.slot_int_rmul repeat_tuple F.slot_int_index.lookup
      (call_meets F.slot_int_rmul (typeIs_int s k t) F.entry_int_rmul (F.args_int_rmul_2 _ _) (int_rmul_tuple k t l its.toArray n dd sl)
        ⟨ho, rfl, ⟨_, ho, rfl⟩, call_meets F.slot_tuple_mul ⟨_, ho, rfl⟩ F.entry_tuple_mul (F.args_tuple_mul_2 _ _) (tuple_mul1 l its.toArray n dd sl k t c0 c1) ⟨ho, ?_⟩⟩)
    exact ⟨.ref l, H, I, rfl, q⟩
  · have hi : its.toArray.isEmpty = false := by
      cases e : its.toArray.isEmpty with
      | false => rfl
      | true => exact absurd (hemp.mp e) hne
    have c1 : (its.toArray.isEmpty || k == 1) = false := by
      rw [hi, Bool.false_or]
      exact beq_eq_false_iff_ne.mpr (by omega)
    have c2 : (decide (k ≤ 0) || its.toArray.isEmpty) = true := by
      rw [decide_eq_true hk]; rfl
    refine wpAny_binaryOp_repeat_ref (T := "tuple") (U := "int") (by decide) ⟨_, ho, rfl⟩ (fun s' => typeIs_int s' k t) noFill_tuple_mul F.fills_int_mul F.slot_int_rmul repeat_tuple F.slot_int_index.lookup
      (call_meets F.slot_int_rmul (typeIs_int s k t) F.entry_int_rmul (F.args_int_rmul_2 _ _) (int_rmul_tuple k t l its.toArray n dd sl)
        ⟨ho, rfl, ⟨_, ho, rfl⟩, call_meets F.slot_tuple_mul ⟨_, ho, rfl⟩ F.entry_tuple_mul (F.args_tuple_mul_2 _ _) (tuple_mul0 l its.toArray n dd sl k t c0 c1 c2) ⟨ho, ?_⟩⟩)
    refine ⟨.ref s.heap.objs.size, _, I.laid (t' := s.toks) (o := .tup []) (fun b ob q => Heap.get?_push_of_some _ q) (Nat.le_refl _) ?_, rfl, q _ (I.hok.fresh (Nat.le_refl _))⟩
    exact ⟨Nat.zero_le _, [], .nil, IsTup.new _ _⟩
end Gap
set_option Elab.async false
set_option linter.all false
set_option maxRecDepth 100000
set_option maxHeartbeats 4000000
/-! Snd17: *, &. -/
namespace Snd
open PySem PySem.Spec PyProof.Rows L2
section
variable {G : Gp} {Γ : Cn} {W : XPost} {σ : L2.St} {H : Hp} {f : MP.Cx}
theorem rep_eq {α : Type} (xs : List α) : ∀ n : Nat, MP.rep xs n = (List.replicate n xs).flatten
  | 0 => rfl
  | n + 1 => by
    show xs ++ MP.rep xs n = _
    rw [rep_eq xs n, List.replicate_succ, List.flatten_cons]
theorem VRs.rep {ρ : Rho} {vs : List MP.Val} {us : List V} (h : VRs G ρ H vs us) : ∀ n : Nat, VRs G ρ H (MP.rep vs n) (List.replicate n us).flatten
  | 0 => by show VRs G ρ H [] []; unfold VRs; rfl
  | n + 1 => by
    rw [List.replicate_succ, List.flatten_cons]
    exact h.append (VRs.rep h n)
theorem VRs.nil_iff {ρ : Rho} {vs : List MP.Val} {us : List V} (h : VRs G ρ H vs us) : us = [] ↔ vs = [] := by
  constructor
  · intro e
    have := h.length
    rw [e] at this
    exact List.eq_nil_of_length_eq_zero this.symm
  · intro e
    subst e
    exact h.nil_of
theorem op_mul_ok {X : Cx} (F : Fit G Γ W X) : OpR X (binaryOp .Mult) (rB G W MP.mulV) := by
  intro pins s σ H x y v u Q I rx ry ⟨ρ, a, b, m, hr, ar, br, p⟩
  cases a with
  | int i =>
    cases b with
    | int j =>
      cases ar; cases br
      have p : Post G (VR G) W ρ H Q (match MP.small i || MP.small j with | true => .ok (.int (i * j)) m | false => .bad 8) := p
      cases e : MP.small i || MP.small j with
      | false => rw [e] at p; exact p.elim
      | true =>
        rw [e] at p
        refine op_mul pins s σ H _ _ v u Q I rx ry ⟨i, j, rfl, rfl, ?_, Post.done (x := V.int (i * j)) p hr rfl⟩
        rcases Bool.or_eq_true_iff.mp e with e | e
        · have e' := Bool.and_eq_true_iff.mp e
          exact .inl ⟨by have := of_decide_eq_true e'.1; omega, by have := of_decide_eq_true e'.2; omega⟩
        · have e' := Bool.and_eq_true_iff.mp e
          exact .inr ⟨by have := of_decide_eq_true e'.1; omega, by have := of_decide_eq_true e'.2; omega⟩
    | _ => exact False.elim p
  | tup vs =>
    cases b with
    | int j =>
      cases j with
      | negSucc _ => exact False.elim p
      | ofNat n =>
        cases br
        have p : Post G (VR G) W ρ H Q (match Nat.ble n 1000 && Nat.ble vs.length 1000 with | true => .ok (.tup (MP.rep vs n)) m | false => .bad 9) := p
        cases e : Nat.ble n 1000 && Nat.ble vs.length 1000 with
        | false => rw [e] at p; exact p.elim
        | true =>
          rw [e] at p
          have e' := Bool.and_eq_true_iff.mp e
          have b1 : n ≤ 1000 := Nat.le_of_ble_eq_true e'.1
          have b2 : vs.length ≤ 1000 := Nat.le_of_ble_eq_true e'.2
          have ar0 := ar
          unfold VR at ar
          obtain ⟨a1, us, rfl, q, r⟩ := ar
          have q' : SqT X.K H a1 us := by rw [F.hK]; exact q
          by_cases h : us = [] ∨ n = 1
          · refine Gap.op_rep01 pins s σ H _ _ v u Q I rx ry ⟨a1, (n : Nat), us, rfl, rfl, q', by omega, by omega, .inl ⟨?_, p.done hr ?_⟩⟩
            · rcases h with h | h
              · exact .inl h
              · exact .inr (by rw [h]; rfl)
            · have e2 : MP.rep vs n = vs := by
                rcases h with h | h
                · have := r.nil_iff.mp h
                  subst this
                  rw [rep_eq]
                  simp
                · subst h
                  show vs ++ [] = vs
                  rw [List.append_nil]
              rw [e2]
              exact ar0
          · have h1 : us ≠ [] := fun z => h (.inl z)
            have h2 : n ≠ 1 := fun z => h (.inr z)
            by_cases h0 : n = 0
            · subst h0
              refine Gap.op_rep01 pins s σ H _ _ v u Q I rx ry ⟨a1, ((0 : Nat) : Int), us, rfl, rfl, q', by omega, by omega, .inr ⟨⟨h1, by omega⟩, fun p' hp => new_tup hr (vs := []) (by unfold VRs; rfl) hp p⟩⟩
            · refine op_repT pins s σ H _ _ v u Q I rx ry ⟨a1, (n : Nat), us, rfl, rfl, q', h1, by omega, by omega, by rw [r.length]; exact b2, fun p' hp => ?_⟩
              exact new_tup hr (r.rep n) hp p
    | _ => exact False.elim p
  | ref k =>
    cases b with
    | int j =>
      cases j with
      | negSucc j =>
        have p : Post G (VR G) W ρ H Q (match MP.lstO m k with | some xs => .bad 9 | .none => .bad 9) := p
        cases e : MP.lstO m k <;> rw [e] at p <;> exact False.elim p
      | ofNat n =>
        cases br
        have p : Post G (VR G) W ρ H Q (match MP.lstO m k with | some xs => MP.repL xs n m | .none => .bad 9) := p
        cases e : MP.lstO m k with
        | none => rw [e] at p; exact p.elim
        | some vs =>
          rw [e] at p
          have p : Post G (VR G) W ρ H Q (match Nat.ble n 1000 && Nat.ble vs.length 1000 with | true => MP.mkObj m (.lst (MP.rep vs n)) | false => .bad 9) := p
          cases e2 : Nat.ble n 1000 && Nat.ble vs.length 1000 with
          | false => rw [e2] at p; exact p.elim
          | true =>
            rw [e2] at p
            have e' := Bool.and_eq_true_iff.mp e2
            have b1 : n ≤ 1000 := Nat.le_of_ble_eq_true e'.1
            have b2 : vs.length ≤ 1000 := Nat.le_of_ble_eq_true e'.2
            obtain ⟨a1, us, rfl, _, q1, r1⟩ := lst_of hr (lstO_of e) ar
            refine op_rep pins s σ H _ _ v u Q I rx ry ⟨a1, (n : Nat), us, rfl, rfl, q1, by omega, by omega, ?_, fun p' hp => new_lst hr (r1.rep n) hp p⟩
            rw [r1.length, sizeLine_eq]
            show vs.length * n ≤ _
            have := Nat.mul_le_mul b2 b1
            omega
    | _ =>
      have p : Post G (VR G) W ρ H Q (match MP.lstO m k with | some xs => .bad 9 | .none => .bad 9) := p
      cases e : MP.lstO m k <;> rw [e] at p <;> exact False.elim p
  | _ => exact False.elim p
theorem op_band_ok {X : Cx} (F : Fit G Γ W X) : OpR X (binaryOp .BitAnd) (rB G W fun a b m => MP.int2 a b fun i j => MP.bandI i j m) := by
  intro pins s σ H x y v u Q I rx ry ⟨ρ, a, b, m, hr, ar, br, p⟩
  obtain ⟨i, j, rfl, rfl, p⟩ := int2_of ar br p
  cases i with
  | negSucc _ => exact False.elim p
  | ofNat i =>
    cases j with
    | negSucc _ => exact False.elim p
    | ofNat j =>
      refine op_and pins s σ H _ _ v u Q I rx ry ⟨_, _, rfl, rfl, ?_⟩
      show Q (.int (Builtin.bitAnd ((i : Nat) : Int) ((j : Nat) : Int))) H
      rw [bitAnd_pp (Int.ofNat_zero_le i) (Int.ofNat_zero_le j)]
      exact Post.done (x := V.int (Int.ofNat (Nat.land i j))) p hr rfl
theorem ok_mul {a b : Expr} {ca cb : MP.E} {pos : Pos} (ha : OkE G Γ a ca) (hb : OkE G Γ b cb) : OkE G Γ (.BinOp a .Mult b pos) (.bin .mul ca cb) := ok_binR (fun _ _ F => op_mul_ok F) ha hb
theorem ok_band {a b : Expr} {ca cb : MP.E} {pos : Pos} (ha : OkE G Γ a ca) (hb : OkE G Γ b cb) : OkE G Γ (.BinOp a .BitAnd b pos) (.bin .band ca cb) := ok_binR (fun _ _ F => op_band_ok F) ha hb
end
end Snd
set_option Elab.async false
set_option linter.all false
set_option maxRecDepth 100000
set_option maxHeartbeats 4000000
/-! Snd18: raise, try. -/
namespace Snd
open PySem PySem.Spec PyProof.Rows L2
/-- an own exception class, without an __init__ of its own -/
structure ExcF (G : Gp) (x : Str) (C : Addr) : Prop where
  base : ∃ (B newId initId : String) (bmB : List Value), ExcBaseFacts B newId initId bmB ∧ PySem.W.excIn G.K C bmB newId = true
  mg : G.mg x = some (.ref C)
  kp : PySem.W.keepIn G.K (.ref C) = true
  sub : PySem.W.subIn G.K (.ref C) (.type "BaseException") = some true
  typ : PySem.W.typeIn G.K (.ref C) = some (.type "type")
/-- which exceptions a clause takes -/
def XmF (G : Gp) (p : MP.Tree MP.Cls) : Prop := ∀ d c D C b, (MP.excVE p d).isSome = true → (MP.excVE p c).isSome = true → G.ca d = some D → G.ca c = some C → MP.hasC p c d = some b → PySem.W.exmOne G.K (.ref D) (.ref C) = some b
section
variable {G : Gp} {Γ : Cn} {W : XPost} {σ : L2.St} {H : Hp} {f : MP.Cx}
theorem okS_raise {x msg : Str} {c : Nat} {C : Addr} {k : MP.Cls} {ve : Bool} {s : List Nat} {j : Nat} {p p2 pos' pos : Pos} (ef : ExcF G x C) (hca : G.ca c = some C) (hk : Γ.f.p.get c = some k) (hkind : k.kind = .exc ve none) (hg : Γ.sc.names.lookup x = some .globalImplicit)
    (hdb : (x == ("__debug__" : Str)) = false := by decide) : OkS G Γ (.Raise (some (.Call (.Name x p) [.Constant (.str msg) j p2] [] pos')) none pos) (.rais (.mk c [.cst (.str s)])) := fun W X F => by
  obtain ⟨B, newId, initId, bmB, fB, q⟩ := ef.base
  have r : Raises X (.ref C) := raises_own (by rw [F.hK]; exact ef.sub) (by rw [F.hK]; exact ef.typ)
  refine PS.weak (ps_raise F.calm F.takes (pmk_own fB (by rw [F.hK]; exact q) (by rw [F.hmg]; exact ef.mg) (by rw [F.hK]; exact ef.kp) r (by show X.env.scope.names.lookup x = _; rw [F.hsc]; exact hg) hdb)) fun D σ H ⟨ρ, σm, m, sr, hr, p⟩ => ?_
  have e0 : MP.make Γ.f c [.str s] m = .ok (.exn c []) m := by
    unfold MP.make
    rw [hk]
    simp only
    rw [hkind]
  have p : Post G (FlR G W) W ρ H (ends D) ((MP.make Γ.f c [.str s] m).bind fun v m => match v with | .exn c ws => .ex (.exn c ws) m | _ => .bad 103) := p
  rw [e0] at p
  exact ⟨sr.sg, ρ, .exn c [], ⟨C, hca, rfl, rfl, rfl⟩, p ρ H Ext.refl hr⟩
/-- a clause's suite -/
def OkH (G : Gp) (Γ : Cn) (s : List Stmt) (cs : List MP.S) : Prop := ∀ (W : XPost) (X : Cx), Fit G Γ W X → ∀ (a : Addr) (pn : List (Addr × Obj)), PSs (X.suite a pn) s (trB G Γ.f W cs)
theorem okS_try {x : Str} {c : Nat} {C : Addr} {body suite : List Stmt} {b₀ : Stmt} {cb ch : List MP.S} {np pos pos' : Pos} (XF : XmF G Γ.f.p) (hca : G.ca c = some C) (hm : G.mg x = some (.ref C)) (hg : Γ.sc.names.lookup x = some .globalImplicit) (ht : Γ.top = true)
    (hb : OkB G { Γ with opn := false, top := false } body cb) (hh : OkH G Γ (b₀ :: suite) ch) (hdb : (x == ("__debug__" : Str)) = false := by decide) : OkS G Γ (.Try body [.ExceptHandler (some (.Name x np)) none (b₀ :: suite) pos'] [] [] pos) (.tri cb (.cls c) none ch) := fun W X F => by
  have hn : Names X x (.ref C) := ⟨by show X.env.scope.names.lookup x = _; rw [F.hsc]; exact hg, hdb, .inl (by rw [F.hmg]; exact hm)⟩
  refine PS.weak (ps_try_only (tb := fun W0 D σ H => ∃ W' : XPost, (∀ cls d σ H, wx G W' cls d σ H → W0 cls d σ H) ∧ trB G Γ.f W' cb D σ H) (ts := fun _ _ _ => trB G Γ.f W ch) (F.top ht).1 (F.top ht).2 hn F.takes (fun W0 pn xe tk pass => ⟨fun pins s σ H D I ⟨W', hW, h⟩ => ?_⟩) (fun a oe cls d pn _ _ => hh W X F a _)) fun D σ H ⟨ρ, σm, m, sr, hr, p⟩ => ?_
  · have fit : Fit G { Γ with opn := false, top := false } W' (X.tr pn xe) :=
      { hK := F.hK, hmg := F.hmg, hN := F.hN, hsc := F.hsc, calm := F.calm, nd := F.nd, room := F.room, hfn := F.hfn, calls := F.calls, takes := tk.imp hW, passes := pass, opn := fun z => (by cases z), top := fun z => (by cases z) }
    exact (hb W' _ fit).run pins s σ H D I h
  · let fin : MP.Val → MP.M → MP.R MP.Fl := fun v m1 => MP.opt2 104 (MP.hasTy Γ.f.p m1 v (.cls c)) fun y => match y with | true => MP.block Γ.f ch σm m1 | false => .ex v m1
    have hfin : ∀ v m1, (MP.opt2 104 (MP.hasTy Γ.f.p m1 v (.cls c)) fun y => match y with
      | true => (MP.block Γ.f ch (MP.S.bindX none v σm) m1).bind fun fl m => match fl with
        | .next σ' => .ok (.next (MP.S.bindX none .und σ')) m
        | fl => .ok fl m
      | false => MP.R.ex v m1) = fin v m1 := fun v m1 => by
      show MP.opt2 104 _ _ = MP.opt2 104 _ _
      cases MP.hasTy Γ.f.p m1 v (.cls c) with
      | none => rfl
      | some y =>
        cases y with
        | false => rfl
        | true =>
          show (MP.block Γ.f ch σm m1).bind _ = MP.block Γ.f ch σm m1
          cases MP.block Γ.f ch σm m1 with
          | ok fl m2 => cases fl <;> rfl
          | ex _ _ => rfl
          | bad _ => rfl
    refine ⟨⟨fun ρ1 H1 v => ∃ m1, HR G ρ1 m1 H1 ∧ Ext G ρ H ρ1 H1 ∧ Post G (FlR G W) W ρ1 H1 (ends D) (fin v m1), fun σ' => σ' = σ⟩, fun cls d σ1 H1 hw => ?_, ρ, σm, m, ⟨sr.len, sr.at_, rfl⟩, hr, ?_⟩
    · obtain ⟨hσ, ρ1, v, er, m1, hr1, ex1, p1⟩ := hw
      have hσ : σ1 = σ := hσ
      subst hσ
      obtain ⟨y, ey, p1⟩ := opt2_of p1
      cases v with
      | exn c' vs =>
        have er0 := er
        obtain ⟨C', h1, rfl, rfl, rfl⟩ := er
        have ey : (match MP.excVE Γ.f.p c' with | some _ => (match MP.excVE Γ.f.p c with | some _ => MP.hasC Γ.f.p c c' | .none => .none) | .none => .none) = some y := ey
        obtain ⟨x1, x2, ey⟩ : (MP.excVE Γ.f.p c').isSome = true ∧ (MP.excVE Γ.f.p c).isSome = true ∧ MP.hasC Γ.f.p c c' = some y := by
          cases z1 : MP.excVE Γ.f.p c' with
          | none => rw [z1] at ey; cases ey
          | some _ =>
            rw [z1] at ey
            cases z2 : MP.excVE Γ.f.p c with
            | none => rw [z2] at ey; cases ey
            | some _ => rw [z2] at ey; exact ⟨rfl, rfl, ey⟩
        refine ⟨y, by rw [F.hK]; exact XF c' c C' C y x1 x2 h1 hca ey, fun hy a _ => ?_, fun hy => ?_⟩
        · subst hy
          exact ⟨ρ1, σm, m1, sr.ext ex1, hr1, p1⟩
        · subst hy
          exact ⟨sr.sg, ρ1, _, er0, p1 ρ1 H1 Ext.refl hr1⟩
      | _ => exact (show False from er).elim
    · have p : Post G (FlR G W) W ρ H (ends D) (match MP.block Γ.f cb σm m with
        | .ok fl m => .ok fl m
        | .ex v m => MP.opt2 104 (MP.hasTy Γ.f.p m v (.cls c)) fun y => match y with
          | true => (MP.block Γ.f ch (MP.S.bindX none v σm) m).bind fun fl m => match fl with
            | .next σ' => .ok (.next (MP.S.bindX none .und σ')) m
            | fl => .ok fl m
          | false => .ex v m
        | .bad n => .bad n) := p
      cases e : MP.block Γ.f cb σm m with
      | bad n => rw [e] at p; exact p.elim
      | ex v m1 =>
        rw [e] at p
        simp only at p
        rw [hfin] at p
        intro ρ1 H1 ex1 hr1
        exact ⟨m1, hr1, ex1, Post.at p ex1⟩
      | ok fl m1 =>
        rw [e] at p
        intro ρ1 H1 fv ex1 hr1 rel
        refine p ρ1 H1 fv ex1 hr1 ?_
        have conv : ∀ {σm' : List MP.Val} {σ' : L2.St}, SR G ⟨fun ρ1 H1 v => ∃ m1, HR G ρ1 m1 H1 ∧ Ext G ρ H ρ1 H1 ∧ Post G (FlR G W) W ρ1 H1 (ends D) (fin v m1), fun σ' => σ' = σ⟩ ρ1 H1 σm' σ' → SR G W ρ1 H1 σm' σ' := fun {σm' σ'} h => by
          have e : σ' = σ := h.sg
          exact ⟨h.len, h.at_, by rw [e]; exact sr.sg⟩
        cases fl <;> cases fv <;> first
          | exact conv rel
          | exact rel
/-! ### small suites -/
/-- a small expression, wherever it stands -/
def OkEs (G : Gp) (Γ : Cn) (e : Expr) (c : MP.E) : Prop := ∀ (W : XPost) (X : Cx), X.N = Γ.N → X.env.scope = Γ.sc → PE X e (trE G Γ.f W c)
theorem oks_loc {i : Nat} {x : Str} {pos : Pos} (hN : Γ.N[i]? = some x) (hv : Vis Γ.sc x) (hd : (x == ("__debug__" : Str)) = false := by decide) (hcd : (x == ("__classdict__" : Str)) = false := by decide) : OkEs G Γ (.Name x pos) (.loc i) := fun W X h1 h2 => by
  refine PE.weak (pe_var (i := i) (by rw [h1]; exact hN) (by rw [h2]; exact hv) hd hcd) fun σ H Q ⟨ρ, σm, m, sr, hr, p⟩ => ?_
  have p : Post G (VR G) W ρ H Q (match MP.nth σm i with | some v => MP.known v fun v => .ok v m | .none => .bad 40) := p
  cases e : MP.nth σm i with
  | none => rw [e] at p; exact p.elim
  | some v =>
    rw [e] at p
    by_cases hu : v = .und
    · subst hu; exact False.elim p
    · obtain ⟨y, e1, r⟩ := sr.at_ i v e hu
      refine ⟨y, e1, ?_⟩
      have p : Post G (VR G) W ρ H Q (MP.known v fun v => .ok v m) := p
      have e2 : (MP.known v fun v => MP.R.ok v m) = .ok v m := by cases v <;> first | rfl | exact absurd rfl hu
      rw [e2] at p
      exact p.done hr r
theorem oks_bool {b : Bool} {j pos} : OkEs G Γ (.Constant (.bool b) j pos) (.cst (.bool b)) := fun W X _ _ => PE.weak pe_bl fun σ H Q ⟨ρ, σm, m, sr, hr, p⟩ => Post.done (x := V.bl b) p hr rfl
theorem oks_none {j pos} : OkEs G Γ (.Constant .none j pos) (.cst .none) := fun W X _ _ => PE.weak pe_non fun σ H Q ⟨ρ, σm, m, sr, hr, p⟩ => Post.done (x := V.non) p hr rfl
theorem oks_not {a : Expr} {pos : Pos} {ca : MP.E} (ha : OkEs G Γ a ca) : OkEs G Γ (.UnaryOp .Not a pos) (.not ca) := fun W X h1 h2 => by
  refine PE.weak (pe_not (ha W X h1 h2)) fun σ H Q ⟨ρ, σm, m, sr, hr, p⟩ => ?_
  refine step sr hr p fun ρ1 v m1 x H1 sr1 hr1 vr _ p1 => ?_
  obtain ⟨b, rfl, p1⟩ := truth_of vr p1
  exact ⟨b, rfl, Post.done (x := V.bl (!b)) p1 hr1 rfl⟩
theorem okH_ret {e : Expr} {c : MP.E} {pos : Pos} (he : OkEs G Γ e c) : OkH G Γ [.Return (some e) pos] [.ret c] := fun W X F a pn => by
  refine PSs.weak (pss_cons (ps_ret (he W (X.suite a pn) F.hN F.hsc)) pss_nil) fun D σ H ⟨ρ, σm, m, sr, hr, p⟩ => ?_
  have e0 : MP.block Γ.f [.ret c] σm m = (c Γ.f σm m).bind fun v m => .ok (.ret v) m := by
    show ((c Γ.f σm m).bind fun v m => MP.R.ok (MP.Fl.ret v) m).bind _ = _
    cases c Γ.f σm m <;> rfl
  rw [e0] at p
  exact step sr hr p fun ρ1 v m1 x H1 sr1 hr1 vr _ p1 => Post.done (Rl := FlR G W) (x := FV.rt x) p1 hr1 vr
theorem okH_pass {pos : Pos} : OkH G Γ [.Pass pos] [.pass] := fun W X F a pn => by
  refine PSs.weak (pss_cons ps_pass pss_nil) fun D σ H ⟨ρ, σm, m, sr, hr, p⟩ => ?_
  exact Post.done (Rl := FlR G W) (x := FV.nx σ) p hr sr
end
end Snd
set_option Elab.async false
set_option linter.all false
set_option maxRecDepth 100000
set_option maxHeartbeats 4000000
/-! Gap2: sorted of a tuple of texts (HandS has it of a list). -/
namespace Gap
open PySem PySem.Spec PyProof.Rows L2
section
variable {prog : Program} {w : World} {A : Around} {E : Value → Shared → Prop} {s : Shared}
abbrev gath (h : Heap) (vs : List Value) : Heap := (h.push (seqObj "list" #[] 0)).update h.objs.size (Obj.mapSeq (· ++ vs.toArray))
theorem collect_tup {l : Addr} {vs : List Value} {Q : List Value → Shared → Prop} (hl : s.heap.IsTuple l vs.toArray) (hsz : vs.length ≤ sizeLine) (h : Q vs { s with heap := gath s.heap vs }) :
    wpAny (model prog w) A (collect (.ref l)) Q E s := by
  obtain ⟨o, ho, hc, n, hd⟩ := id hl
  unfold collect
  refine wpAny_bind (wpAny_runValue (codeAny_builtin entry_proto_collect' ?_))
  show wpAny _ _ (do again (.builtin "list.__iadd__" ⟨[← newList [], .ref l], []⟩)) _ _ s
  refine wpAny_bind (wpAny_newList (wpAny_pure ⟨Code.quiet_builtin _ (by decide +kernel), codeAny_builtin entry_list_iadd' ?_⟩))
  show wpAny _ _ (Builtin.List.listExtendWith (.ref s.heap.objs.size) (.ref l) (.ref s.heap.objs.size)) _ _ { s with heap := s.heap.push (seqObj "list" #[] 0) }
  unfold Builtin.List.listExtendWith
  have ho' := Heap.get?_push_of_some (seqObj "list" #[] 0) ho
  refine wpAny_bind (wpAny_typeOf (T := "tuple") ⟨o, ho', hc⟩ ?_)
  have ht : (Value.type "tuple" == Value.type "tuple") = true := by rfl
  rw [if_pos (by rw [ht]; simp)]
  refine wpAny_bind (listItems_at ho' hd ?_)
  refine wpAny_bind (listItems_at (xs := #[]) (n := 0) (Heap.get?_push_size _ rfl) rfl ?_)
  rw [if_neg (by simp)]
  refine wpAny_bind (listUpdate_at (xs := #[]) (n := 0) (Heap.get?_push_size _ rfl) rfl ?_ (Nat.zero_le _) (by show (#[] ++ vs.toArray).size ≤ sizeLine + 1; simp only [Array.size_append, List.size_toArray, List.length_nil]; omega))
  refine wpAny_pure ?_
  show wpAny (model prog w) A (do
      let o ← load s.heap.objs.size
      match o.data with
      | .seq xs _ => pure xs.toList
      | _ => unsupported "internal:collect") Q E { s with heap := gath s.heap vs }
  refine wpAny_bind (wpAny_load (get?_update_seq (Heap.get?_push_size _ rfl) _) ?_)
  show wpAny _ _ (pure ((#[] : Array Value) ++ vs.toArray).toList) Q E _
  rw [show ((#[] : Array Value) ++ vs.toArray).toList = vs by simp]
  exact wpAny_pure h
theorem sorted_tupStrs {l : Addr} {vs : List Value} {ss : List Str} {Q : Value → Shared → Prop} (hl : s.heap.IsTuple l vs.toArray) (hS : StrsAre vs ss) (h64 : vs.length < 64)
    (h : ∀ (out : Array Value) (ss' : List Str), StrsAre out.toList ss' → ss'.Perm ss → sortedS ss' = true → Q (.ref (s.heap.objs.size + 1)) { s with heap := sortedAll s.heap vs out }) :
    wpAny (model prog w) A (call (.builtin "sorted") [.ref l]) Q E s := by
  refine Calls.call_function_entry kind_sorted plain_sorted entry_sorted (args_sorted1 _) ?_
  unfold Builtin.«sorted»
  refine wpAny_bind (m := checkCount "sorted" 1 1 _) (wpAny_pure ?_)
  refine wpAny_bind (collect_tup hl (by rw [sizeLine_eq]; omega) ?_)
  refine wpAny_bind (wpAny_newList ?_)
  have hsz : (gath s.heap vs).objs.size = s.heap.objs.size + 1 := by
    rw [Heap.size_update, size_push']
  have hoL : ((gath s.heap vs).push (seqObj "list" vs.toArray 0)).get? (s.heap.objs.size + 1) = some (seqObj "list" vs.toArray 0) := by
    rw [← hsz]; exact Heap.get?_push_size _ rfl
  show wpAny _ _ _ _ _ { s with heap := (gath s.heap vs).push (seqObj "list" vs.toArray 0) }
  rw [hsz]
  refine wpAny_bind (wpAny_holding (wpAny_call_entry slot_list_sort ⟨_, hoL, rfl⟩ entry_list_sort (list_sort_treeK strKind_oneLt hoL hS.keysOf (fun v₁ v₂ rest e => keyKind_strs (by rw [← e]; exact hS)) h64 fun st' hp hs => ⟨_, rfl, ?_⟩) (args_list_sort _)))
  obtain ⟨ss', h1, h2, h3⟩ := sorted_out_str hS hp hs
  exact wpAny_pure ⟨_, rfl, h _ ss' h1 h2 h3⟩
end
theorem cr_sortedST {X : Cx} : CallR X (.builtin "sorted") (fun vs H Q => ∃ (a : Addr) (xs : List Str), vs = [V.ref a] ∧ SqT X.K H a (xs.map V.str) ∧ xs.length < 64 ∧
    ∀ (ys : List Str) (p : Addr), ys.Perm xs → sortedS ys = true → H p = none → Q (.ref p) (upd H p (.lst (ys.map V.str)))) := by
  intro pins s σ H vs us Q I r h
  obtain ⟨a, xs, rfl, hs, h64, q⟩ := h
  obtain ⟨its, rv, hl, _⟩ := I.tuple hs
  rw [Vals.ref1 r]
  have hlen0 := rv.length
  rw [List.length_map] at hlen0
  refine sorted_tupStrs (show s.heap.IsTuple a its.toArray from hl) rv.strs (by rw [← hlen0]; exact h64) fun out ys h1 h2 h3 => ?_
  obtain ⟨ep, he'⟩ := PyProof.Rows.sortedAll_at s.heap its out
  have hlen : (ys.map V.str).length ≤ sizeLine := by rw [List.length_map, h2.length_eq]; exact small64 h64
  exact ⟨.ref _, upd H (s.heap.objs.size + 1) (.lst (ys.map V.str)), I.laid (t' := s.toks) (fun _ _ => PyProof.Rows.sortedAll_old) (Nat.le_succ _) ⟨hlen, out.toList, ep, vals_of_strs h1, he'⟩, rfl, q ys _ h2 h3 (I.hok.fresh (Nat.le_succ _))⟩
end Gap
set_option Elab.async false
set_option linter.all false
set_option maxRecDepth 100000
set_option maxHeartbeats 4000000
/-! Snd19: sorted of texts. -/
namespace Snd
open PySem PySem.Spec PyProof.Rows L2
theorem insS_mem {x a : List Nat} : ∀ {l : List (List Nat)}, a ∈ MP.insS x l ↔ a = x ∨ a ∈ l
  | [] => by simp [MP.insS]
  | y :: r => by
    show a ∈ (match MP.strLt x y with | true => x :: y :: r | false => y :: MP.insS x r) ↔ _
    cases MP.strLt x y with
    | true => simp
    | false =>
      simp only [List.mem_cons, insS_mem (l := r)]
      constructor
      · rintro (h | h | h)
        · exact .inr (.inl h)
        · exact .inl h
        · exact .inr (.inr h)
      · rintro (h | h | h)
        · exact .inr (.inl h)
        · exact .inl h
        · exact .inr (.inr h)
theorem insS_perm (x : List Nat) : ∀ l : List (List Nat), (MP.insS x l).Perm (x :: l)
  | [] => .refl _
  | y :: r => by
    show (match MP.strLt x y with | true => x :: y :: r | false => y :: MP.insS x r).Perm _
    cases MP.strLt x y with
    | true => exact .refl _
    | false => exact ((insS_perm x r).cons y).trans (.swap x y r)
theorem sortS_perm : ∀ l : List (List Nat), (MP.sortS l).Perm l
  | [] => .refl _
  | x :: r => (insS_perm x (MP.sortS r)).trans ((sortS_perm r).cons x)
theorem insS_sorted {x : List Nat} : ∀ {l : List (List Nat)}, l.Pairwise (· ≤ ·) → (MP.insS x l).Pairwise (· ≤ ·)
  | [], _ => by simp [MP.insS]
  | y :: r, h => by
    obtain ⟨h1, h2⟩ := List.pairwise_cons.mp h
    show (match MP.strLt x y with | true => x :: y :: r | false => y :: MP.insS x r).Pairwise _
    rw [strLt_iff]
    by_cases hl : x < y
    · rw [decide_eq_true hl]
      have hle : x ≤ y := fun z => by
        exact List.lt_irrefl x (List.lt_trans hl z)
      exact List.pairwise_cons.mpr ⟨fun a ha => by
        rcases List.mem_cons.mp ha with rfl | ha
        · exact hle
        · exact List.le_trans hle (h1 a ha), h⟩
    · rw [decide_eq_false hl]
      exact List.pairwise_cons.mpr ⟨fun a ha => by
        rcases insS_mem.mp ha with rfl | ha
        · exact hl
        · exact h1 a ha, insS_sorted h2⟩
theorem sortS_sorted : ∀ l : List (List Nat), (MP.sortS l).Pairwise (· ≤ ·)
  | [] => .nil
  | x :: r => insS_sorted (sortS_sorted r)
theorem rising_pairwise : ∀ (r : List Str) (x : Str), risingS x r = true → ((x :: r).map fun s => s.cps.toList).Pairwise (· ≤ ·)
  | [], x, _ => by simp
  | y :: r, x, h => by
    have h : (!ltCps y.cps.toList x.cps.toList && risingS y r) = true := h
    obtain ⟨h1, h2⟩ := Bool.and_eq_true_iff.mp h
    have ih := rising_pairwise r y h2
    have hle : x.cps.toList ≤ y.cps.toList := by
      intro z
      rw [ltCps_eq, decide_eq_true z] at h1
      cases h1
    rw [List.map_cons]
    refine List.pairwise_cons.mpr ⟨fun a ha => ?_, ih⟩
    rw [List.map_cons] at ha ih
    rcases List.mem_cons.mp ha with rfl | ha
    · exact hle
    · exact List.le_trans hle ((List.pairwise_cons.mp ih).1 a ha)
theorem sorted_unique {ys : List Str} {l : List (List Nat)} (hp : ys.Perm (l.map fun s => (⟨s.toArray⟩ : Str))) (hs : sortedS ys = true) : ys = (MP.sortS l).map fun s => (⟨s.toArray⟩ : Str) := by
  have e1 : (ys.map fun s => s.cps.toList) = MP.sortS l := by
    refine List.Perm.eq_of_pairwise (le := (· ≤ ·)) (fun a b _ _ h1 h2 => List.le_antisymm h1 h2) ?_ (sortS_sorted l) ?_
    · cases ys with
      | nil => exact .nil
      | cons x r => exact rising_pairwise r x hs
    · refine (hp.map _).trans ?_
      rw [List.map_map]
      have : (l.map ((fun s : Str => s.cps.toList) ∘ fun s => (⟨s.toArray⟩ : Str))) = l := by
        rw [show ((fun s : Str => s.cps.toList) ∘ fun s : List Nat => (⟨s.toArray⟩ : Str)) = id from rfl, List.map_id]
      rw [this]
      exact (sortS_perm l).symm
  rw [← e1, List.map_map]
  symm
  have : ((fun s : List Nat => (⟨s.toArray⟩ : Str)) ∘ fun s : Str => s.cps.toList) = id := by
    funext s
    rfl
  rw [this, List.map_id]
section
variable {G : Gp} {Γ : Cn} {W : XPost} {σ : L2.St} {H : Hp} {f : MP.Cx}
theorem VRs.strs {ρ : Rho} : ∀ {l : List (List Nat)}, (∀ s ∈ l, ∀ c ∈ s, c < 128) → VRs G ρ H (MP.E.strsV l) (l.map fun s => V.str ⟨s.toArray⟩)
  | [], _ => by show VRs G ρ H [] []; unfold VRs; rfl
  | s :: r, h => by
    show VRs G ρ H (.str s :: MP.E.strsV r) (V.str ⟨s.toArray⟩ :: r.map fun s => V.str ⟨s.toArray⟩)
    unfold VRs
    exact ⟨_, _, rfl, ⟨rfl, h s List.mem_cons_self⟩, VRs.strs fun t ht => h t (List.mem_cons_of_mem _ ht)⟩
theorem sorted_ok {X : Cx} (F : Fit G Γ W X) : CallR X (.builtin "sorted") (rC1 G W MP.E.sortedV) := by
  intro pins s σ H xs us Q I rs hh
  obtain ⟨ρ, v, x, m, rfl, hr, vr, p⟩ := hh
  obtain ⟨vs, e, p⟩ := opt_of p
  obtain ⟨l, e2, p⟩ := opt_of p
  obtain ⟨a, us', rfl, r, q⟩ := seq_of hr vr e
  obtain ⟨rfl, hc⟩ := strs_of r e2
  cases e3 : Nat.blt l.length 64 with
  | false => rw [e3] at p; exact p.elim
  | true =>
    rw [e3] at p
    have hl : l.length < 64 := Nat.le_of_ble_eq_true e3
    have fin : ∀ (ys : List Str) (p' : Addr), ys.Perm (l.map fun s => (⟨s.toArray⟩ : Str)) → sortedS ys = true → H p' = none → Q (.ref p') (upd H p' (.lst (ys.map V.str))) := fun ys p' hp hs hn => by
      have := sorted_unique hp hs
      subst this
      rw [List.map_map]
      exact new_lst hr (VRs.strs (l := MP.sortS l) fun t ht => hc t ((sortS_perm l).mem_iff.mp ht)) hn p
    rcases q with q | ⟨q, _⟩
    · exact cr_sortedS pins s σ H _ us Q I rs ⟨a, l.map fun s => (⟨s.toArray⟩ : Str), rfl, by rw [F.hK, List.map_map]; exact q, by rw [List.length_map]; exact hl, fin⟩
    · exact Gap.cr_sortedST pins s σ H _ us Q I rs ⟨a, l.map fun s => (⟨s.toArray⟩ : Str), rfl, by rw [F.hK, List.map_map]; exact q, by rw [List.length_map]; exact hl, fin⟩
theorem ok_sortedS {e : Expr} {c : MP.E} {pp pos : Pos} (hb : Blt G Γ "sorted") (h : OkE G Γ e c) (he : ∀ env, starEach [e] env = (false, eval e env) :: starEach [] env := by intro _; rfl) : OkE G Γ (.Call (.Name "sorted" pp) [e] [] pos) (.bSortedS c) :=
  ok_b1 (id := "") (fun _ _ F => sorted_ok F) hb rfl h (he := he)
end
end Snd
set_option Elab.async false
set_option linter.all false
set_option maxRecDepth 100000
set_option maxHeartbeats 4000000
/-! Der1: a program's table; what is known of it where it runs; the rules once more, their premises as checks. -/
namespace Snd
open PySem PySem.Spec PyProof.Rows L2
/-- a def -/
structure DT where
  at_ : Str × Option Str
  name : Str
  qual : Str
  st : Stmt
  N : List Str
  ps : List Str
  fn : MP.Fn
/-- a class -/
structure CT where
  name : Str
  k : MP.Cls
structure Tab where
  nm : List Str
  fns : List DT
  cls : List CT
  con : List (Str × MP.Val)
  free : List Str
  p : MP.Prog
  eqm : Nat
/-- what is known of a program's top -/
structure Facts (T : Tab) (G : Gp) : Prop where
  nm : ∀ (i : Nat) x, T.nm[i]? = some x → G.nm i = x
  fn : ∀ (g : Nat) e, T.fns[g]? = some e → ∃ fa fd, G.fn g = some (fa, fd, e.ps) ∧ PySem.W.keepIn G.K (.ref fa) = true ∧ Binds G.K fd e.ps [] ∧ Body G e.name e.qual e.st fa fd ∧ (e.at_.2 = none → G.mg e.at_.1 = some (.ref fa))
  fnN : ∀ (g : Nat) f, G.fn g = some f → ∃ e, T.fns[g]? = some e
  ca : ∀ (c : Nat) e, T.cls[c]? = some e → ∃ C, G.ca c = some C ∧ G.mg e.name = some (.ref C)
  con : ∀ (k : Nat) (x : Str) (c : MP.Val), T.con[k]? = some (x, c) → ∃ u v, G.mg x = some u ∧ RelV v u ∧ ∀ ρ H, VR G ρ H c v
  free : ∀ x, x ∈ T.free → G.mg x = none
  cf : ClsF G T.p.classes
  xf : XmF G T.p.classes
  pc : ∀ (c : Nat) e, T.cls[c]? = some e → T.p.classes.get c = some e.k
  exc : ∀ (c : Nat) e ve, T.cls[c]? = some e → e.k.kind = .exc ve none → ∃ C, G.ca c = some C ∧ ExcF G e.name C
/-- .. and of a level of calls -/
structure Tie (T : Tab) (G : Gp) (cx : MP.Cx) : Prop where
  F : Facts T G
  p : cx.p = T.p.classes
  hlen : ∀ i fa fd ps, G.fn i = some (fa, fd, ps) → ∀ vs m, vs.length ≠ ps.length → ∃ k, cx.call i vs m = .bad k
/-! ### checks -/
def visB (sc : Scope) (x : Str) : Bool := match sc.names.lookup x with
  | some .local => true
  | some .cell => true
  | some .free => true
  | _ => false
theorem vis_of {sc : Scope} {x : Str} (h : visB sc x = true) : Vis sc x := by
  unfold visB at h
  unfold Vis
  cases e : sc.names.lookup x with
  | none => rw [e] at h; cases h
  | some k => rw [e] at h; cases k <;> first | exact .inl rfl | exact .inr (.inl rfl) | exact .inr (.inr rfl) | cases h
def locB (sc : Scope) (x : Str) : Bool := match sc.names.lookup x with
  | some .local => true
  | some .cell => true
  | _ => false
theorem loc_of {sc : Scope} {x : Str} (h : locB sc x = true) : L2.Loc sc x := by
  unfold locB at h
  unfold L2.Loc
  cases e : sc.names.lookup x with
  | none => rw [e] at h; cases h
  | some k => rw [e] at h; cases k <;> first | exact .inl rfl | exact .inr rfl | cases h
def isK (sc : Scope) (x : Str) (k : NameKind) : Bool := decide (sc.names.lookup x = some k)
theorem isK_of {sc : Scope} {x : Str} {k : NameKind} (h : isK sc x k = true) : sc.names.lookup x = some k := of_decide_eq_true h
def plainNm (x : Str) : Bool := !(x == ("__debug__" : Str)) && !(x == ("__classdict__" : Str))
def varB (Γ : Cn) (i : Nat) (x : Str) : Bool := decide (Γ.N[i]? = some x) && (visB Γ.sc x && plainNm x)
def setB (Γ : Cn) (i : Nat) (x : Str) : Bool := decide (Γ.N[i]? = some x) && (locB Γ.sc x && ((Γ.fn x || isK Γ.sc x .local) && Γ.opn))
def gloB (Γ : Cn) (x : Str) : Bool := isK Γ.sc x .globalImplicit && plainNm x
theorem ba {a b : Bool} (h : (a && b) = true) : a = true ∧ b = true := Bool.and_eq_true_iff.mp h
theorem plain1 {x : Str} (h : plainNm x = true) : (x == ("__debug__" : Str)) = false := by
  have := (ba h).1
  simpa using this
theorem plain2 {x : Str} (h : plainNm x = true) : (x == ("__classdict__" : Str)) = false := by
  have := (ba h).2
  simpa using this
theorem glo1 {Γ : Cn} {x : Str} (h : gloB Γ x = true) : Γ.sc.names.lookup x = some .globalImplicit := isK_of (ba h).1
theorem glo2 {Γ : Cn} {x : Str} (h : gloB Γ x = true) : (x == ("__debug__" : Str)) = false := plain1 (ba h).2
section
variable {T : Tab} {G : Gp} {Γ : Cn}
theorem o_var {i : Nat} {x : Str} {pos : Pos} (h : varB Γ i x = true) : OkE G Γ (.Name x pos) (.loc i) := by
  obtain ⟨h1, h2⟩ := ba h
  obtain ⟨h2, h3⟩ := ba h2
  exact ok_loc (of_decide_eq_true h1) (vis_of h2) (plain1 h3) (plain2 h3)
theorem os_var {i : Nat} {x : Str} {pos : Pos} (h : varB Γ i x = true) : OkEs G Γ (.Name x pos) (.loc i) := by
  obtain ⟨h1, h2⟩ := ba h
  obtain ⟨h2, h3⟩ := ba h2
  exact oks_loc (of_decide_eq_true h1) (vis_of h2) (plain1 h3) (plain2 h3)
theorem g_var {i : Nat} {x : Str} {pos : Pos} (h : setB Γ i x = true) : OkG G Γ (.Name x pos) (.loc i) := by
  obtain ⟨h1, h2⟩ := ba h
  obtain ⟨h2, h3⟩ := ba h2
  obtain ⟨h3, h4⟩ := ba h3
  refine okG_loc (of_decide_eq_true h1) (loc_of h2) ?_ h4
  rcases Bool.or_eq_true_iff.mp h3 with q | q
  · exact .inl q
  · exact .inr (isK_of q)
theorem go_var {own : List Nat} {i : Nat} {x : Str} {pos : Pos} (h : setB Γ i x = true) (ho : i ∈ own := by decide) : OkGo G Γ own (.Name x pos) (.loc i) := by
  obtain ⟨h1, h2⟩ := ba h
  obtain ⟨h2, h3⟩ := ba h2
  obtain ⟨h3, h4⟩ := ba h3
  refine okGo_loc (of_decide_eq_true h1) (loc_of h2) ?_ ho h4
  rcases Bool.or_eq_true_iff.mp h3 with q | q
  · exact .inl q
  · exact .inr (isK_of q)
def strB (x : Str) (s : List Nat) : Bool := decide (x.cps.toList = s) && s.all fun c => Nat.blt c 128
theorem strB_ok {x : Str} {s : List Nat} (h : strB x s = true) : x = ⟨s.toArray⟩ ∧ ∀ c ∈ s, c < 128 := by
  obtain ⟨h1, h2⟩ := ba h
  refine ⟨?_, fun c hc => Nat.le_of_ble_eq_true (List.all_eq_true.mp h2 c hc)⟩
  have h1 := of_decide_eq_true h1
  subst h1
  rfl
theorem o_str {x : Str} {s : List Nat} {j pos} (h : strB x s = true) : OkE G Γ (.Constant (.str x) j pos) (.cst (.str s)) := ok_str (strB_ok h).1 (strB_ok h).2
theorem o_con {x : Str} {c : MP.Val} {pos : Pos} (t : Tie T G Γ.f) (k : Nat) (h : T.con[k]? = some (x, c)) (hg : gloB Γ x = true) : OkE G Γ (.Name x pos) (.cst c) := by
  obtain ⟨u, v, h1, h2, h3⟩ := t.F.con k x c h
  exact ok_glob (glo1 hg) h1 h2 h3 (glo2 hg)
def bltB (T : Tab) (Γ : Cn) (x : Str) : Bool := isK Γ.sc x .globalImplicit && T.free.contains x
theorem blt (t : Tie T G Γ.f) {x : Str} (h : bltB T Γ x = true) : Blt G Γ x := by
  obtain ⟨h1, h2⟩ := ba h
  exact ⟨isK_of h1, t.F.free x (by simpa using h2)⟩
/-! ### calls -/
theorem o_call {x : Str} {e : Expr} {es : List Expr} {cs : List MP.E} {pp pos : Pos} {d : DT} (t : Tie T G Γ.f) (g : Nat) (hd : T.fns[g]? = some d) (hx : d.at_ = (x, none)) (hg : gloB Γ x = true) (hl : cs.length = d.ps.length) (ha : OkA G Γ (e :: es) cs)
    (he : ∀ env, starEach (e :: es) env = (false, eval e env) :: starEach es env := by intro _; rfl) (hpl : ∀ env, (backTo pos (starEach es env)).any (·.1) = false := by intro _; rfl) :
    OkE G Γ (.Call (.Name x pp) (e :: es) [] pos) (.call g cs) := by
  obtain ⟨fa, fd, h1, h2, h3, h4, h5⟩ := t.F.fn g d hd
  rw [hx] at h5
  exact ok_call (⟨h1, h5 rfl, h2, h3⟩ : Def G x g fa fd d.ps) (glo1 hg) hl ha (glo2 hg) he hpl
theorem o_call0 {x : Str} {pp pos : Pos} {d : DT} (t : Tie T G Γ.f) (g : Nat) (hd : T.fns[g]? = some d) (hx : d.at_ = (x, none)) (hp : d.ps = []) (hg : gloB Γ x = true) :
    OkE G Γ (.Call (.Name x pp) [] [] pos) (.call g []) := by
  obtain ⟨fa, fd, h1, h2, h3, h4, h5⟩ := t.F.fn g d hd
  rw [hx] at h5
  rw [hp] at h1 h3
  exact ok_call0 (⟨h1, h5 rfl, h2, h3⟩ : Def G x g fa fd []) (glo1 hg) (glo2 hg)
theorem cfOf (t : Tie T G Γ.f) : ClsF G Γ.f.p := by rw [t.p]; exact t.F.cf
theorem o_meth {o e : Expr} {es : List Expr} {x : Str} {n : Nat} {co : MP.E} {cs : List MP.E} {apos pos : Pos} (t : Tie T G Γ.f) (ho : OkE G Γ o co) (ha : OkA G Γ (e :: es) cs) (hx : T.nm[n]? = some x)
    (hst : ∀ env, starEach (e :: es) env = (false, eval e env) :: starEach es env := by intro _; rfl) (hpl : ∀ env, (backTo pos (starEach es env)).any (·.1) = false := by intro _; rfl)
    (ht : ∀ env, eval (.Call (.Attribute o x apos) (e :: es) [] pos) env = (do
      let ov ← eval o env
      standAt apos.atName
      let (f, first) ← holding [ov] (getMethod ov x (do return (← importBound o env).getD true))
      callWith pos f first (backTo pos (starEach (e :: es) env)) (backToKw pos (keywordEach [] env))) := by intro _; rfl) : OkE G Γ (.Call (.Attribute o x apos) (e :: es) [] pos) (.meth co n cs) :=
  ok_meth (pl := fun env => do return (← importBound o env).getD true) (cfOf t) ho ha (t.F.nm n x hx) t.hlen hst hpl ht
theorem o_meth0 {o : Expr} {x : Str} {n : Nat} {co : MP.E} {apos pos : Pos} (t : Tie T G Γ.f) (ho : OkE G Γ o co) (hx : T.nm[n]? = some x)
    (ht : ∀ env, eval (.Call (.Attribute o x apos) [] [] pos) env = (do
      let ov ← eval o env
      standAt apos.atName
      let (f, first) ← holding [ov] (getMethod ov x (do return (← importBound o env).getD true))
      callWith pos f first (backTo pos (starEach [] env)) (backToKw pos (keywordEach [] env))) := by intro _; rfl) : OkE G Γ (.Call (.Attribute o x apos) [] [] pos) (.meth co n []) :=
  ok_meth0 (pl := fun env => do return (← importBound o env).getD true) (cfOf t) ho (t.F.nm n x hx) t.hlen ht
theorem o_att {e : Expr} {x : Str} {fl : Nat} {c : MP.E} {pos : Pos} (t : Tie T G Γ.f) (he : OkE G Γ e c) (hx : T.nm[fl]? = some x) (hb : ∀ env, attributeBase e x env (eval e env) = eval e env := by intro _; rfl) : OkE G Γ (.Attribute e x pos) (.att c fl) :=
  ok_att he (t.F.nm fl x hx) hb
theorem s_att {o e : Expr} {x : Str} {fl : Nat} {co c : MP.E} {pos' pos : Pos} (t : Tie T G Γ.f) (ho : OkE G Γ o co) (he : OkE G Γ e c) (hx : T.nm[fl]? = some x) (hs : ∀ env, swapsWith e (some (.Attribute o x pos')) pos.line env = pure false := by intro _; rfl) : OkS G Γ (.Assign [.Attribute o x pos'] e pos) (.asg (.att co fl) c) :=
  okS_att (cfOf t) ho he (t.F.nm fl x hx) hs
theorem s_augAtt {o e : Expr} {x : Str} {fl : Nat} {co c : MP.E} {op : MP.Bin} {oo : Operator} {pos' pos : Pos} (t : Tie T G Γ.f) (hop : (op = .add ∧ oo = .Add) ∨ (op = .sub ∧ oo = .Sub)) (ho : OkE G Γ o co) (he : OkE G Γ e c) (hx : T.nm[fl]? = some x) : OkS G Γ (.AugAssign (.Attribute o x pos') oo e pos) (.augAtt co fl op c) :=
  okS_augAtt (cfOf t) hop ho he (t.F.nm fl x hx)
theorem o_mk0 {x : Str} {c i : Nat} {e : CT} {pp pos : Pos} (t : Tie T G Γ.f) (he : T.cls[c]? = some e) (hx : e.name = x) (hk : e.k.kind = .inst) (hi : e.k.init = some i) (hg : gloB Γ x = true) (hd : 0 < Γ.d) : OkE G Γ (.Call (.Name x pp) [] [] pos) (.mk c []) := by
  obtain ⟨C, h1, h2⟩ := t.F.ca c e he
  rw [hx] at h2
  exact ok_mk0 (cfOf t) (by rw [t.p]; exact t.F.pc c e he) hk hi h1 h2 (glo1 hg) hd t.hlen (glo2 hg)
theorem s_raise {x msg : Str} {c : Nat} {e : CT} {ve : Bool} {s : List Nat} {j : Nat} {p p2 pos' pos : Pos} (t : Tie T G Γ.f) (he : T.cls[c]? = some e) (hx : e.name = x) (hk : e.k.kind = .exc ve none) (hg : gloB Γ x = true) :
    OkS G Γ (.Raise (some (.Call (.Name x p) [.Constant (.str msg) j p2] [] pos')) none pos) (.rais (.mk c [.cst (.str s)])) := by
  obtain ⟨C, h1, h2⟩ := t.F.exc c e ve he hk
  rw [hx] at h2
  exact okS_raise h2 h1 (by rw [t.p]; exact t.F.pc c e he) hk (glo1 hg) (glo2 hg)
theorem s_try {x : Str} {c : Nat} {e : CT} {body suite : List Stmt} {b₀ : Stmt} {cb ch : List MP.S} {np pos pos' : Pos} (t : Tie T G Γ.f) (he : T.cls[c]? = some e) (hx : e.name = x) (hg : gloB Γ x = true) (ht : Γ.top = true)
    (hb : OkB G { Γ with opn := false, top := false } body cb) (hh : OkH G Γ (b₀ :: suite) ch) : OkS G Γ (.Try body [.ExceptHandler (some (.Name x np)) none (b₀ :: suite) pos'] [] [] pos) (.tri cb (.cls c) none ch) := by
  obtain ⟨C, h1, h2⟩ := t.F.ca c e he
  rw [hx] at h2
  exact okS_try (by rw [t.p]; exact t.F.xf) h1 h2 (glo1 hg) ht hb hh (glo2 hg)
/-! ### blocks of their own -/
def blkB (N : List Str) (sc scope : Scope) (own : List (Str × Nat)) : Bool :=
  decide (scope.kind = .function) && (scope.names.all (fun y => decide (scope.names.lookup y.1 = some y.2)) && (own.all (fun p => decide (N[p.2]? = some p.1)) &&
    (scope.names.all (fun y => !decide (y.2 = .free) || (decide (sc.names.lookup y.1 = some .cell) || decide (sc.names.lookup y.1 = some .free))) &&
      scope.names.all (fun y => !(decide (y.2 = .local) || decide (y.2 = .cell)) || ((own.map (·.1)).contains y.1 || !N.contains y.1)))))
theorem blk_of {N : List Str} {sc scope : Scope} {own : List (Str × Nat)} (h : blkB N sc scope own = true) : BlkOk N sc scope own := by
  obtain ⟨h1, h⟩ := ba h
  obtain ⟨h2, h⟩ := ba h
  obtain ⟨h3, h⟩ := ba h
  obtain ⟨h4, h5⟩ := ba h
  refine ⟨of_decide_eq_true h1, fun y hy => of_decide_eq_true (List.all_eq_true.mp h2 y hy), fun p hp => of_decide_eq_true (List.all_eq_true.mp h3 p hp), fun y hy e => ?_, fun y hy e => ?_⟩
  · have := List.all_eq_true.mp h4 y hy
    simpa [e] using this
  · have := List.all_eq_true.mp h5 y hy
    rcases e with e | e <;> simpa [e] using this
theorem o_lc {tg iter elt : Expr} {ifs : List Expr} {scope : Scope} {pos : Pos} {t : MP.Tg} {it : MP.It} {own : List Nat} {c : Option MP.E} {e : MP.E} (names : List (Str × Nat))
    (hb : blkB Γ.N Γ.sc scope names = true) (ho : names.map (·.2) = own) (hi : OkI G Γ tg iter it) (hg : OkGo G (Γ.blk scope) own tg t) (hc : OkC G (Γ.blk scope) ifs c) (he : OkE G (Γ.blk scope) elt e)
    (hs : ∀ env x, foldedSetIterable iter env x = pure x := by intro _ _; rfl) : OkE G Γ (.ListComp elt [⟨tg, iter, ifs, 0⟩] scope pos) (.lc t it own c e) :=
  ok_lc hi (blk_of hb) ho hg hc he hs
theorem s_setLc {y : Str} {i : Nat} {tg iter elt : Expr} {ifs : List Expr} {scope : Scope} {py pos spos : Pos} {t : MP.Tg} {it : MP.It} {own : List Nat} {c : Option MP.E} {e : MP.E} (names : List (Str × Nat))
    (h : (decide (Γ.N[i]? = some y) && (isK Γ.sc y .local && Γ.opn)) = true) (hb : blkB Γ.N Γ.sc scope names = true) (ho : names.map (·.2) = own) (hi : OkI G Γ tg iter it) (hg : OkGo G (Γ.blk scope) own tg t) (hc : OkC G (Γ.blk scope) ifs c) (he : OkE G (Γ.blk scope) elt e)
    (hsw : ∀ env : Env, env.scope = Γ.sc → swapsWith (.ListComp elt [⟨tg, iter, ifs, 0⟩] scope pos) (some (.Name y py)) spos.line env = pure true)
    (hs : ∀ env x, foldedSetIterable iter env x = pure x := by intro _ _; rfl) : OkS G Γ (.Assign [.Name y py] (.ListComp elt [⟨tg, iter, ifs, 0⟩] scope pos) spos) (.asg (.loc i) (.lc t it own c e)) := by
  obtain ⟨h1, h2⟩ := ba h
  exact okS_setLc (of_decide_eq_true h1) (isK_of (ba h2).1) (ba h2).2 hi (blk_of hb) ho hg hc he hsw hs
end
end Snd
set_option Elab.async false
set_option linter.all false
set_option maxRecDepth 100000
set_option maxHeartbeats 4000000
/-! Snd20: a, *b = a tuple. -/
namespace Gap
open PySem PySem.Spec PySem.W PySem.Calls PyProof.Rows L2
section
variable {prog : Program} {w : World} {A : Around} {E : Value → Shared → Prop} {s : Shared} {env : Env}
theorem star_items {l : Addr} {its : Array Value} {n i : Nat} {Q : List Value → Shared → Prop} (hl : IsTup s.heap l its) (hh : A.handled = none) (hi : i < n) (hn : n ≤ its.size + 1) (hz : its.size ≤ sizeLine)
    (h : ∀ (h₂ : Heap) (tk : Nat), (∀ b o, b ≠ s.heap.objs.size → s.heap.get? b = some o → h₂.get? b = some o) → Q (its.toList.take i ++ [.ref h₂.objs.size] ++ (its.toList.drop i).drop (its.size + 1 - n)) { s with heap := h₂.push { cls := .type "list", data := .seq ((its.toList.drop i).take (its.size + 1 - n)).toArray }, toks := tk }) :
    wpAny (model prog w) A (unpackItems (.ref l) n (some i)) Q E s := by
  have hlt : l ≠ s.heap.objs.size := by obtain ⟨o, ho, _⟩ := hl; exact Nat.ne_of_lt (Heap.lt_size ho)
  unfold unpackItems
  refine wpAny_bind ?_
  unfold notIterableAtAll
  refine wpAny_bind (wpAny_specialOf hl.typeIs slot_tuple_iter.lookup (wpAny_pure ?_))
  simp only [Bool.false_eq_true, if_false]
  refine wpAny_bind (wpAny_holding (iter_tuple hl ?_))
  refine wpAny_bind (wpAny_holding (draw_tuple hlt i 0 _ _ ⟨_, Heap.get?_push_size _ rfl, rfl, rfl⟩ (hl.push _) (by omega) fun h1 it1 sb => ?_))
  have l1 : IsTup h1 l its := (hl.push _).extBut sb.extBut hlt
  rw [Nat.zero_add] at it1
  obtain ⟨oi, hoi, _⟩ := id it1
  obtain ⟨ol, hol, _⟩ := id l1
  rw [List.drop_zero]
  have fl : (its.toList.take i).length = i := by rw [List.length_take, Array.length_toList]; omega
  rw [if_neg (show ¬ (its.toList.take i).length < i by rw [fl]; omega)]
  refine wpAny_bind (wpAny_holding (kun_collect (T := "tuple_iterator") (s := { s with heap := h1 }) (.inr (.inr (.inr rfl))) (Walks.tuple (A := A.in1) hh s.heap.objs.size l hlt its) (fun j u st => st.1.typeIs) (k := i) (by omega) ⟨it1, l1⟩ (Heap.lt_size hoi) (Heap.lt_size hol) (fun h2 tk hk => ?_) hz))
  have rl : (its.toList.drop i).length = its.size - i := by rw [List.length_drop, Array.length_toList]
  have md : (its.toList.drop i).length - (n - 1 - i) = its.size + 1 - n := by rw [rl]; omega
  show wpAny _ _ (if (its.toList.drop i).length < n - 1 - i then _ else _) _ _ _
  rw [if_neg (by rw [rl]; omega)]
  show wpAny _ _ (newList ((its.toList.drop i).take ((its.toList.drop i).length - (n - 1 - i))) >>= fun d => pure (its.toList.take i ++ [d] ++ (its.toList.drop i).drop ((its.toList.drop i).length - (n - 1 - i)))) _ _ _
  rw [md]
  refine wpAny_bind (wpAny_newList (wpAny_pure (h h2 tk fun b o hb e => hk b o hb (sb.extBut b o hb (Heap.get?_push_of_some _ e)))) (by rw [List.length_take, rl]; omega))
end
end Gap
namespace Snd
open PySem PySem.Spec PyProof.Rows L2
def gStar (K : PySem.W.Frag) (n i : Nat) (t : TGs) : TG := fun v σ H Q => ∃ a xs, v = .ref a ∧ SqT K H a xs ∧ i < n ∧ n ≤ xs.length + 1 ∧ ∀ p, H p = none → t (xs.take i ++ [.ref p] ++ (xs.drop i).drop (xs.length + 1 - n)) σ (upd H p (.lst ((xs.drop i).take (xs.length + 1 - n)))) Q
theorem Vals.take {xs : List V} {us : List Value} (h : Vals xs us) (k : Nat) : Vals (xs.take k) (us.take k) := by
  induction h generalizing k with
  | nil => simp; exact .nil
  | cons r _ ih => cases k with
    | zero => exact .nil
    | succ k => exact .cons r (ih k)
theorem Vals.drop' {xs : List V} {us : List Value} (h : Vals xs us) (k : Nat) : Vals (xs.drop k) (us.drop k) := by
  induction h generalizing k with
  | nil => simp; exact .nil
  | cons r t ih => cases k with
    | zero => exact .cons r t
    | succ k => exact ih k
theorem Vals.app {xs ys : List V} {us vs : List Value} (h : Vals xs us) (h' : Vals ys vs) : Vals (xs ++ ys) (us ++ vs) := by
  induction h with
  | nil => exact h'
  | cons r _ ih => exact .cons r ih
theorem pg_star {X : Cx} {es : List Expr} {k : Nat} {t : TGs} {n i : Nat} {pos : Pos} (hc : X.calm = true) (h : PGs X es t) (hn : (assignEach es X.env).length = n) (hst : (assignEach es X.env).findIdx? (·.1) = some i) : PG X (.Tuple es k pos) (gStar X.K n i t) := by
  refine ⟨fun pins s σ H v u Q I r ⟨a, xs, e1, hq, hi, hle, hw⟩ => ?_⟩
  subst e1
  cases r
  obtain ⟨its, rv, ht, hz⟩ := I.tuple hq
  have hlen := rv.length
  rw [PyProof.Rows.assign_Tuple]
  refine wpAny_bind (wpAny_standAt ?_)
  unfold unpack
  rw [hn, hst]
  refine wpAny_bind (wpAny_holding (Gap.star_items ht (I.ok.hd hc) hi (by simp; omega) (by simp; omega) fun h2 tk hk => ?_))
  have hk' : ∀ b o, s.heap.get? b = some o → h2.get? b = some o := fun b o e => hk b o (Nat.ne_of_lt (Heap.lt_size e)) e
  have I1 : Inv X pins σ H { s with heap := h2, toks := tk } := I.kept (t' := tk) hk'
  have hf : H h2.objs.size = none := I1.hok.fresh (Nat.le_refl _)
  have e2 : (its.toArray.size + 1 - n) = xs.length + 1 - n := by simp; omega
  have e3 : its.toArray.toList = its := by simp
  rw [e2, e3]
  have hv2 : Vals ((xs.drop i).take (xs.length + 1 - n)) ((its.drop i).take (xs.length + 1 - n)) := Vals.take (Vals.drop' rv i) _
  have I2 := I1.laid (t' := tk) (a := h2.objs.size) (o := .lst ((xs.drop i).take (xs.length + 1 - n))) (fun b u e => Heap.get?_push_of_some { cls := .type "list", data := .seq ((its.drop i).take (xs.length + 1 - n)).toArray } e) (Nat.le_refl _)
    (⟨by rw [List.length_take, List.length_drop]; omega, _, 0, hv2, Heap.get?_push_size _ rfl⟩)
  exact h.run pins _ σ _ _ _ Q I2 (Vals.app (Vals.app (Vals.take rv i) (.cons (show RelV (V.ref h2.objs.size) (Value.ref h2.objs.size) from rfl) .nil)) (Vals.drop' (Vals.drop' rv i) _)) (hw _ hf)
section
variable {T : Tab} {G : Gp} {Γ : Cn}
theorem okG_star {es : List Expr} {ts : List MP.Tg} {k i : Nat} {pos : Pos} (h : OkGs G Γ es ts) (hl : ts.length = es.length := by rfl) (hn : ∀ env, (assignEach es env).length = es.length := by intro _; rfl) (hst : ∀ env, (assignEach es env).findIdx? (·.1) = some i := by intro _; rfl) : OkG G Γ (.Tuple es k pos) (.star i ts) := fun W X F => by
  refine PG.weak (pg_star (n := es.length) F.calm (h W X F) (hn X.env) (hst X.env)) fun x σ H Q ⟨ρ, σm, m, w, sr, hr, vr, p⟩ => ?_
  cases w with
  | tup vs =>
    unfold VR at vr
    obtain ⟨a, us, rfl, q, r⟩ := vr
    have p : Post G (SR G W) W ρ H Q (MP.Tg.starN Γ.f i ts vs σm m) := p
    unfold MP.Tg.starN at p
    cases e : (Nat.ble ts.length (vs.length + 1) && Nat.blt i ts.length) with
    | false => rw [e] at p; exact p.elim
    | true =>
      rw [e] at p
      obtain ⟨b1, b2⟩ := ba e
      have b1 : ts.length ≤ vs.length + 1 := Nat.le_of_ble_eq_true b1
      have b2 : i < ts.length := Nat.le_of_ble_eq_true b2
      have hul := r.length
      refine ⟨a, us, rfl, by rw [F.hK]; exact q, by omega, by omega, fun p' hp' => ?_⟩
      have p : Post G (SR G W) W ρ H Q (MP.asgs Γ.f ts (vs.take i ++ (MP.Val.ref m.n :: (vs.drop i).drop (vs.length + 1 - ts.length))) σm ⟨m.n + 1, m.t.set (.lst ((vs.drop i).take (vs.length + 1 - ts.length))) m.n⟩) := p
      rw [show us.length + 1 - es.length = vs.length + 1 - ts.length by rw [hul, hl]]
      have new : OR G (rhoAt ρ m.n p') (upd H p' (.lst ((us.drop i).take (vs.length + 1 - ts.length)))) p' (.lst ((vs.drop i).take (vs.length + 1 - ts.length))) :=
        ⟨_, upd_same, ((r.drop i).take _).mono (Le.new hr) (Keep.new hp')⟩
      obtain ⟨hr2, ex⟩ := hr.alloc hp' new
      refine ⟨_, σm, _, _, sr.ext ex, hr2, ?_, Post.at p ex⟩
      rw [List.append_assoc]
      refine ((r.ext ex).take i).append ?_
      show VRs G _ _ (_ :: _) (_ :: _)
      unfold VRs
      refine ⟨_, _, rfl, ?_, ((r.ext ex).drop i).drop _⟩
      unfold VR
      exact ⟨p', rfl, .inr rhoAt_self⟩
  | ref k => exact False.elim p
  | _ => exact False.elim p
/-- *x as a target: its own name -/
theorem okGs_star {e : Expr} {es : List Expr} {t : MP.Tg} {ts : List MP.Tg} {pos : Pos} (h : OkG G Γ e t) (hs : OkGs G Γ es ts) (ha : ∀ env, (assignEach (.Starred e pos :: es) env).map (·.2) = assign e env :: (assignEach es env).map (·.2) := by intro _; rfl) : OkGs G Γ (.Starred e pos :: es) (t :: ts) := fun W X F => by
  refine PGs.weak (⟨fun pins s σ H vs us Q I r ⟨x, rest, ex, q⟩ => ?_⟩ : PGs X (.Starred e pos :: es) (fun vs σ H Q => ∃ x r, vs = x :: r ∧ trG G Γ.f W t x σ H fun σ' H' => trGs G Γ.f W ts r σ' H' Q)) fun vs σ H Q ⟨ρ, σm, m, ws, sr, hr, vr, p⟩ => ?_
  · subst ex
    cases r with
    | cons r1 rr =>
      rw [ha X.env]
      have h1 := (h W X F).run pins s σ H x _ _ I r1 q
      refine wpAny_bind (wpAny_holding (wpAny_mono h1 (fun _ s1 hq => ?_) fun _ _ z => z))
      obtain ⟨σ1, H1, I1, q1⟩ := hq
      exact (hs W X F).run pins s1 σ1 H1 rest _ Q I1 rr q1
  · cases ws with
    | nil => exact False.elim p
    | cons w ws =>
      unfold VRs at vr
      obtain ⟨x, r, rfl, v1, v2⟩ := vr
      refine ⟨x, r, rfl, ρ, σm, m, w, sr, hr, v1, (Post.bind (Rl := SR G W) p).mono fun σ' H1 ⟨ρ1, σm', m1, e, ex, hr1, sr1, q⟩ => ?_⟩
      exact ⟨ρ1, σm', m1, ws, sr1, hr1, v2.ext ex, q⟩
end
end Snd
set_option Elab.async false
set_option linter.all false
set_option maxRecDepth 100000
set_option maxHeartbeats 4000000
/-! Der2: more rules as checks; what is not told. -/
namespace Snd
open PySem PySem.Spec PyProof.Rows L2
section
variable {T : Tab} {G : Gp} {Γ : Cn}
theorem o_bad {e : Expr} {n : Nat} : OkE G Γ e (.bad n) := fun W X F => ⟨fun _ _ _ _ _ _ ⟨_, _, _, _, _, p⟩ => p.elim⟩
theorem t_bad {e : Expr} {n : Nat} : OkT G Γ e (.bad n) := fun W X F => ⟨fun _ _ _ _ _ _ ⟨_, _, _, _, _, p⟩ => p.elim⟩
theorem w_bad {e : Expr} {n : Nat} : OkW G Γ e (.bad n) := fun W X F => ⟨fun _ _ _ _ _ _ _ ⟨_, _, _, _, _, p⟩ => p.elim⟩
theorem s_bad {s : Stmt} {n : Nat} : OkS G Γ s (.bad n) := fun W X F => ⟨fun _ _ _ _ _ _ ⟨_, _, _, _, _, p⟩ => p.elim⟩
theorem b_bad {s : List Stmt} {n : Nat} : OkB G Γ s [.bad n] := fun W X F => ⟨fun _ _ _ _ _ _ ⟨_, _, _, _, _, p⟩ => p.elim⟩
theorem h_bad {s : List Stmt} {n : Nat} : OkH G Γ s [.bad n] := fun W X F _ _ => ⟨fun _ _ _ _ _ _ ⟨_, _, _, _, _, p⟩ => p.elim⟩
theorem g_bad {e : Expr} {n : Nat} : OkG G Γ e (.bad n) := fun W X F => ⟨fun _ _ _ _ _ _ _ _ _ ⟨_, _, _, _, _, _, _, p⟩ => p.elim⟩
theorem go_bad {own : List Nat} {e : Expr} {n : Nat} : OkGo G Γ own e (.bad n) := fun W X F => ⟨fun _ _ _ _ _ _ _ _ _ ⟨_, _, _, _, _, _, _, p⟩ => p.elim⟩
theorem i_bad {tg e : Expr} {n : Nat} : OkI G Γ tg e (.bad n) := fun W X F => ⟨fun _ _ _ _ _ _ ⟨_, _, _, _, _, p⟩ => p.elim⟩
/-! ### lists' and dicts' own -/
theorem o_append {o e : Expr} {co c : MP.E} {apos cpos : Pos} (ho : OkE G Γ o co) (he : OkE G Γ e c)
    (hbase : ∀ env, attributeBase o "append" env (eval o env) = eval o env := by intro _; rfl)
    (hfew : ∀ env, ((backTo cpos (starEach [e] env)).all (fun x => !x.1) && (backToKw cpos (keywordEach [] env)).all (fun x => x.1.isSome)
      && decide (([e] : List Expr).length + ([] : List Keyword).length + (if ([] : List Keyword).isEmpty then 0 else 1) < 30)) = true := by intro _; rfl)
    (hline : (apos.endLine == cpos.line) = true := by rfl) (hs : ∀ env, starEach [e] env = (false, eval e env) :: starEach [] env := by intro _; rfl) : OkE G Γ (.Call (.Attribute o "append" apos) [e] [] cpos) (.mAppend co c) := by
  intro W X F
  exact ok_lm1 PySem.F.slot_list_append PySem.F.type_list_append (fun _ _ => append_ok) ho he hbase hfew hline hs W X F
theorem o_pop1 {o e : Expr} {co c : MP.E} {apos cpos : Pos} (ho : OkE G Γ o co) (he : OkE G Γ e c)
    (hbase : ∀ env, attributeBase o "pop" env (eval o env) = eval o env := by intro _; rfl)
    (hfew : ∀ env, ((backTo cpos (starEach [e] env)).all (fun x => !x.1) && (backToKw cpos (keywordEach [] env)).all (fun x => x.1.isSome)
      && decide (([e] : List Expr).length + ([] : List Keyword).length + (if ([] : List Keyword).isEmpty then 0 else 1) < 30)) = true := by intro _; rfl)
    (hline : (apos.endLine == cpos.line) = true := by rfl) (hs : ∀ env, starEach [e] env = (false, eval e env) :: starEach [] env := by intro _; rfl) : OkE G Γ (.Call (.Attribute o "pop" apos) [e] [] cpos) (.mPop1 co c) := by
  intro W X F
  exact ok_lm1 PySem.F.slot_list_pop PySem.F.type_list_pop (fun _ _ => pop1_ok) ho he hbase hfew hline hs W X F
theorem o_pop0 {o : Expr} {co : MP.E} {apos cpos : Pos} (ho : OkE G Γ o co)
    (hbase : ∀ env, attributeBase o "pop" env (eval o env) = eval o env := by intro _; rfl) (hline : (apos.endLine == cpos.line) = true := by rfl) : OkE G Γ (.Call (.Attribute o "pop" apos) [] [] cpos) (.mPop co) := by
  intro W X F
  exact ok_lm0 PySem.F.slot_list_pop PySem.F.type_list_pop (fun _ _ => pop_ok) ho hbase hline W X F
theorem o_setdef {o e g : Expr} {co c c2 : MP.E} {apos cpos : Pos} (ho : OkE G Γ o co) (he : OkE G Γ e c) (hg : OkE G Γ g c2)
    (hbase : ∀ env, attributeBase o "setdefault" env (eval o env) = eval o env := by intro _; rfl)
    (hfew : ∀ env, ((backTo cpos (starEach [e, g] env)).all (fun x => !x.1) && (backToKw cpos (keywordEach [] env)).all (fun x => x.1.isSome)
      && decide (([e, g] : List Expr).length + ([] : List Keyword).length + (if ([] : List Keyword).isEmpty then 0 else 1) < 30)) = true := by intro _; rfl)
    (hline : (apos.endLine == cpos.line) = true := by rfl) (ht : ∀ env, backTo cpos (starEach [e, g] env) = [(false, eval e env), (false, eval g env)] := by intro _; rfl) : OkE G Γ (.Call (.Attribute o "setdefault" apos) [e, g] [] cpos) (.mSetdefault co c c2) :=
  ok_dsetd ho he hg fun X => ⟨hbase X.env, hfew X.env, hline, ht X.env⟩
theorem o_get2 {o e g : Expr} {co c c2 : MP.E} {apos cpos : Pos} (ho : OkE G Γ o co) (he : OkE G Γ e c) (hg : OkE G Γ g c2)
    (hbase : ∀ env, attributeBase o "get" env (eval o env) = eval o env := by intro _; rfl)
    (hfew : ∀ env, ((backTo cpos (starEach [e, g] env)).all (fun x => !x.1) && (backToKw cpos (keywordEach [] env)).all (fun x => x.1.isSome)
      && decide (([e, g] : List Expr).length + ([] : List Keyword).length + (if ([] : List Keyword).isEmpty then 0 else 1) < 30)) = true := by intro _; rfl)
    (hline : (apos.endLine == cpos.line) = true := by rfl) (ht : ∀ env, backTo cpos (starEach [e, g] env) = [(false, eval e env), (false, eval g env)] := by intro _; rfl) : OkE G Γ (.Call (.Attribute o "get" apos) [e, g] [] cpos) (.mGet2 co c c2) :=
  ok_dget2 ho he hg fun X => ⟨hbase X.env, hfew X.env, hline, ht X.env⟩
theorem o_get1 {o e : Expr} {co c : MP.E} {apos cpos : Pos} (ho : OkE G Γ o co) (he : OkE G Γ e c)
    (hbase : ∀ env, attributeBase o "get" env (eval o env) = eval o env := by intro _; rfl)
    (hfew : ∀ env, ((backTo cpos (starEach [e] env)).all (fun x => !x.1) && (backToKw cpos (keywordEach [] env)).all (fun x => x.1.isSome)
      && decide (([e] : List Expr).length + ([] : List Keyword).length + (if ([] : List Keyword).isEmpty then 0 else 1) < 30)) = true := by intro _; rfl)
    (hline : (apos.endLine == cpos.line) = true := by rfl) (ht : ∀ env, backTo cpos (starEach [e] env) = [(false, eval e env)] := by intro _; rfl) : OkE G Γ (.Call (.Attribute o "get" apos) [e] [] cpos) (.mGet co c) :=
  ok_dget1 ho he fun X => ⟨hbase X.env, hfew X.env, hline, ht X.env⟩
/-! ### isinstance -/
theorem o_isi {e : Expr} {c : MP.E} {y : Str} {t0 : MP.Ty} {pp p2 pos : Pos} (t : Tie T G Γ.f) (U : String) (h : OkE G Γ e c) (hb : bltB T Γ "isinstance" = true) (hy : bltB T Γ y = true) (ht : tyT t0 = some U) (hv : bootBuiltins y = some (.type U)) (hp : (decide (y ≠ "__name__") && plainNm y) = true)
    (he : ∀ env, starEach [e, .Name y p2] env = (false, eval e env) :: starEach [.Name y p2] env := by intro _; rfl) (he2 : ∀ env, starEach [.Name y p2] env = (false, eval (.Name y p2) env) :: starEach [] env := by intro _; rfl) (hpl : ∀ env, (backTo pos (starEach [.Name y p2] env)).any (·.1) = false := by intro _; rfl) :
    OkE G Γ (.Call (.Name "isinstance" pp) [e, .Name y p2] [] pos) (.isi c [t0]) :=
  ok_isi1 (blt t hb) (blt t hy) ht h hv (of_decide_eq_true (ba hp).1) (plain1 (ba hp).2) he he2 hpl
/-! ### a, b = x, y -/
theorem s_par {x y : Str} {a b : Expr} {i j : Nat} {ca cb : MP.E} {px py pt pos : Pos} {kt k2 : Nat} {pt2 : Pos} (h : (decide (Γ.N[i]? = some x) && (decide (Γ.N[j]? = some y) && (decide (i ≠ j) && (Γ.opn && (isK Γ.sc x .local && isK Γ.sc y .local))))) = true) (ha : OkA G Γ [a, b] [ca, cb])
    (hw : ∀ env : Env, env.scope = Γ.sc → swappedStores [.Tuple [.Name x px, .Name y py] kt pt] (.Tuple [a, b] k2 pt2) env = pure (some [x, y]))
    (hs : ∀ env, swapsWithSole [.Tuple [.Name x px, .Name y py] kt pt] (.Tuple [a, b] k2 pt2) pos.line env = pure false := by intro _; rfl) : OkS G Γ (.Assign [.Tuple [.Name x px, .Name y py] kt pt] (.Tuple [a, b] k2 pt2) pos) (.asg (.tup [.loc i, .loc j]) (.tup [ca, cb])) := by
  obtain ⟨h1, h⟩ := ba h
  obtain ⟨h2, h⟩ := ba h
  obtain ⟨h3, h⟩ := ba h
  obtain ⟨h4, h⟩ := ba h
  obtain ⟨h5, h6⟩ := ba h
  exact okS_par (of_decide_eq_true h1) (of_decide_eq_true h2) (of_decide_eq_true h3) h4 (isK_of h5) (isK_of h6) ha hw hs
end
end Snd
set_option Elab.async false
set_option linter.all false
set_option maxRecDepth 100000
set_option maxHeartbeats 4000000
/-! End: all defs of a program from their bodies; the facts of the top; the law's end. -/
namespace Snd
open PySem PySem.Spec PyProof.Rows L2
/-! ### a def's text -/
def scopeB (N P : List Str) (sc : Scope) : Bool :=
  decide (sc.kind = .function) && (!sc.isCoroutine && (!sc.isGenerator && (decide N.Nodup && (decide (N.take P.length = P) && (P.all (fun x => decide (sc.names.lookup x = some .local) || decide (sc.names.lookup x = some .cell)) && (sc.names.all (fun y => !decide (y.2 = .free)) && decide (P.length ≤ N.length)))))))
theorem scope_of {N P : List Str} {sc : Scope} (h : scopeB N P sc = true) : FnScope N P sc ∧ P.length ≤ N.length := by
  obtain ⟨h1, h⟩ := ba h
  obtain ⟨h2, h⟩ := ba h
  obtain ⟨h3, h⟩ := ba h
  obtain ⟨h4, h⟩ := ba h
  obtain ⟨h5, h⟩ := ba h
  obtain ⟨h6, h⟩ := ba h
  obtain ⟨h7, h8⟩ := ba h
  refine ⟨⟨of_decide_eq_true h1, by simpa using h2, by simpa using h3, of_decide_eq_true h4, of_decide_eq_true h5, fun x hx => ?_, fun y hy => ?_⟩, of_decide_eq_true h8⟩
  · have := List.all_eq_true.mp h6 x hx
    rcases Bool.or_eq_true_iff.mp this with q | q
    · exact .inl (of_decide_eq_true q)
    · exact .inr (of_decide_eq_true q)
  · have := List.all_eq_true.mp h7 y hy
    intro e
    rw [e] at this
    cases this
structure Entry (e : DT) : Prop where
  sc : scopeB e.N e.ps (defScope e.st) = true
  bd : ∀ (kV doc pm : Value) (an : Option Addr) (cdv ct : Value) (us : List Value), us.length = e.ps.length → bindArgs (PySem.W.fnOf e.name e.qual (defArgs e.st) (defBody e.st) (defScope e.st) .none kV doc pm an cdv ct) ⟨us, []⟩ = pure (e.ps.zip us)
  np : e.fn.np = e.ps.length
  ns : e.fn.ns = e.N.length
/-! ### trees of lists -/
def alt {α : Type} : List α → List α × List α
  | [] => ([], [])
  | x :: r => (x :: (alt r).2, (alt r).1)
def treeOf {α : Type} : Nat → List α → MP.Tree α
  | 0, _ => .nil
  | _ + 1, [] => .nil
  | n + 1, x :: r => .node x (treeOf n (alt r).1) (treeOf n (alt r).2)
theorem alt_get {α : Type} : ∀ (l : List α) (i : Nat), (alt l).1[i]? = l[2 * i]? ∧ (alt l).2[i]? = l[2 * i + 1]?
  | [], i => by simp [alt]
  | x :: r, 0 => by
    have h := alt_get r 0
    show (x :: (alt r).2)[0]? = _ ∧ (alt r).1[0]? = _
    rw [h.1]
    simp
  | x :: r, i + 1 => by
    have h := alt_get r (i + 1)
    have h2 := alt_get r i
    show (x :: (alt r).2)[i + 1]? = _ ∧ (alt r).1[i + 1]? = _
    rw [h.1]
    refine ⟨?_, rfl⟩
    rw [List.getElem?_cons_succ, h2.2]
    show _ = (x :: r)[(2 * i + 1) + 1]?
    rw [List.getElem?_cons_succ]
theorem alt_len {α : Type} : ∀ l : List α, (alt l).1.length ≤ l.length ∧ (alt l).2.length ≤ l.length
  | [] => by simp [alt]
  | x :: r => by
    have h := alt_len r
    show (x :: (alt r).2).length ≤ _ ∧ (alt r).1.length ≤ _
    simp
    omega
theorem tree_get {α : Type} : ∀ (n : Nat) (l : List α) (i : Nat), l.length ≤ n → (treeOf n l).get i = l[i]?
  | 0, l, i, h => by
    have : l = [] := List.eq_nil_of_length_eq_zero (by omega)
    subst this
    rfl
  | n + 1, [], i, h => rfl
  | n + 1, x :: r, i, h => by
    have hl := alt_len r
    simp only [List.length_cons] at h
    show (match Nat.beq i 0 with | true => some x | false => match Nat.beq (i % 2) 1 with | true => (treeOf n (alt r).1).get (i / 2) | false => (treeOf n (alt r).2).get (i / 2 - 1)) = _
    by_cases h0 : i = 0
    · subst h0; rfl
    · rw [beqF h0]
      obtain ⟨j, rfl⟩ : ∃ j, i = j + 1 := ⟨i - 1, by omega⟩
      rw [List.getElem?_cons_succ]
      by_cases h1 : (j + 1) % 2 = 1
      · have : Nat.beq ((j + 1) % 2) 1 = true := by rw [Nat.beq_eq]; exact h1
        rw [this]
        show (treeOf n (alt r).1).get ((j + 1) / 2) = _
        rw [tree_get n _ _ (by omega), (alt_get r _).1]
        congr 1
        omega
      · rw [beqF h1]
        show (treeOf n (alt r).2).get ((j + 1) / 2 - 1) = _
        rw [tree_get n _ _ (by omega), (alt_get r _).2]
        congr 1
        omega
/-! ### all calls -/
section
variable {P : Program} {w : World} {base : Heap} {T : Tab} {G : Gp}
theorem tie_of (F : Facts T G) (en : ∀ (g : Nat) (e : DT), T.fns[g]? = some e → Entry e) (ft : ∀ (g : Nat), T.p.fns.get g = (T.fns[g]?).map (·.fn)) : ∀ n, Tie T G (MP.cxN T.p T.eqm n)
  | 0 => ⟨F, rfl, fun i fa fd ps h vs m hl => ⟨108, rfl⟩⟩
  | n + 1 => ⟨F, rfl, fun i fa fd ps h vs m hl => by
    obtain ⟨e, he⟩ := F.fnN i _ h
    obtain ⟨fa', fd', h', _⟩ := F.fn i e he
    rw [h] at h'
    cases h'
    show ∃ k, (match T.p.fns.get i with | some fn => MP.runFn fn (MP.cxN T.p T.eqm n) vs m | .none => .bad 109) = .bad k
    rw [ft, he]
    show ∃ k, MP.runFn e.fn _ vs m = _
    unfold MP.runFn
    rw [(en i e he).np, beqF hl]
    exact ⟨_, rfl⟩⟩
theorem calls_of (F : Facts T G) (en : ∀ (g : Nat) (e : DT), T.fns[g]? = some e → Entry e) (ft : ∀ (g : Nat), T.p.fns.get g = (T.fns[g]?).map (·.fn))
    (bodies : ∀ (g : Nat) (e : DT) (cx : MP.Cx) (d : Nat), T.fns[g]? = some e → Tie T G cx → 0 < d → OkB G ⟨e.N, defScope e.st, cx, d, fun _ => true, true, true⟩ (defBody e.st) e.fn.body) : ∀ n g, CallOk G P w base (MP.cxN T.p T.eqm n) (2 * n) g
  | 0, g => fun f fd ps hfn A outer s H args us vs Q W ρ ws m hr e0 hbt r hm hv hl p => p.elim
  | n + 1, g => by
    cases he : T.fns[g]? with
    | none =>
      intro f fd ps hfn A outer s H args us vs Q W ρ ws m hr e0 hbt r hm hv hl p
      have p : Post G (VR G) W ρ H Q (match T.p.fns.get g with | some fn => MP.runFn fn (MP.cxN T.p T.eqm n) ws m | .none => .bad 109) := p
      rw [ft, he] at p
      exact p.elim
    | some e =>
      have E := en g e he
      refine callOk_of (d := 2 * n + 1) (cx := MP.cxN T.p T.eqm n) (name := e.name) (qual := e.qual) (st := e.st) (N := e.N) (fn := e.fn) (fun vs m => ?_) E.ns (fun f fd ps hfn => ?_) (bodies g e _ _ he (tie_of F en ft n) (Nat.succ_pos _)) (fun g' => calls_of F en ft bodies n g')
      · show (match T.p.fns.get g with | some fn => MP.runFn fn (MP.cxN T.p T.eqm n) vs m | .none => .bad 109) = _
        rw [ft, he]
        rfl
      · obtain ⟨fa', fd', h', _, _, hb, _⟩ := F.fn g e he
        rw [hfn] at h'
        cases h'
        exact ⟨hb, scope_of E.sc⟩
end
end Snd
set_option Elab.async false
set_option linter.all false
set_option maxRecDepth 100000
set_option maxHeartbeats 4000000
/-! Top: the facts of a program's top, off its table. -/
namespace Snd
open PySem PySem.Spec PyProof.Rows L2
/-! ### names of attributes -/
def nmF (l : List Str) (i : Nat) : Str := match l[i]? with
  | some x => x
  | none => ⟨(List.replicate (i + 200) 0).toArray⟩
def nmOk (l : List Str) : Bool := decide l.Nodup && l.all fun x => Nat.blt x.cps.size 200
theorem nmF_inj {l : List Str} (h : nmOk l = true) (i j : Nat) (e : nmF l i = nmF l j) : i = j := by
  obtain ⟨h1, h2⟩ := ba h
  have h1 := of_decide_eq_true h1
  have short : ∀ x ∈ l, x.cps.size < 200 := fun x hx => Nat.le_of_ble_eq_true (List.all_eq_true.mp h2 x hx)
  have lng : ∀ k : Nat, (⟨(List.replicate (k + 200) 0).toArray⟩ : Str).cps.size = k + 200 := fun k => by simp
  unfold nmF at e
  cases a : l[i]? with
  | none =>
    cases b : l[j]? with
    | none =>
      rw [a, b] at e
      have := congrArg (fun x : Str => x.cps.size) e
      simp only [lng] at this
      omega
    | some y =>
      rw [a, b] at e
      have z := short y (List.mem_of_getElem? b)
      have e : (⟨(List.replicate (i + 200) 0).toArray⟩ : Str) = y := e
      rw [← e, lng] at z
      omega
  | some x =>
    cases b : l[j]? with
    | none =>
      rw [a, b] at e
      have z := short x (List.mem_of_getElem? a)
      have e : x = (⟨(List.replicate (j + 200) 0).toArray⟩ : Str) := e
      rw [e, lng] at z
      omega
    | some y =>
      rw [a, b] at e
      have e : x = y := e
      subst e
      obtain ⟨hi, ei⟩ := List.getElem?_eq_some_iff.mp a
      obtain ⟨hj, ej⟩ := List.getElem?_eq_some_iff.mp b
      rcases Nat.lt_trichotomy i j with z | z | z
      · exact absurd (ei.trans ej.symm) (List.pairwise_iff_getElem.mp h1 i j hi hj z)
      · exact z
      · exact absurd (ej.trans ei.symm) (List.pairwise_iff_getElem.mp h1 j i hj hi z)
/-! ### constants -/
def conBs (f : MP.Val → Value → Bool) : List MP.Val → List Value → Bool
  | [], us => match us with
    | [] => true
    | _ :: _ => false
  | v :: vs, us => match us with
    | [] => false
    | u :: us => f v u && conBs f vs us
def conB (K : PySem.W.Frag) : Nat → MP.Val → Value → Bool
  | 0 => fun _ _ => false
  | n + 1 => fun c u => match c with
    | .none => (match u with
      | .none => true
      | _ => false)
    | .bool b => (match u with
      | .bool d => b == d
      | _ => false)
    | .int i => (match u with
      | .int j _ => decide (i = j)
      | _ => false)
    | .str s => (match u with
      | .str y _ => strB y s
      | _ => false)
    | .tup vs => (match u with
      | .ref a => (match K.lookup a with
        | some ⟨.type c, _, .seq its _, _⟩ => decide (c = "tuple") && (decide (its.size ≤ sizeLine) && conBs (conB K n) vs its.toList)
        | _ => false)
      | _ => false)
    | _ => false
theorem conBs_ok {K : PySem.W.Frag} {f : MP.Val → Value → Bool} (hf : ∀ c u, f c u = true → ∃ v, RelV v u ∧ ∀ (G : Gp), G.K = K → ∀ ρ H, VR G ρ H c v) : ∀ (vs : List MP.Val) (us : List Value), conBs f vs us = true → ∃ xs, Vals xs us ∧ ∀ (G : Gp), G.K = K → ∀ ρ H, VRs G ρ H vs xs
  | [], [], _ => ⟨[], .nil, fun G _ ρ H => by unfold VRs; rfl⟩
  | [], _ :: _, h => by cases h
  | _ :: _, [], h => by cases h
  | v :: vs, u :: us, h => by
    obtain ⟨h1, h2⟩ := ba (show (f v u && conBs f vs us) = true from h)
    obtain ⟨x, r, q⟩ := hf v u h1
    obtain ⟨xs, rs, qs⟩ := conBs_ok hf vs us h2
    exact ⟨x :: xs, .cons r rs, fun G hG ρ H => by unfold VRs; exact ⟨x, xs, rfl, q G hG ρ H, qs G hG ρ H⟩⟩
theorem conB_ok {K : PySem.W.Frag} : ∀ (n : Nat) (c : MP.Val) (u : Value), conB K n c u = true → ∃ v, RelV v u ∧ ∀ (G : Gp), G.K = K → ∀ ρ H, VR G ρ H c v
  | 0, _, _, h => by cases h
  | n + 1, c, u, h => by
    cases c with
    | none => cases u with
      | none => exact ⟨.non, rfl, fun G _ ρ H => rfl⟩
      | _ => cases h
    | bool b => cases u with
      | bool d =>
        have e : b = d := eq_of_beq (show (b == d) = true from h)
        subst e
        exact ⟨.bl b, rfl, fun G _ ρ H => rfl⟩
      | _ => cases h
    | int i => cases u with
      | int j t =>
        have e : i = j := of_decide_eq_true h
        subst e
        exact ⟨.int i, ⟨t, rfl⟩, fun G _ ρ H => rfl⟩
      | _ => cases h
    | str s => cases u with
      | str y t =>
        obtain ⟨e1, e2⟩ := strB_ok (show strB y s = true from h)
        exact ⟨.str y, ⟨t, rfl⟩, fun G _ ρ H => ⟨by rw [e1], e2⟩⟩
      | _ => cases h
    | tup vs => cases u with
      | ref a =>
        have h : (match K.lookup a with
          | some ⟨.type c, _, .seq its _, _⟩ => decide (c = "tuple") && (decide (its.size ≤ sizeLine) && conBs (conB K n) vs its.toList)
          | _ => false) = true := h
        cases e : K.lookup a with
        | none => rw [e] at h; cases h
        | some o =>
          obtain ⟨oc, od, dt, osl⟩ := o
          rw [e] at h
          cases oc with
          | type c =>
            cases dt with
            | seq its m =>
              obtain ⟨h1, h2⟩ := ba (show (decide (c = "tuple") && (decide (its.size ≤ sizeLine) && conBs (conB K n) vs its.toList)) = true from h)
              obtain ⟨h3, h4⟩ := ba h2
              obtain ⟨xs, r, q⟩ := conBs_ok (conB_ok n) vs its.toList h4
              refine ⟨.ref a, rfl, fun G hG ρ H => ?_⟩
              unfold VR
              exact ⟨a, xs, rfl, .inr ⟨_, its, m, by rw [hG]; exact e, congrArg Value.type (of_decide_eq_true h1), rfl, of_decide_eq_true h3, r⟩, q G hG ρ H⟩
            | _ => cases h
          | _ => cases dt <;> cases h
      | _ => cases h
    | _ => cases h
/-! ### the table's facts -/
def DT.d (e : DT) : He.DefD := ⟨e.at_, e.name, e.qual, defArgs e.st, defBody e.st, defScope e.st, [], []⟩
def isExcK : MP.CK → Bool
  | .exc _ _ => true
  | .inst => false
def CT.fa (nm : List Str) (c : CT) : List He.Fa := .glo c.name :: (match c.k.kind with
  | .inst => .cls c.name :: (c.k.flds.map (fun fl => .noat c.name (nmF nm fl)) ++ (c.k.meths.map (fun q => .meth c.name (nmF nm q.1)) ++ (match c.k.init with
    | some _ => [.mkr c.name]
    | none => [])))
  | .exc _ none => [.exc c.name]
  | .exc _ (some _) => [])
def Tab.exm (T : Tab) : List He.Fa := T.cls.flatMap fun d => (List.range T.cls.length).filterMap fun c => match T.cls[c]? with
  | some e => if isExcK d.k.kind && isExcK e.k.kind then some (.exm d.name e.name (MP.hasN c d.k.anc)) else none
  | none => none
def Tab.fa (T : Tab) : List He.Fa := (T.fns.filterMap fun e => match e.at_.2 with
  | none => some (.glo e.at_.1)
  | some _ => none) ++ (T.cls.flatMap (CT.fa T.nm) ++ (T.exm ++ T.free.map .free))
def Tab.ex (T : Tab) (K : PySem.W.Frag) : Bool := T.con.all fun q => match PySem.W.nsIn K mainGlobals q.1 with
  | some (some u) => conB K 9 q.2 u
  | _ => false
def Tab.good (T : Tab) : Bool := nmOk T.nm && T.cls.all fun c => (match c.k.kind with
  | .inst => c.k.meths.all (fun q => match T.fns[q.2]? with
      | some e => decide (e.at_ = (c.name, some (nmF T.nm q.1)))
      | none => false) && (match c.k.init with
    | some i => (match T.fns[i]? with
      | some e => decide (e.at_ = (c.name, some ("__init__" : Str)))
      | none => false)
    | none => true)
  | _ => decide (c.k.meths = []) && decide (c.k.flds = []))
def mkG (T : Tab) (K : PySem.W.Frag) (mg : Str → Option Value) (ro : List Addr) (h : nmOk T.nm = true) : Gp where
  K := K
  nm := nmF T.nm
  nmi := nmF_inj h
  ca := fun c => (T.cls[c]?).map fun e => He.ga K e.name
  mg := mg
  ro := ro
  fn := fun g => match T.fns[g]? with
    | some e => (match K.lookup (He.fAd K e.at_) with
      | some ⟨_, _, .func fd, _⟩ => some (He.fAd K e.at_, fd, e.ps)
      | _ => none)
    | none => none
section
variable {T : Tab} {K : PySem.W.Frag} {h : Heap} {mg : Str → Option Value} {ro : List Addr}
theorem SaysD.in_ {fa : List He.Fa} {fn : List He.DefD} (c : He.SaysD fa fn K) {f : He.Fa} (hf : f ∈ fa) : f.ok K = true := by
  obtain ⟨i, hi⟩ := List.getElem?_of_mem hf
  exact c.fact i hi
theorem facts_of (X : K.In h) (N : h.Ns mainGlobals mg) (c : He.SaysD T.fa (T.fns.map DT.d) K) (ex : T.ex K = true) (good : T.good = true) (hc : T.p.classes = treeOf T.cls.length (T.cls.map (·.k))) (en : ∀ (g : Nat) (e : DT), T.fns[g]? = some e → Entry e) (hn : nmOk T.nm = true) : Facts T (mkG T K mg ro hn) := by
  have faA : ∀ {f}, f ∈ T.fns.filterMap (fun e => match e.at_.2 with | none => some (He.Fa.glo e.at_.1) | some _ => none) → f.ok K = true := fun hf => SaysD.in_ c (List.mem_append_left _ hf)
  have faC : ∀ {e f}, e ∈ T.cls → f ∈ CT.fa T.nm e → f.ok K = true := fun he hf => SaysD.in_ c (List.mem_append_right _ (List.mem_append_left _ (List.mem_flatMap.mpr ⟨_, he, hf⟩)))
  have faE : ∀ {f}, f ∈ T.exm → f.ok K = true := fun hf => SaysD.in_ c (List.mem_append_right _ (List.mem_append_right _ (List.mem_append_left _ hf)))
  have faF : ∀ {x}, x ∈ T.free → (He.Fa.free x).ok K = true := fun hf => SaysD.in_ c (List.mem_append_right _ (List.mem_append_right _ (List.mem_append_right _ (List.mem_map.mpr ⟨_, hf, rfl⟩))))
  have gcl : ∀ {cc : Nat} {k : MP.Cls}, T.p.classes.get cc = some k → ∃ e, T.cls[cc]? = some e ∧ e.k = k := fun {cc k} e => by
    rw [hc, tree_get _ _ _ (by simp), List.getElem?_map] at e
    obtain ⟨e1, h1, h2⟩ := Option.map_eq_some_iff.mp e
    exact ⟨e1, h1, h2⟩
  have gca : ∀ {cc : Nat} {C : Addr}, (mkG T K mg ro hn).ca cc = some C → ∃ e, T.cls[cc]? = some e ∧ C = He.ga K e.name := fun {cc C} e => by
    obtain ⟨e1, h1, h2⟩ := Option.map_eq_some_iff.mp (show (T.cls[cc]?).map (fun e => He.ga K e.name) = some C from e)
    exact ⟨e1, h1, h2.symm⟩
  have caOf : ∀ {cc : Nat} {e : CT}, T.cls[cc]? = some e → (mkG T K mg ro hn).ca cc = some (He.ga K e.name) := fun {cc e} h1 => by
    show (T.cls[cc]?).map (fun e => He.ga K e.name) = _
    rw [h1]
    rfl
  have goodC : ∀ {e}, e ∈ T.cls → (match e.k.kind with
      | .inst => e.k.meths.all (fun q => match T.fns[q.2]? with
          | some d => decide (d.at_ = (e.name, some (nmF T.nm q.1)))
          | none => false) && (match e.k.init with
        | some i => (match T.fns[i]? with
          | some d => decide (d.at_ = (e.name, some ("__init__" : Str)))
          | none => false)
        | none => true)
      | _ => decide (e.k.meths = []) && decide (e.k.flds = [])) = true := fun he => List.all_eq_true.mp (ba good).2 _ he
  -- a def
  have dOf : ∀ {g : Nat} {e : DT}, T.fns[g]? = some e → ∃ fd, (mkG T K mg ro hn).fn g = some (He.fAd K e.at_, fd, e.ps) ∧ FunD K e.name e.qual (defArgs e.st) (defBody e.st) (defScope e.st) [] [] (He.fAd K e.at_) fd := fun {g e} he => by
    obtain ⟨fd, F⟩ := c.def_ g (d := e.d) (by rw [List.getElem?_map, he]; rfl)
    have F : FunD K e.name e.qual (defArgs e.st) (defBody e.st) (defScope e.st) [] [] (He.fAd K e.at_) fd := F
    refine ⟨fd, ?_, F⟩
    obtain ⟨oc, od, dV, kV, doc, pm, an, cdv, ct, osl, _, lk, _⟩ := F.ex
    show (match T.fns[g]? with | some e => (match K.lookup (He.fAd K e.at_) with | some ⟨_, _, .func fd, _⟩ => some (He.fAd K e.at_, fd, e.ps) | _ => none) | none => none) = _
    rw [he]
    simp only
    rw [lk]
  have bOf : ∀ {g : Nat} {e : DT} {fd : FuncData}, T.fns[g]? = some e → FunD K e.name e.qual (defArgs e.st) (defBody e.st) (defScope e.st) [] [] (He.fAd K e.at_) fd → Binds K fd e.ps [] := fun {g e fd} he F => F.bindsN (en g e he).bd
  refine ⟨fun i x hx => ?_, fun g e he => ?_, fun g f hf => ?_, fun cc e he => ?_, fun k x v hk => ?_, fun x hx => He.free_ok X N (faF hx), ⟨fun cc C fl hC hfl => ?_, fun cc C n g hC hm => ?_, fun cc k i hk hkind hi => ?_⟩, fun d cc D C b hd hcc hD hC hb => ?_, fun cc e he => ?_, fun cc e ve he hk => ?_⟩
  · show nmF T.nm i = x
    unfold nmF
    rw [hx]
  · obtain ⟨fd, h1, F⟩ := dOf he
    refine ⟨_, fd, h1, F.kp, bOf he F, ⟨?_⟩, fun hat => ?_⟩
    · obtain ⟨oc, od, dV, kV, doc, pm, an, cdv, ct, osl, e1, lk, hcd, hD, _⟩ := F.ex
      rcases hD with ⟨_, rfl⟩ | ⟨z, _⟩
      · exact ⟨oc, od, kV, doc, pm, an, cdv, ct, osl, e1, lk, hcd⟩
      · exact absurd rfl z
    · have := He.glo_ok X N (faA (f := .glo e.at_.1) (List.mem_filterMap.mpr ⟨e, List.mem_of_getElem? he, by rw [hat]⟩))
      show mg e.at_.1 = _
      rw [this]
      unfold He.fAd
      rw [hat]
  · cases he : T.fns[g]? with
    | some e => exact ⟨e, rfl⟩
    | none =>
      have hf : (match T.fns[g]? with | some e => (match K.lookup (He.fAd K e.at_) with | some ⟨_, _, .func fd, _⟩ => some (He.fAd K e.at_, fd, e.ps) | _ => none) | none => none) = some f := hf
      rw [he] at hf
      cases hf
  · exact ⟨_, caOf he, He.glo_ok X N (faC (List.mem_of_getElem? he) List.mem_cons_self)⟩
  · have h1 := List.all_eq_true.mp ex (x, v) (List.mem_of_getElem? hk)
    have h1 : (match PySem.W.nsIn K mainGlobals x with | some (some u) => conB K 9 v u | _ => false) = true := h1
    cases e : PySem.W.nsIn K mainGlobals x with
    | none => rw [e] at h1; cases h1
    | some o =>
      rw [e] at h1
      cases o with
      | none => cases h1
      | some u =>
        obtain ⟨y, r, q⟩ := conB_ok 9 v u h1
        exact ⟨u, y, PySem.W.mg_of X N e, r, fun ρ H => q _ rfl ρ H⟩
  · obtain ⟨e, he, rfl⟩ := gca hC
    unfold MP.Tg.hasF at hfl
    rw [hc, tree_get _ _ _ (by simp), List.getElem?_map, he] at hfl
    have hfl : MP.hasN fl e.k.flds = true := hfl
    have hmem : fl ∈ e.k.flds := by
      have aux : ∀ l : List Nat, MP.hasN fl l = true → fl ∈ l := by
        intro l
        induction l with
        | nil => intro z; cases z
        | cons a r ih =>
          intro z
          have z : (match Nat.beq a fl with | true => true | false => MP.hasN fl r) = true := z
          cases q : Nat.beq a fl with
          | true => rw [Nat.eq_of_beq_eq_true q]; exact List.mem_cons_self
          | false => rw [q] at z; exact List.mem_cons_of_mem _ (ih z)
      exact aux _ hfl
    have hm := List.mem_of_getElem? he
    have hg := goodC hm
    cases hk : e.k.kind with
    | inst =>
      refine He.noat_ok (faC hm ?_)
      unfold CT.fa
      rw [hk]
      exact List.mem_cons_of_mem _ (List.mem_cons_of_mem _ (List.mem_append_left _ (List.mem_map.mpr ⟨fl, hmem, rfl⟩)))
    | exc a b =>
      rw [hk] at hg
      have := of_decide_eq_true (ba hg).2
      rw [this] at hmem
      cases hmem
  · obtain ⟨e, he, rfl⟩ := gca hC
    unfold MP.methC at hm
    rw [hc, tree_get _ _ _ (by simp), List.getElem?_map, he] at hm
    have hm : MP.asc n e.k.meths = some g := hm
    have hmem : (n, g) ∈ e.k.meths := by
      have aux : ∀ l : List (Nat × Nat), MP.asc n l = some g → (n, g) ∈ l := by
        intro l
        induction l with
        | nil => intro z; cases z
        | cons a r ih =>
          intro z
          have z : (match Nat.beq a.1 n with | true => some a.2 | false => MP.asc n r) = some g := z
          cases q : Nat.beq a.1 n with
          | true =>
            rw [q] at z
            cases z
            have := Nat.eq_of_beq_eq_true q
            subst this
            exact List.mem_cons_self
          | false => rw [q] at z; exact List.mem_cons_of_mem _ (ih z)
      exact aux _ hm
    have hm1 := List.mem_of_getElem? he
    have hg := goodC hm1
    cases hk : e.k.kind with
    | inst =>
      rw [hk] at hg
      have h2 := List.all_eq_true.mp (ba hg).1 (n, g) hmem
      cases hd : T.fns[g]? with
      | none => simp only [hd] at h2; cases h2
      | some d =>
        simp only [hd] at h2
        have hat := of_decide_eq_true h2
        obtain ⟨fd, h3, F⟩ := dOf hd
        refine ⟨_, fd, d.ps, h3, ?_, bOf hd F⟩
        have M := He.meth_ok (faC hm1 (f := .meth e.name (nmF T.nm n)) (by
          unfold CT.fa
          rw [hk]
          exact List.mem_cons_of_mem _ (List.mem_cons_of_mem _ (List.mem_append_right _ (List.mem_append_left _ (List.mem_map.mpr ⟨(n, g), hmem, rfl⟩))))))
        rw [hat]
        exact M
    | exc a b =>
      rw [hk] at hg
      have := of_decide_eq_true (ba hg).1
      rw [this] at hmem
      cases hmem
  · obtain ⟨e, he, rfl⟩ := gcl hk
    have hm1 := List.mem_of_getElem? he
    have hg := goodC hm1
    rw [hkind] at hg
    have h2 := (ba hg).2
    rw [hi] at h2
    cases hd : T.fns[i]? with
    | none => simp only [hd] at h2; cases h2
    | some d =>
      simp only [hd] at h2
      have hat := of_decide_eq_true h2
      obtain ⟨fd, h3, F⟩ := dOf hd
      refine ⟨_, _, fd, d.ps, caOf he, ?_, h3, ?_, bOf hd F⟩
      · refine He.cls_ok (faC hm1 ?_)
        unfold CT.fa
        rw [hkind]
        exact List.mem_cons_of_mem _ List.mem_cons_self
      · have M := He.mkr_ok (faC hm1 (f := .mkr e.name) (by
          unfold CT.fa
          rw [hkind]
          refine List.mem_cons_of_mem _ (List.mem_cons_of_mem _ (List.mem_append_right _ (List.mem_append_right _ ?_)))
          rw [hi]
          exact List.mem_cons_self))
        rw [hat]
        exact M
  · obtain ⟨e, he, rfl⟩ := gca hD
    obtain ⟨e', he', rfl⟩ := gca hC
    have kd : ∀ {q : Nat} {z : CT}, T.cls[q]? = some z → (MP.excVE T.p.classes q).isSome = true → isExcK z.k.kind = true := fun {q z} hz hx => by
      unfold MP.excVE at hx
      rw [hc, tree_get _ _ _ (by simp), List.getElem?_map, hz] at hx
      have hx : (match z.k.kind with | .exc ve _ => some ve | .inst => none).isSome = true := hx
      cases hk : z.k.kind with
      | inst => rw [hk] at hx; cases hx
      | exc a b => rfl
    have eb : b = MP.hasN cc e.k.anc := by
      unfold MP.hasC at hb
      rw [hc, tree_get _ _ _ (by simp), List.getElem?_map, he] at hb
      exact (Option.some.inj hb).symm
    rw [eb]
    refine He.exm_ok (faE (f := .exm e.name e'.name (MP.hasN cc e.k.anc)) ?_)
    refine List.mem_flatMap.mpr ⟨e, List.mem_of_getElem? he, List.mem_filterMap.mpr ⟨cc, List.mem_range.mpr (List.getElem?_eq_some_iff.mp he').1, ?_⟩⟩
    rw [he']
    simp only
    rw [kd he hd, kd he' hcc]
    rfl
  · rw [hc, tree_get _ _ _ (by simp), List.getElem?_map, he]
    rfl
  · have hm1 := List.mem_of_getElem? he
    refine ⟨_, caOf he, ?_⟩
    obtain ⟨q1, q2, q3, q4⟩ := He.exc_ok (faC hm1 (f := .exc e.name) (by
      unfold CT.fa
      rw [hk]
      exact List.mem_cons_of_mem _ List.mem_cons_self))
    exact ⟨⟨_, _, _, _, PySem.F.excBase_ValueError, q1⟩, He.glo_ok X N (faC hm1 List.mem_cons_self), q2, q3, q4⟩
end
end Snd
set_option Elab.async false
set_option linter.all false
set_option maxRecDepth 100000
set_option maxHeartbeats 4000000
/-! Law: the law's def, from its run; the head's Hook with constants. -/
namespace Snd
open PySem PySem.Spec PyProof.Rows L2
/-! ### the Hook -/
def hookX (n : Nat) (T : Tab) : PySem.W.Hook where
  α := He.AlD × Bool
  obs := fun s => (He.obsDG n T.fa (T.fns.map DT.d) s.heap.get?, T.ex (He.frG s.heap.get? (He.asD s.heap.get? n)))
  val := fun _ => (He.valD (T.fns.map DT.d), true)
  says := fun _ h => ∃ K : PySem.W.Frag, K.In h ∧ He.SaysD T.fa (T.fns.map DT.d) K ∧ T.ex K = true
  of := fun _ _ e => ⟨_, He.frG_in, congrArg Prod.fst e, congrArg Prod.snd e⟩
  keeps := fun _ _ _ ⟨K, hK, c⟩ k => ⟨K, PySem.W.Frag.In.keeps hK k, c⟩
def obX (n : Nat) (T : Tab) (s : PySem.W.SharedT) : He.AlD × Bool := (He.obsDG n T.fa (T.fns.map DT.d) (HandSHeadRun.getT s), T.ex (He.frG (HandSHeadRun.getT s) (He.asD (HandSHeadRun.getT s) n)))
theorem obX_eq (n : Nat) (T : Tab) (s : PySem.W.SharedT) : obX n T s = (hookX n T).obs s.abs := by
  have e : HandSHeadRun.getT s = s.abs.heap.get? := funext fun a => HandSHeadRun.getT_eq s a
  unfold obX
  rw [e] <;> rfl
/-! ### the law's def -/
def M0 (script : List MP.Val) : MP.M := { n := 1, t := .node (.rol script) .nil .nil }
def spL : Sp := fun vs H Q _ => ∃ (a : Addr) (ns : List Int), vs = [.ref a] ∧ Only H ∧ (∃ K : PySem.W.Frag, SqL K H a (ns.map V.int)) ∧ ns.length ≤ 63 ∧ ∀ H', Q (.bl true) H'
def spLK (K : PySem.W.Frag) : Sp := fun vs H Q _ => ∃ (a : Addr) (ns : List Int), vs = [.ref a] ∧ Only H ∧ SqL K H a (ns.map V.int) ∧ ns.length ≤ 63 ∧ ∀ H', Q (.bl true) H'
theorem VRs.ints {G : Gp} {ρ : Rho} {H : Hp} : ∀ ns : List Int, VRs G ρ H (ns.map .int) (ns.map V.int)
  | [] => by show VRs G ρ H [] []; unfold VRs; rfl
  | n :: r => by
    show VRs G ρ H (.int n :: r.map .int) (V.int n :: r.map V.int)
    unfold VRs
    exact ⟨_, _, rfl, rfl, VRs.ints r⟩
theorem hr_start {G : Gp} {H : Hp} {a : Addr} {ns : List Int} (hro : G.ro = [a]) (hO : Only H) (hS : SqL G.K H a (ns.map V.int)) : HR G (fun _ => none) (M0 (ns.map .int)) H := by
  refine ⟨fun j => ?_, fun k => ?_, fun j k b (h : (none : Option Addr) = some b) => (nomatch h), fun k o b _ (h : (none : Option Addr) = some b) => (nomatch h), fun k b h => ?_⟩
  · show ((MP.Tree.node _ .nil .nil).get j).isSome = true ↔ j < 1
    rw [get_node]
    by_cases hj : j = 0
    · simp [hj]
    · rw [if_neg hj]
      have : ¬ j < 1 := by omega
      simp only [this, iff_false]
      split <;> simp [MP.Tree.get]
  · rw [hro]
    show (none : Option Addr).isSome = true ↔ 1 ≤ k ∧ k < 1
    simp
    omega
  · rw [hro] at h
    cases k with
    | succ k => simp at h
    | zero =>
      have h : a = b := by simpa using h
      subst h
      refine ⟨.rol (ns.map .int), rfl, ns.map V.int, ?_, VRs.ints ns⟩
      rcases hS with q | q
      · rcases q with q | ⟨o, q⟩
        · rcases hO a with z | ⟨o, xs, z⟩
          · rw [z] at q; cases q
          · rw [z] at q; cases q
        · exact .inl ⟨o, q⟩
      · exact .inr q
theorem wE_no {G : Gp} : wE G noPost = fun _ _ _ => False := by
  funext cls d H
  apply propext
  constructor
  · rintro ⟨ρ, v, _, h⟩; exact h
  · intro h; exact h.elim
theorem fnOk_law {T : Tab} {K : PySem.W.Frag} {mg : Str → Option Value} {P : Program} {w : World} {base : Heap} {hn : nmOk T.nm = true} {g N : Nat} {e : DT} {x : Str} {fa : Addr} {fd : FuncData} (hN : 2 * N ≤ 690)
    (F : ∀ a, Facts T (mkG T K mg [a] hn)) (en : ∀ (g : Nat) (e : DT), T.fns[g]? = some e → Entry e) (ft : ∀ (g : Nat), T.p.fns.get g = (T.fns[g]?).map (·.fn))
    (bodies : ∀ (g : Nat) (e : DT) (cx : MP.Cx) (d : Nat) (G : Gp), T.fns[g]? = some e → Tie T G cx → 0 < d → OkB G ⟨e.N, defScope e.st, cx, d, fun _ => true, true, true⟩ (defBody e.st) e.fn.body)
    (he : T.fns[g]? = some e) (hx : e.ps = [x]) (hfd : ∀ a, (mkG T K mg [a] hn).fn g = some (fa, fd, e.ps))
    (main : ∀ ns : List Int, ns.length ≤ 63 → ∃ m, (MP.cxN T.p T.eqm N).call g [.ref 0] (M0 (ns.map .int)) = .ok (.bool true) m) : FnOk P w K mg base CX0 230 fa fd [x] (spLK K) := by
  refine ⟨fun vs H Q E ⟨a, ns, hv, _⟩ => by rw [hv]; rfl, fun A outer s H args us vs Q E hr e0 hbt r ⟨a, ns, hv, hO, hS, hl, hQ⟩ => ?_⟩
  subst hv
  obtain ⟨m, hm⟩ := main ns hl
  have rd : RoomD (2 * N) A := ⟨hr.hd, by have := hr.dp; omega, by have := hr.un; omega⟩
  have C := calls_of (P := P) (w := w) (base := base) (F a) en ft (fun g e cx d h t hd => bodies g e cx d _ h t hd) N g
  have := C fa fd e.ps (hfd a) A outer s H args us [.ref a] Q noPost (fun _ => none) [.ref 0] (M0 (ns.map .int)) rd e0 (by rw [hx]; exact hbt) r (hr_start rfl hO hS)
    (by show VRs _ _ _ [_] [_]; unfold VRs VRs VR; exact ⟨_, [], rfl, ⟨a, rfl, .inl rfl⟩, rfl⟩) (by rw [hx]; rfl) (by rw [hm]; intro ρ' H' y _ _ hy; have hy : y = V.bl true := hy; rw [hy]; exact hQ H')
  rw [wE_no] at this
  refine codeAny_mono this fun res s' hq => ?_
  cases res with
  | error e =>
    obtain ⟨_, _, _, _, _, _, _, _, _, _, _, _, hE⟩ := (show CX P w outer H s (fun _ _ _ => False) e s' from hq)
    exact hE.elim
  | ok fl => cases fl <;> exact hq
/-- the walk of a law -/
theorem walk_law {T : Tab} {l : PySem.W.OpenLaw} {q : Program} {loose : List Str} {XP : (Str → Option Value) → Heap → Prop} {d : DefRec} {n g N : Nat} {e : DT} {x : Str} (hN : 2 * N ≤ 690)
    (hmost : l.most = some 63) (hdf : d.params.defaults = []) (hnm : e.at_ = (d.name, none)) (he : T.fns[g]? = some e) (hx : e.ps = [x])
    (good : T.good = true) (hc : T.p.classes = treeOf T.cls.length (T.cls.map (·.k))) (hf : T.p.fns = treeOf T.fns.length (T.fns.map (·.fn))) (en : ∀ (g : Nat) (e : DT), T.fns[g]? = some e → Entry e)
    (bodies : ∀ (g : Nat) (e : DT) (cx : MP.Cx) (d : Nat) (G : Gp), T.fns[g]? = some e → Tie T G cx → 0 < d → OkB G ⟨e.N, defScope e.st, cx, d, fun _ => true, true, true⟩ (defBody e.st) e.fn.body)
    (main : ∀ ns : List Int, ns.length ≤ 63 → ∃ m, (MP.cxN T.p T.eqm N).call g [.ref 0] (M0 (ns.map .int)) = .ok (.bool true) m) :
    PySem.W.WalkO q loose XP (hookX n T).says l.row.toRowW d [] (fun f vs => PySem.call f vs) := by
  have hn : nmOk T.nm = true := (ba good).1
  have ft : ∀ (g : Nat), T.p.fns.get g = (T.fns[g]?).map (·.fn) := fun g => by rw [hf, tree_get _ _ _ (by simp), List.getElem?_map]
  refine walk_ofE (k := 230) (CX := CX0) (x := x) hmost (by rw [sizeLine_eq]; omega) hdf ⟨rfl, by decide, by decide⟩ (fun w mg fa h Y N' hmg => ?_) (fun _ _ _ _ z => z)
  obtain ⟨K, KX, c, ex⟩ := Y
  have F : ∀ a, Facts T (mkG T K mg [a] hn) := fun a => facts_of KX N' c ex good hc en hn
  obtain ⟨fa', fd, h1, _, hb, hbody, h5⟩ := (F 0).fn g e he
  have h5 := h5 (by rw [hnm])
  rw [hnm] at h5
  have h5 : mg d.name = some (.ref fa') := h5
  rw [hmg] at h5
  cases h5
  have fdE : ∀ a, (mkG T K mg [a] hn).fn g = some (fa, fd, e.ps) := fun a => h1
  refine ⟨K, fd, spLK K, KX, fun s u => ?_, fun H a ns hl hO hS => ⟨a, ns, rfl, hO, hS, hl, fun _ => rfl⟩, fun base _ _ => fnOk_law hN F en ft bodies he hx fdE main⟩
  obtain ⟨fd', F'⟩ := c.def_ g (d := e.d) (by rw [List.getElem?_map, he]; rfl)
  have F' : FunD K e.name e.qual (defArgs e.st) (defBody e.st) (defScope e.st) [] [] (He.fAd K e.at_) fd' := F'
  obtain ⟨oc, od, dV, kV, doc, pm, an, cdv, ct, osl, e1, lk, hcd, hD, _⟩ := F'.ex
  have z : (match T.fns[g]? with | some e => (match K.lookup (He.fAd K e.at_) with | some ⟨_, _, .func fd, _⟩ => some (He.fAd K e.at_, fd, e.ps) | _ => none) | none => none) = some (fa, fd, e.ps) := h1
  rw [he] at z
  simp only at z
  rw [lk] at z
  cases z
  have b := F'.bindsA (ps := e.ps) (en g e he).bd s [u] (by rw [hx]; rfl)
  rw [hx] at b
  exact b
end Snd
set_option Elab.async false
set_option linter.all false
set_option maxRecDepth 100000
set_option maxHeartbeats 4000000
/-! PL1: plain facts about the small language's runs: heaps, values, walks. -/
namespace PL
open MP Snd
/-! ### heaps -/
structure Gr (m m' : M) (S : List Nat) : Prop where
  wf : Full m'.t m'.n
  le : m.n ≤ m'.n
  same : ∀ j, j < m.n → j ∉ S → m'.t.get j = m.t.get j
theorem Gr.refl {m : M} {S : List Nat} (h : Full m.t m.n) : Gr m m S := ⟨h, Nat.le_refl _, fun _ _ _ => rfl⟩
theorem Gr.trans {m m1 m2 : M} {S S' : List Nat} (a : Gr m m1 S) (b : Gr m1 m2 S') (h : ∀ j ∈ S', j < m.n → j ∈ S) : Gr m m2 S :=
  ⟨b.wf, Nat.le_trans a.le b.le, fun j hj hs => by rw [b.same j (Nat.lt_of_lt_of_le hj a.le) (fun z => hs (h j z hj)), a.same j hj hs]⟩
theorem Gr.tr {m m1 m2 : M} {S : List Nat} (a : Gr m m1 S) (b : Gr m1 m2 S) : Gr m m2 S := a.trans b fun _ h _ => h
theorem Gr.mono {m m' : M} {S S' : List Nat} (a : Gr m m' S) (h : ∀ j ∈ S, j ∈ S') : Gr m m' S' := ⟨a.wf, a.le, fun j hj hs => a.same j hj fun z => hs (h j z)⟩
theorem get_lt {m : M} (h : Full m.t m.n) {j : Nat} {o : Obj} (e : m.t.get j = some o) : j < m.n := (h j).mp (by rw [e]; rfl)
def allo (m : M) (o : Obj) : M := ⟨m.n + 1, m.t.set o m.n⟩
theorem mkObj_eq (m : M) (o : Obj) : mkObj m o = .ok (.ref m.n) (allo m o) := rfl
theorem allo_get {m : M} (h : Full m.t m.n) (o : Obj) (j : Nat) : (allo m o).t.get j = if j = m.n then some o else m.t.get j := h.get_set (Nat.le_refl _) j
theorem Gr.allo {m : M} {S : List Nat} (h : Full m.t m.n) (o : Obj) : Gr m (allo m o) S := ⟨h.alloc, Nat.le_succ _, fun j hj _ => by rw [allo_get h, if_neg (Nat.ne_of_lt hj)]⟩
theorem put_get {m : M} (h : Full m.t m.n) {k : Nat} (hk : k < m.n) (o : Obj) (j : Nat) : (putObj m k o).t.get j = if j = k then some o else m.t.get j := h.get_set (Nat.le_of_lt hk) j
theorem Gr.put {m : M} (h : Full m.t m.n) {k : Nat} (hk : k < m.n) (o : Obj) : Gr m (putObj m k o) [k] := ⟨h.put hk, Nat.le_refl _, fun j hj hs => by rw [put_get h hk, if_neg (fun z => hs (by rw [z]; exact List.mem_cons_self))]⟩
/-- lists stay -/
def Ls (m m' : M) : Prop := ∀ k xs, lstAt m k = some xs → lstAt m' k = some xs
theorem Ls.refl {m : M} : Ls m m := fun _ _ h => h
theorem Ls.trans {m m1 m2 : M} (a : Ls m m1) (b : Ls m1 m2) : Ls m m2 := fun k xs h => b k xs (a k xs h)
theorem lstAt_of_get {m m' : M} {k : Nat} (e : m'.t.get k = m.t.get k) : lstAt m' k = lstAt m k := by unfold lstAt; rw [e]
theorem Gr.ls {m m' : M} {S : List Nat} (hf : Full m.t m.n) (g : Gr m m' S) (h : ∀ j ∈ S, lstAt m j = none) : Ls m m' := fun k xs e => by
  have hk : k < m.n := by
    unfold lstAt at e
    cases q : m.t.get k with
    | none => rw [q] at e; cases e
    | some o => exact get_lt hf q
  have hs : k ∉ S := fun z => by rw [h k z] at e; cases e
  rw [lstAt_of_get (g.same k hk hs)]
  exact e
/-! ### plain values -/
def Pl (m : M) : Nat → Val → Bool
  | 0, _ => false
  | n + 1, v => match v with
    | .none => true
    | .bool _ => true
    | .int _ => true
    | .str s => Nat.ble s.length 1000
    | .tup xs => xs.all (Pl m n) && Nat.ble xs.length 60
    | .ref a => match lstAt m a with
      | some xs => xs.all (Pl m n)
      | none => false
    | _ => false
theorem Pl.mono {m m' : M} (l : Ls m m') : ∀ {n : Nat} {v : Val}, Pl m n v = true → Pl m' n v = true
  | 0, _, h => by cases h
  | n + 1, v, h => by
    cases v with
    | tup xs =>
      obtain ⟨h1, h2⟩ := Bool.and_eq_true_iff.mp (show (xs.all (Pl m n) && Nat.ble xs.length 60) = true from h)
      exact Bool.and_eq_true_iff.mpr ⟨List.all_eq_true.mpr fun x hx => Pl.mono l (List.all_eq_true.mp h1 x hx), h2⟩
    | ref a =>
      have h : (match lstAt m a with | some xs => xs.all (Pl m n) | none => false) = true := h
      show (match lstAt m' a with | some xs => xs.all (Pl m' n) | none => false) = true
      cases e : lstAt m a with
      | none => rw [e] at h; cases h
      | some xs =>
        rw [e] at h
        rw [l a xs e]
        exact List.all_eq_true.mpr fun x hx => Pl.mono l (List.all_eq_true.mp h x hx)
    | _ => exact h
theorem Pl.up {m : M} : ∀ {n k : Nat} {v : Val}, n ≤ k → Pl m n v = true → Pl m k v = true
  | 0, _, _, _, h => by cases h
  | n + 1, 0, _, hk, _ => by omega
  | n + 1, k + 1, v, hk, h => by
    have hk' : n ≤ k := by omega
    cases v with
    | tup xs =>
      obtain ⟨h1, h2⟩ := Bool.and_eq_true_iff.mp (show (xs.all (Pl m n) && Nat.ble xs.length 60) = true from h)
      exact Bool.and_eq_true_iff.mpr ⟨List.all_eq_true.mpr fun x hx => Pl.up hk' (List.all_eq_true.mp h1 x hx), h2⟩
    | ref a =>
      have h : (match lstAt m a with | some xs => xs.all (Pl m n) | none => false) = true := h
      show (match lstAt m a with | some xs => xs.all (Pl m k) | none => false) = true
      cases e : lstAt m a with
      | none => rw [e] at h; cases h
      | some xs =>
        rw [e] at h
        exact List.all_eq_true.mpr fun x hx => Pl.up hk' (List.all_eq_true.mp h x hx)
    | _ => exact h
theorem datL_all (f : Val → Bool) : ∀ xs : List Val, datL f xs = xs.all f
  | [] => rfl
  | x :: r => by
    show (match f x with | true => datL f r | false => false) = (f x && r.all f)
    cases f x with
    | true => exact datL_all f r
    | false => rfl
theorem Pl.dat {m : M} : ∀ {n : Nat} {v : Val}, Pl m n v = true → datN m n v = true
  | 0, _, h => by cases h
  | n + 1, v, h => by
    cases v with
    | tup xs =>
      obtain ⟨h1, h2⟩ := Bool.and_eq_true_iff.mp (show (xs.all (Pl m n) && Nat.ble xs.length 60) = true from h)
      show datL (datN m n) xs = true
      rw [datL_all]
      exact List.all_eq_true.mpr fun x hx => Pl.dat (List.all_eq_true.mp h1 x hx)
    | ref a =>
      have h : (match lstAt m a with | some xs => xs.all (Pl m n) | none => false) = true := h
      show (match lstAt m a with | some xs => datL (datN m n) xs | .none => false) = true
      cases e : lstAt m a with
      | none => rw [e] at h; cases h
      | some xs =>
        rw [e] at h
        simp only
        rw [datL_all]
        exact List.all_eq_true.mpr fun x hx => Pl.dat (List.all_eq_true.mp h x hx)
    | none => rfl
    | bool _ => rfl
    | int _ => rfl
    | str _ => rfl
    | _ => cases h
/-! ### walks -/
/-- a comprehension, its state told turn by turn -/
theorem comp_fold {f : Cx} {t : Tg} {w : ItV} {c : Option E} {e : E} {σ : List Val} (len : Nat) (hlen : len < 1000000) (St : Nat → List Val → M → Prop) {m0 : M} (h0 : St 0 [] m0)
    (hend : ∀ acc m, St len acc m → w.next m len = .done)
    (hstep : ∀ k acc m, k < len → St k acc m → ∃ x σ' m1, w.next m k = .item x ∧ t f x σ m = .ok σ' m1 ∧ match c with
      | .none => ∃ v m2, e f σ' m1 = .ok v m2 ∧ St (k + 1) (v :: acc) m2
      | some q => ∃ b m2, q f σ' m1 = .ok (.bool b) m2 ∧ match b with
        | true => ∃ v m3, e f σ' m2 = .ok v m3 ∧ St (k + 1) (v :: acc) m3
        | false => St (k + 1) acc m2) : ∃ acc m, compN f t w c e TRUE 0 σ [] m0 = .ok acc m ∧ St len acc m := by
  have main : ∀ (r k : Nat) (acc : List Val) (m : M) (n : Nat), k + r = len → r < n → St k acc m → ∃ acc' m', compN f t w c e n k σ acc m = .ok acc' m' ∧ St len acc' m' := by
    intro r
    induction r with
    | zero =>
      intro k acc m n hk hn hs
      have : k = len := by omega
      subst this
      cases n with
      | zero => omega
      | succ n =>
        refine ⟨acc, m, ?_, hs⟩
        unfold compN
        rw [hend acc m hs]
    | succ r ih =>
      intro k acc m n hk hn hs
      cases n with
      | zero => omega
      | succ n =>
        obtain ⟨x, σ', m1, h1, h2, h3⟩ := hstep k acc m (by omega) hs
        cases c with
        | none =>
          obtain ⟨v, m2, h4, h5⟩ := h3
          obtain ⟨acc', m', h6, h7⟩ := ih (k + 1) (v :: acc) m2 n (by omega) (by omega) h5
          refine ⟨acc', m', ?_, h7⟩
          unfold compN
          rw [h1]
          simp only [h2, R.bind, h4]
          exact h6
        | some q =>
          obtain ⟨b, m2, h4, h5⟩ := h3
          cases b with
          | true =>
            obtain ⟨v, m3, h8, h9⟩ := h5
            obtain ⟨acc', m', h6, h7⟩ := ih (k + 1) (v :: acc) m3 n (by omega) (by omega) h9
            refine ⟨acc', m', ?_, h7⟩
            unfold compN
            rw [h1]
            simp only [h2, R.bind, h4, truth, h8]
            exact h6
          | false =>
            obtain ⟨acc', m', h6, h7⟩ := ih (k + 1) acc m2 n (by omega) (by omega) h5
            refine ⟨acc', m', ?_, h7⟩
            unfold compN
            rw [h1]
            simp only [h2, R.bind, h4, truth]
            exact h6
  exact main len 0 [] m0 TRUE (by omega) (by unfold TRUE; omega) h0
/-- a for, until its end or a return -/
theorem for_fold {f : Cx} {t : Tg} {w : ItV} {b : List S} (len : Nat) (hlen : len < 1000000) (St : Nat → List Val → M → Prop) (Out : Val → M → Prop) {σ0 : List Val} {m0 : M} (h0 : St 0 σ0 m0)
    (hend : ∀ σ m, St len σ m → w.next m len = .done)
    (hstep : ∀ k σ m, k < len → St k σ m → ∃ x σ' m1, w.next m k = .item x ∧ t f x σ m = .ok σ' m1 ∧ ((∃ σ2 m2, block f b σ' m1 = .ok (.next σ2) m2 ∧ St (k + 1) σ2 m2) ∨ ∃ v m2, block f b σ' m1 = .ok (.ret v) m2 ∧ Out v m2)) :
    (∃ σ m, forN f t w b TRUE 0 σ0 m0 = .ok (.next σ) m ∧ St len σ m) ∨ ∃ v m, forN f t w b TRUE 0 σ0 m0 = .ok (.ret v) m ∧ Out v m := by
  have main : ∀ (r k : Nat) (σ : List Val) (m : M) (n : Nat), k + r = len → r < n → St k σ m → (∃ σ' m', forN f t w b n k σ m = .ok (.next σ') m' ∧ St len σ' m') ∨ ∃ v m', forN f t w b n k σ m = .ok (.ret v) m' ∧ Out v m' := by
    intro r
    induction r with
    | zero =>
      intro k σ m n hk hn hs
      have : k = len := by omega
      subst this
      cases n with
      | zero => omega
      | succ n =>
        refine .inl ⟨σ, m, ?_, hs⟩
        unfold forN
        rw [hend σ m hs]
    | succ r ih =>
      intro k σ m n hk hn hs
      cases n with
      | zero => omega
      | succ n =>
        obtain ⟨x, σ', m1, h1, h2, h3⟩ := hstep k σ m (by omega) hs
        rcases h3 with ⟨σ2, m2, h4, h5⟩ | ⟨v, m2, h4, h5⟩
        · rcases ih (k + 1) σ2 m2 n (by omega) (by omega) h5 with ⟨σ3, m3, h6, h7⟩ | ⟨v, m3, h6, h7⟩
          · refine .inl ⟨σ3, m3, ?_, h7⟩
            unfold forN
            rw [h1]
            simp only [h2, R.bind, h4]
            exact h6
          · refine .inr ⟨v, m3, ?_, h7⟩
            unfold forN
            rw [h1]
            simp only [h2, R.bind, h4]
            exact h6
        · refine .inr ⟨v, m2, ?_, h5⟩
          unfold forN
          rw [h1]
          simp only [h2, R.bind, h4]
  exact main len 0 σ0 m0 TRUE (by omega) (by unfold TRUE; omega) h0
theorem nth_get? {α : Type} : ∀ (l : List α) (i : Nat), nth l i = l[i]?
  | [], i => by cases i <;> rfl
  | x :: r, 0 => rfl
  | x :: r, i + 1 => by
    show nth r i = _
    rw [nth_get? r i]
    simp
theorem vals_item {xs : List Val} {k : Nat} (h : k < xs.length) (m : M) : (ItV.vals xs).next m k = .item xs[k] := by
  show nxOf (nth xs k) = _
  rw [nth_get?, List.getElem?_eq_getElem h]
  rfl
theorem vals_done {xs : List Val} (m : M) : (ItV.vals xs).next m xs.length = .done := by
  show nxOf (nth xs xs.length) = _
  rw [nth_get?, List.getElem?_eq_none (Nat.le_refl _)]
  rfl
/-! ### small equations -/
theorem known_of {v : Val} (h : v ≠ .und) (k : Val → R Val) : known v k = k v := by cases v <;> first | rfl | exact absurd rfl h
theorem allB_all : ∀ l : List Bool, allB l = l.all id
  | [] => rfl
  | b :: r => by
    show (match b with | true => allB r | false => false) = (b && r.all id)
    cases b with
    | true => exact allB_all r
    | false => rfl
theorem bools_map : ∀ l : List Bool, bools (l.map .bool) = some l
  | [] => rfl
  | b :: r => by
    show (match bools (r.map .bool) with | some l => some (b :: l) | .none => .none) = _
    rw [bools_map r]
end PL
set_option Elab.async false
set_option linter.all false
set_option maxRecDepth 100000
set_option maxHeartbeats 4000000
/-! PL2: one step of each kind of text, as an equation without matches. -/
namespace PL
open MP Snd
theorem b_ok {α β : Type} (a : α) (m : M) (k : α → M → R β) : (R.ok a m).bind k = k a m := rfl
theorem b_ex {α β : Type} (v : Val) (m : M) (k : α → M → R β) : (R.ex v m).bind k = .ex v m := rfl
theorem b_ite {α β : Type} (c : Prop) [Decidable c] (r r' : R α) (k : α → M → R β) : (if c then r else r').bind k = if c then r.bind k else r'.bind k := by split <;> rfl
theorem t_b {α : Type} (b : Bool) (k : Bool → R α) : truth (.bool b) k = k b := rfl
theorem o_ite (c : Prop) [Decidable c] (r r' : R Fl) : endOf (if c then r else r') = if c then endOf r else endOf r' := by split <;> rfl
theorem o_ret (v : Val) (m : M) : endOf (.ok (.ret v) m) = .ok v m := rfl
theorem o_next (σ : List Val) (m : M) : endOf (.ok (.next σ) m) = .ok .none m := rfl
theorem o_ex (v : Val) (m : M) : endOf (.ex v m) = .ex v m := rfl
/-! values -/
theorem k_int (i : Int) (k : Val → R Val) : known (.int i) k = k (.int i) := rfl
theorem k_str (i) (k : Val → R Val) : known (.str i) k = k (.str i) := rfl
theorem k_bool (i) (k : Val → R Val) : known (.bool i) k = k (.bool i) := rfl
theorem k_none (k : Val → R Val) : known .none k = k .none := rfl
theorem k_tup (i) (k : Val → R Val) : known (.tup i) k = k (.tup i) := rfl
theorem k_ref (i) (k : Val → R Val) : known (.ref i) k = k (.ref i) := rfl
theorem n_z {α : Type} (x : α) (r : List α) : nth (x :: r) 0 = some x := rfl
theorem n_s {α : Type} (x : α) (r : List α) (i : Nat) : nth (x :: r) (i + 1) = nth r i := rfl
theorem s_z (v x : Val) (r : List Val) : setN v (x :: r) 0 = v :: r := rfl
theorem s_s (v x : Val) (r : List Val) (i : Nat) : setN v (x :: r) (i + 1) = x :: setN v r i := rfl
theorem e_loc (f : Cx) (i : Nat) (σ : List Val) (m : M) (v : Val) (h : nth σ i = some v) (hv : v ≠ .und) : E.loc i f σ m = .ok v m := by
  show (match nth σ i with | some v => known v fun v => .ok v m | .none => .bad 40) = _
  rw [h]
  exact known_of hv _
theorem e_cst (v : Val) (f : Cx) (σ : List Val) (m : M) : E.cst v f σ m = .ok v m := rfl
theorem e_and (a b : E) (f : Cx) (σ : List Val) (m : M) : E.and a b f σ m = (a f σ m).bind fun v m => truth v fun x => if x then b f σ m else .ok (.bool false) m := by
  show (a f σ m).bind _ = _
  congr 1; funext v m; congr 1; funext x; cases x <;> rfl
theorem e_or (a b : E) (f : Cx) (σ : List Val) (m : M) : E.or a b f σ m = (a f σ m).bind fun v m => truth v fun x => if x then .ok (.bool true) m else b f σ m := by
  show (a f σ m).bind _ = _
  congr 1; funext v m; congr 1; funext x; cases x <;> rfl
theorem e_not (a : E) (f : Cx) (σ : List Val) (m : M) : E.not a f σ m = (a f σ m).bind fun v m => truth v fun x => .ok (.bool (!x)) m := rfl
theorem e_ite (t a b : E) (f : Cx) (σ : List Val) (m : M) : E.ite t a b f σ m = (t f σ m).bind fun v m => truth v fun x => if x then a f σ m else b f σ m := by
  show (t f σ m).bind _ = _
  congr 1; funext v m; congr 1; funext x; cases x <;> rfl
theorem e_cmp (o : Cmp) (a b : E) (f : Cx) (σ : List Val) (m : M) : E.cmp o a b f σ m = (a f σ m).bind fun v m => (b f σ m).bind fun w m => tri (cmpop o m v w) m := rfl
theorem e_bin (o : Bin) (a b : E) (f : Cx) (σ : List Val) (m : M) : E.bin o a b f σ m = (a f σ m).bind fun v m => (b f σ m).bind fun w m => binop o v w m := rfl
theorem e_tup (es : List E) (f : Cx) (σ : List Val) (m : M) : E.tup es f σ m = (evL f es σ m).bind fun vs m => .ok (.tup vs) m := rfl
theorem e_lst (es : List E) (f : Cx) (σ : List Val) (m : M) : E.lst es f σ m = (evL f es σ m).bind fun vs m => mkObj m (.lst vs) := rfl
theorem l_nil (f : Cx) (σ : List Val) (m : M) : evL f [] σ m = .ok [] m := rfl
theorem l_cons (f : Cx) (e : E) (r : List E) (σ : List Val) (m : M) : evL f (e :: r) σ m = (e f σ m).bind fun v m => (evL f r σ m).bind fun vs m => .ok (v :: vs) m := rfl
theorem e_idx (a i : E) (f : Cx) (σ : List Val) (m : M) : E.idx a i f σ m = (a f σ m).bind fun v m => (i f σ m).bind fun w m => item v w m := rfl
theorem e_call (g : Nat) (es : List E) (f : Cx) (σ : List Val) (m : M) : E.call g es f σ m = (evL f es σ m).bind fun vs m => f.call g vs m := rfl
theorem e_meth (o : E) (k : Nat) (es : List E) (f : Cx) (σ : List Val) (m : M) : E.meth o k es f σ m = (o f σ m).bind fun v m => opt 48 (methOf f.p v m k) fun i => (evL f es σ m).bind fun vs m => f.call i (v :: vs) m := rfl
theorem e_len (e : E) (f : Cx) (σ : List Val) (m : M) : E.bLen e f σ m = (e f σ m).bind lenV := by rfl
theorem op_some {α : Type} (n : Nat) (x : α) (k : α → R Val) : opt n (some x) k = k x := rfl
theorem op2_some {α β : Type} (n : Nat) (x : α) (k : α → R β) : opt2 n (some x) k = k x := rfl
theorem tri_b (b : Bool) (m : M) : tri (.ofB b) m = .ok (.bool b) m := by cases b <;> rfl
theorem neg_b (b : Bool) : (Tri.ofB b).neg = .ofB (!b) := by cases b <;> rfl
theorem le_int (a b : Int) (m : M) : cmpop .le m (.int a) (.int b) = .ofB (decide (a ≤ b)) := by
  show (Tri.ofB (decide (b < a))).neg = _
  by_cases h : b < a
  · rw [decide_eq_true h, decide_eq_false (by omega)]; rfl
  · rw [decide_eq_false h, decide_eq_true (by omega)]; rfl
theorem lt_int (a b : Int) (m : M) : cmpop .lt m (.int a) (.int b) = .ofB (decide (a < b)) := rfl
theorem gt_int (a b : Int) (m : M) : cmpop .gt m (.int a) (.int b) = .ofB (decide (b < a)) := rfl
theorem e_chain (o o' : Cmp) (a b c : E) (f : Cx) (σ : List Val) (m : M) (x : Val) (y : Val) (p : Bool) (h1 : a f σ m = .ok x m) (h2 : b f σ m = .ok y m) (h3 : cmpop o m x y = .ofB p) :
    E.chain o o' a b c f σ m = if p then (c f σ m).bind fun z m => tri (cmpop o' m y z) m else .ok (.bool false) m := by
  show (a f σ m).bind _ = _
  rw [h1, b_ok, h2, b_ok, h3]
  cases p <;> rfl
/-! statements -/
theorem bl_nil (f : Cx) (σ : List Val) (m : M) : block f [] σ m = .ok (.next σ) m := rfl
theorem bl_ret (e : E) (r : List S) (f : Cx) (σ : List Val) (m : M) : block f (S.ret e :: r) σ m = (e f σ m).bind fun v m => .ok (.ret v) m := by
  show ((e f σ m).bind fun v m => R.ok (Fl.ret v) m).bind _ = _
  cases e f σ m <;> rfl
theorem bl_asg (t : Tg) (e : E) (r : List S) (f : Cx) (σ : List Val) (m : M) : block f (S.asg t e :: r) σ m = (e f σ m).bind fun v m => (t f v σ m).bind fun σ m => block f r σ m := by
  show ((e f σ m).bind fun v m => (t f v σ m).bind fun σ m => R.ok (Fl.next σ) m).bind _ = _
  cases e f σ m with
  | ok v m1 =>
    show ((t f v σ m1).bind fun σ m => R.ok (Fl.next σ) m).bind _ = (t f v σ m1).bind _
    cases t f v σ m1 <;> rfl
  | ex _ _ => rfl
  | bad _ => rfl
theorem bl_expr (e : E) (r : List S) (f : Cx) (σ : List Val) (m : M) : block f (S.expr e :: r) σ m = (e f σ m).bind fun _ m => block f r σ m := by
  show ((e f σ m).bind fun _ m => R.ok (Fl.next σ) m).bind _ = _
  cases e f σ m <;> rfl
/-- behind a block that went on -/
def goOn (f : Cx) (r : List S) (x : R Fl) : R Fl := x.bind fun fl m => match fl with
  | .next σ => block f r σ m
  | fl => .ok fl m
theorem go_next (f : Cx) (r : List S) (σ : List Val) (m : M) : goOn f r (.ok (.next σ) m) = block f r σ m := rfl
theorem go_ret (f : Cx) (r : List S) (v : Val) (m : M) : goOn f r (.ok (.ret v) m) = .ok (.ret v) m := rfl
theorem go_ex (f : Cx) (r : List S) (v : Val) (m : M) : goOn f r (.ex v m) = .ex v m := rfl
theorem go_ite (c : Prop) [Decidable c] (f : Cx) (r : List S) (x y : R Fl) : goOn f r (if c then x else y) = if c then goOn f r x else goOn f r y := by split <;> rfl
theorem bl_ite (t : E) (a b : List S) (r : List S) (f : Cx) (σ : List Val) (m : M) : block f (S.ite t a b :: r) σ m = (t f σ m).bind fun v m => truth v fun x => if x then goOn f r (block f a σ m) else goOn f r (block f b σ m) := by
  show ((t f σ m).bind fun v m => truth v fun x => match x with | true => block f a σ m | false => block f b σ m).bind _ = _
  cases t f σ m with
  | ok v m1 =>
    show (truth v _).bind _ = truth v _
    cases v with
    | bool x => cases x <;> rfl
    | _ => rfl
  | ex _ _ => rfl
  | bad _ => rfl
theorem bl_for (t : Tg) (it : It) (b : List S) (r : List S) (f : Cx) (σ : List Val) (m : M) : block f (S.for t it b :: r) σ m = (it f σ m).bind fun w m => goOn f r (forN f t w b TRUE 0 σ m) := by
  show ((it f σ m).bind fun w m => forN f t w b TRUE 0 σ m).bind _ = _
  cases it f σ m <;> rfl
theorem bl_rais (e : E) (r : List S) (f : Cx) (σ : List Val) (m : M) (c : Nat) (ws : List Val) (h : e f σ m = .ok (.exn c ws) m) : block f (S.rais e :: r) σ m = .ex (.exn c ws) m := by
  show ((e f σ m).bind fun v m => match v with | .exn c ws => R.ex (.exn c ws) m | _ => .bad 103).bind _ = _
  rw [h]
  rfl
theorem t_loc (i : Nat) (f : Cx) (v : Val) (σ : List Val) (m : M) : Tg.loc i f v σ m = .ok (setN v σ i) m := rfl
theorem run_fn (fn : Fn) (f : Cx) (vs : List Val) (m : M) (h : vs.length = fn.np) : runFn fn f vs m = endOf (block f fn.body (fill fn.ns vs) m) := by
  unfold runFn
  rw [show Nat.beq vs.length fn.np = true by rw [Nat.beq_eq]; exact h]
theorem e_lc (t : Tg) (it : It) (own : List Nat) (c : Option E) (e : E) (f : Cx) (σ : List Val) (m : M) (w : ItV) (m1 : M) (acc : List Val) (m2 : M) (h1 : it f σ m = .ok w m1) (h2 : compN f t w c e TRUE 0 (wipe own σ) [] m1 = .ok acc m2) (hl : acc.length ≤ 16777216) :
    E.lc t it own c e f σ m = .ok (.ref m2.n) (allo m2 (.lst acc.reverse)) := by
  show (it f σ m).bind _ = _
  rw [h1, b_ok, h2]
  show fits acc (mkObj m2 (.lst acc.reverse)) = _
  unfold fits
  rw [show Nat.ble acc.length SIZE = true from Nat.ble_eq_true_of_le hl]
  rfl
theorem lst_allo {m : M} (h : Full m.t m.n) (xs : List Val) : lstAt (allo m (.lst xs)) m.n = some xs := by
  unfold lstAt
  rw [allo_get h, if_pos rfl]
/-- all of a new list of flags -/
theorem e_all (e : E) (f : Cx) (σ : List Val) (m : M) (a : Nat) (m1 : M) (bs : List Bool) (h : e f σ m = .ok (.ref a) m1) (hl : lstAt m1 a = some (bs.map .bool)) : E.bAll e f σ m = .ok (.bool (bs.all id)) m1 := by
  show (e f σ m).bind _ = _
  rw [h, b_ok]
  show opt 63 (lstAt m1 a) _ = _
  rw [hl, op_some, bools_map, op_some, allB_all]
theorem hasC_mem (c : Nat) : ∀ l : List Nat, hasN c l = true ↔ c ∈ l
  | [] => by simp [hasN]
  | a :: r => by
    show (match Nat.beq a c with | true => true | false => hasN c r) = true ↔ _
    cases e : Nat.beq a c with
    | true => simp [Nat.eq_of_beq_eq_true e]
    | false =>
      have : a ≠ c := by rintro rfl; simp at e
      simp only [hasC_mem c r, List.mem_cons]
      constructor
      · exact .inr
      · rintro (h | h)
        · exact absurd h.symm this
        · exact h
end PL
set_option maxRecDepth 100000
set_option maxHeartbeats 0
set_option linter.all false
namespace K02
open MP
/-- is_label -/
def f0 : Fn := { np := 1, ns := 2, body := [(.ret (.and (.isi (.loc 0) [.str]) (.and (.chain .le .le (.cst (.int 1)) (.bLen (.loc 0)) (.cst (.int 8))) (.bAll (.lc (.loc 1) (.val (.loc 0)) [1] none (.cmp .isin (.loc 1) (.cst (.str [97,98,99,100,101,102,103,104,105,106,107,108,109,110,111,112,113,114,115,116,117,118,119,120,121,122]))))))))] }
/-- is_count -/
def f1 : Fn := { np := 1, ns := 1, body := [(.ret (.and (.isi (.loc 0) [.int]) (.and (.not (.isi (.loc 0) [.bool])) (.chain .le .le (.cst (.int 0)) (.loc 0) (.cst (.int 9999))))))] }
/-- Kinds.__init__ -/
def f2 : Fn := { np := 1, ns := 1, body := [(.asg (.att (.loc 0) 0) (.dic [])), (.asg (.att (.loc 0) 1) (.cst (.int 0))), (.asg (.att (.loc 0) 2) (.cst (.int 0)))] }
/-- Kinds.takes -/
def f3 : Fn := { np := 3, ns := 3, body := [(.ret (.and (.call 1 [(.loc 1)]) (.cmp .eq (.mSetdefault (.att (.loc 0) 0) (.loc 1) (.loc 2)) (.loc 2))))] }
/-- Kinds.is_tail -/
def f4 : Fn := { np := 3, ns := 3, body := [(.ret (.or (.cmp .is (.loc 1) (.cst .none)) (.meth (.loc 0) 3 [(.loc 1), (.loc 2)])))] }
/-- Kinds.are_effects -/
def f5 : Fn := { np := 2, ns := 3, body := [(.ite (.or (.not (.isi (.loc 1) [.tup])) (.or (.cmp .ne (.bLen (.loc 1)) (.cst (.int 2))) (.not (.isi (.idx (.loc 1) (.cst (.int 0))) [.tup])))) [(.ret (.cst (.bool false)))] []), (.ite (.or (.not (.bAll (.lc (.loc 2) (.val (.idx (.loc 1) (.cst (.int 0)))) [2] none (.call 0 [(.loc 2)])))) (.cmp .ne (.bSortedS (.idx (.loc 1) (.cst (.int 0)))) (.bList (.idx (.loc 1) (.cst (.int 0)))))) [(.ret (.cst (.bool false)))] []), (.ret (.meth (.loc 0) 4 [(.idx (.loc 1) (.cst (.int 1))), (.cst (.str [101,102,102,101,99,116,115]))]))] }
/-- Kinds.are_pairs -/
def f6 : Fn := { np := 2, ns := 5, body := [(.ite (.not (.isi (.loc 1) [.tup])) [(.ret (.cst (.bool false)))] []), (.ite (.not (.bAll (.lc (.loc 2) (.val (.loc 1)) [2] none (.and (.isi (.loc 2) [.tup]) (.and (.cmp .eq (.bLen (.loc 2)) (.cst (.int 2))) (.call 0 [(.idx (.loc 2) (.cst (.int 0)))])))))) [(.ret (.cst (.bool false)))] []), (.ite (.not (.bAll (.lc (.tup [(.loc 3), (.loc 4)]) (.zip (.loc 1) (.slc (.loc 1) (some (.cst (.int 1))) none)) [3, 4] none (.cmp .lt (.idx (.loc 3) (.cst (.int 0))) (.idx (.loc 4) (.cst (.int 0))))))) [(.ret (.cst (.bool false)))] []), (.ret (.bAll (.lc (.loc 2) (.val (.loc 1)) [2] none (.meth (.loc 0) 5 [(.idx (.loc 2) (.cst (.int 1)))]))))] }
/-- Kinds.is_sort -/
def f7 : Fn := { np := 2, ns := 3, body := [(.augAtt (.loc 0) 2 .add (.cst (.int 1))), (.asg (.loc 2) (.and (.cmp .le (.att (.loc 0) 2) (.cst (.int 60))) (.meth (.loc 0) 6 [(.loc 1)]))), (.augAtt (.loc 0) 2 .sub (.cst (.int 1))), (.ret (.loc 2))] }
/-- Kinds.is_formed -/
def f8 : Fn := { np := 2, ns := 4, body := [(.augAtt (.loc 0) 1 .add (.cst (.int 1))), (.ite (.or (.cmp .gt (.att (.loc 0) 1) (.cst (.int 400))) (.or (.not (.isi (.loc 1) [.tup])) (.or (.cmp .eq (.loc 1) (.tup [])) (.not (.isi (.idx (.loc 1) (.cst (.int 0))) [.str]))))) [(.ret (.cst (.bool false)))] []), (.asg (.star 1 [(.loc 2), (.loc 3)]) (.loc 1)), (.ite (.cmp .isin (.loc 1) (.cst (.tup [(.tup [(.str [110,117,109])]),(.tup [(.str [102,108,97,103])])]))) [(.ret (.cst (.bool true)))] []), (.ite (.cmp .eq (.loc 2) (.cst (.str [97,110,121]))) [(.ret (.and (.cmp .eq (.bLen (.loc 3)) (.cst (.int 1))) (.meth (.loc 0) 3 [(.idx (.loc 3) (.cst (.int 0))), (.cst (.str [115,111,114,116]))])))] []), (.ite (.cmp .eq (.loc 2) (.cst (.str [108,105,115,116]))) [(.ret (.and (.cmp .eq (.bLen (.loc 3)) (.cst (.int 1))) (.meth (.loc 0) 5 [(.idx (.loc 3) (.cst (.int 0)))])))] []), (.ite (.cmp .eq (.loc 2) (.cst (.str [116,111]))) [(.ret (.and (.cmp .eq (.bLen (.loc 3)) (.cst (.int 3))) (.and (.meth (.loc 0) 5 [(.idx (.loc 3) (.cst (.int 0)))]) (.and (.meth (.loc 0) 7 [(.idx (.loc 3) (.cst (.int 1)))]) (.meth (.loc 0) 5 [(.idx (.loc 3) (.cst (.int 2)))])))))] []), (.ite (.or (.cmp .ne (.loc 2) (.cst (.str [114,111,119]))) (.cmp .ne (.bLen (.loc 3)) (.cst (.int 2)))) [(.ret (.cst (.bool false)))] []), (.ret (.and (.meth (.loc 0) 8 [(.idx (.loc 3) (.cst (.int 0)))]) (.meth (.loc 0) 4 [(.idx (.loc 3) (.cst (.int 1))), (.cst (.str [114,111,119]))])))] }
/-- is_sort -/
def f9 : Fn := { np := 1, ns := 1, body := [(.ret (.meth (.mk 3 []) 5 [(.loc 0)]))] }
/-- check_sort -/
def f10 : Fn := { np := 1, ns := 1, body := [(.ite (.not (.call 9 [(.loc 0)])) [(.rais (.mk 1 [.cst (.str [97,32,115,111,114,116,32,105,115,32,100,117,101])]))] [])] }
/-- Counted.__init__ -/
def f11 : Fn := { np := 1, ns := 1, body := [(.asg (.att (.loc 0) 9) (.dic [])), (.asg (.att (.loc 0) 1) (.cst (.int 0)))] }
/-- Counted.count -/
def f12 : Fn := { np := 2, ns := 2, body := [(.ret (.mSetdefault (.att (.loc 0) 9) (.loc 1) (.bLen (.att (.loc 0) 9))))] }
/-- Counted.tail -/
def f13 : Fn := { np := 2, ns := 2, body := [(.ret (.ite (.cmp .is (.loc 1) (.cst .none)) (.cst .none) (.meth (.loc 0) 10 [(.loc 1)])))] }
/-- Counted.told -/
def f14 : Fn := { np := 2, ns := 8, body := [(.augAtt (.loc 0) 1 .add (.cst (.int 1))), (.ite (.cmp .gt (.att (.loc 0) 1) (.cst (.int 400))) [(.rais (.mk 2 [.cst (.str [97,32,115,111,114,116,32,111,102,32,102,101,119,101,114,32,112,97,114,116,115,32,105,115,32,100,117,101])]))] []), (.asg (.loc 2) (.idx (.loc 1) (.cst (.int 0)))), (.ite (.cmp .eq (.loc 2) (.cst (.str [97,110,121]))) [(.ret (.tup [(.cst (.str [97,110,121])), (.meth (.loc 0) 10 [(.idx (.loc 1) (.cst (.int 1)))])]))] []), (.ite (.cmp .eq (.loc 2) (.cst (.str [108,105,115,116]))) [(.ret (.tup [(.cst (.str [108,105,115,116])), (.meth (.loc 0) 11 [(.idx (.loc 1) (.cst (.int 1)))])]))] []), (.ite (.cmp .eq (.loc 2) (.cst (.str [116,111]))) [(.asg (.loc 3) (.meth (.loc 0) 11 [(.idx (.loc 1) (.cst (.int 1)))])), (.asg (.loc 4) (.tup [(.idx (.idx (.loc 1) (.cst (.int 2))) (.cst (.int 0))), (.meth (.loc 0) 12 [(.idx (.idx (.loc 1) (.cst (.int 2))) (.cst (.int 1)))])])), (.ret (.tup [(.cst (.str [116,111])), (.loc 3), (.loc 4), (.meth (.loc 0) 11 [(.idx (.loc 1) (.cst (.int 3)))])]))] []), (.ite (.cmp .eq (.loc 2) (.cst (.str [114,111,119]))) [(.asg (.loc 5) (.bTuple (.lc (.tup [(.loc 6), (.loc 7)]) (.val (.idx (.loc 1) (.cst (.int 1)))) [6, 7] none (.tup [(.loc 6), (.meth (.loc 0) 11 [(.loc 7)])])))), (.ret (.tup [(.cst (.str [114,111,119])), (.loc 5), (.meth (.loc 0) 12 [(.idx (.loc 1) (.cst (.int 2)))])]))] []), (.ret (.loc 1))] }
/-- counted -/
def f15 : Fn := { np := 1, ns := 1, body := [(.expr (.call 10 [(.loc 0)])), (.ret (.meth (.mk 4 []) 11 [(.loc 0)]))] }
/-- _law_cell_at -/
def f16 : Fn := { np := 2, ns := 2, body := [(.ite (.cmp .lt (.loc 1) (.bLen (.loc 0))) [(.ret (.idx (.loc 0) (.loc 1)))] []), (.ite (.cmp .eq (.loc 0) (.lst [])) [(.ret (.bin .mul (.loc 1) (.cst (.int 48271))))] []), (.ret (.bin .mod (.bin .mul (.bin .add (.idx (.loc 0) (.bin .mod (.loc 1) (.bLen (.loc 0)))) (.loc 1)) (.cst (.int 48271))) (.cst (.int 2147483647))))] }
/-- _law_numbers -/
def f17 : Fn := { np := 2, ns := 4, body := [(.asg (.loc 2) (.loc 0)), (.ite (.cmp .lt (.loc 0) (.bin .pow (.cst (.int 10)) (.cst (.int 18)))) [(.asg (.loc 2) (.bin .fdiv (.bin .pow (.bin .add (.bin .mul (.bin .mod (.loc 0) (.cst (.int 2147483647))) (.cst (.int 48271))) (.cst (.int 12345))) (.cst (.int 5))) (.cst (.int 1013))))] []), (.asg (.loc 3) (.lst [])), (.for (.loc 1) (.val (.loc 1)) [(.expr (.mAppend (.loc 3) (.bin .mod (.bInt (.loc 2)) (.loc 1)))), (.asg (.loc 2) (.bin .fdiv (.loc 2) (.loc 1)))]), (.ret (.loc 3))] }
/-- _law_by -/
def f18 : Fn := { np := 2, ns := 2, body := [(.ret (.ite (.cmp .ne (.loc 0) (.lst [])) (.bin .mod (.bInt (.mPop1 (.loc 0) (.cst (.int 0)))) (.loc 1)) (.cst (.int 0))))] }
/-- _law_sort -/
def f19 : Fn := { np := 3, ns := 11, body := [(.asg (.loc 3) (.ite (.and (.cmp .gt (.loc 1) (.cst (.int 0))) (.cmp .ne (.loc 0) (.lst []))) (.call 18 [(.loc 0), (.cst (.int 12))]) (.call 18 [(.loc 0), (.cst (.int 4))]))), (.ite (.cmp .lt (.loc 3) (.cst (.int 4))) [(.ite (.not (.loc 2)) [(.ret (.idx (.lst [(.tup [(.cst (.str [110,117,109]))]), (.tup [(.cst (.str [102,108,97,103]))])]) (.bin .mod (.bInt (.loc 3)) (.cst (.int 2)))))] []), (.ret (.idx (.lst [(.tup [(.cst (.str [110,117,109]))]), (.tup [(.cst (.str [102,108,97,103]))]), (.tup [(.cst (.str [97,110,121])), (.call 18 [(.loc 0), (.cst (.int 3))])]), (.tup [(.cst (.str [97,110,121])), (.cst (.int 0))])]) (.loc 3)))] []), (.ite (.cmp .lt (.loc 3) (.cst (.int 6))) [(.ret (.tup [(.cst (.str [108,105,115,116])), (.call 19 [(.loc 0), (.bin .sub (.loc 1) (.cst (.int 1))), (.loc 2)])]))] []), (.ite (.cmp .lt (.loc 3) (.cst (.int 9))) [(.asg (.tup [(.loc 4), (.loc 5)]) (.tup [(.call 19 [(.loc 0), (.bin .sub (.loc 1) (.cst (.int 1))), (.loc 2)]), (.call 18 [(.loc 0), (.cst (.int 8))])])), (.asg (.loc 6) (.bin .add (.bin .add (.bin .mul (.tup [(.cst (.str [111]))]) (.bin .mod (.bInt (.loc 5)) (.cst (.int 2)))) (.bin .mul (.tup [(.cst (.str [112]))]) (.bin .mod (.bInt (.bin .fdiv (.loc 5) (.cst (.int 2)))) (.cst (.int 2))))) (.bin .mul (.tup [(.cst (.str [112]))]) (.bin .fdiv (.loc 5) (.cst (.int 7)))))), (.asg (.loc 7) (.ite (.loc 2) (.idx (.lst [(.cst .none), (.cst (.int 5)), (.cst (.int 6))]) (.call 18 [(.loc 0), (.cst (.int 3))])) (.cst .none))), (.ret (.tup [(.cst (.str [116,111])), (.loc 4), (.tup [(.loc 6), (.loc 7)]), (.call 19 [(.loc 0), (.bin .sub (.loc 1) (.cst (.int 1))), (.loc 2)])]))] []), (.asg (.loc 5) (.call 18 [(.loc 0), (.cst (.int 8))])), (.asg (.loc 8) (.lc (.tup [(.loc 9), (.loc 10)]) (.enum (.lst [(.cst (.str [97])), (.cst (.str [98])), (.cst (.str [99]))])) [9, 10] (some (.cmp .eq (.bin .band (.bin .shr (.loc 5) (.loc 9)) (.cst (.int 1))) (.cst (.int 1)))) (.tup [(.loc 10), (.call 19 [(.loc 0), (.bin .sub (.loc 1) (.cst (.int 1))), (.loc 2)])]))), (.ret (.tup [(.cst (.str [114,111,119])), (.bTuple (.loc 8)), (.ite (.loc 2) (.idx (.lst [(.cst .none), (.cst (.int 3)), (.cst (.int 4))]) (.call 18 [(.loc 0), (.cst (.int 3))])) (.cst .none))]))] }
/-- _law_draws -/
def f20 : Fn := { np := 2, ns := 4, body := [(.asg (.loc 2) (.lst [])), (.for (.loc 3) (.rng1 (.cst (.int 5))) [(.asg (.loc 2) (.bin .add (.loc 2) (.call 17 [(.call 16 [(.loc 0), (.bin .add (.loc 1) (.loc 3))]), (.lst [(.cst (.int 48)), (.cst (.int 48)), (.cst (.int 48)), (.cst (.int 48)), (.cst (.int 48)), (.cst (.int 48))])])))]), (.ret (.loc 2))] }
/-- _law_name_fine -/
def f21 : Fn := { np := 1, ns := 3, body := [(.asg (.loc 1) (.cst (.str [97,98,99,100,101,102,103,104,105,106,107,108,109,110,111,112,113,114,115,116,117,118,119,120,121,122]))), (.ret (.and (.isi (.loc 0) [.str]) (.and (.chain .le .le (.cst (.int 1)) (.bLen (.loc 0)) (.cst (.int 8))) (.bAll (.lc (.loc 2) (.val (.loc 0)) [2] none (.cmp .isin (.loc 2) (.loc 1)))))))] }
/-- _law_count_fine -/
def f22 : Fn := { np := 3, ns := 3, body := [(.ite (.or (.isi (.loc 1) [.bool]) (.or (.not (.isi (.loc 1) [.int])) (.not (.chain .le .le (.cst (.int 0)) (.loc 1) (.cst (.int 9999)))))) [(.ret (.cst (.bool false)))] []), (.ret (.cmp .eq (.mSetdefault (.loc 0) (.loc 1) (.loc 2)) (.loc 2)))] }
/-- _law_fine -/
def f23 : Fn := { np := 3, ns := 8, body := [(.asg (.idx (.loc 0) (.cst (.str [112,97,114,116,115]))) (.bin .add (.mGet2 (.loc 0) (.cst (.str [112,97,114,116,115])) (.cst (.int 0))) (.cst (.int 1)))), (.ite (.or (.cmp .gt (.idx (.loc 0) (.cst (.str [112,97,114,116,115]))) (.cst (.int 400))) (.or (.cmp .gt (.loc 2) (.cst (.int 60))) (.or (.not (.isi (.loc 1) [.tup])) (.or (.cmp .eq (.loc 1) (.tup [])) (.not (.isi (.idx (.loc 1) (.cst (.int 0))) [.str])))))) [(.ret (.cst (.bool false)))] []), (.ite (.cmp .isin (.idx (.loc 1) (.cst (.int 0))) (.tup [(.cst (.str [110,117,109])), (.cst (.str [102,108,97,103]))])) [(.ret (.cmp .eq (.bLen (.loc 1)) (.cst (.int 1))))] []), (.ite (.cmp .eq (.idx (.loc 1) (.cst (.int 0))) (.cst (.str [97,110,121]))) [(.ret (.and (.cmp .eq (.bLen (.loc 1)) (.cst (.int 2))) (.call 22 [(.loc 0), (.idx (.loc 1) (.cst (.int 1))), (.cst (.str [97,110,121]))])))] []), (.ite (.cmp .eq (.idx (.loc 1) (.cst (.int 0))) (.cst (.str [108,105,115,116]))) [(.ret (.and (.cmp .eq (.bLen (.loc 1)) (.cst (.int 2))) (.call 23 [(.loc 0), (.idx (.loc 1) (.cst (.int 1))), (.bin .add (.loc 2) (.cst (.int 1)))])))] []), (.ite (.cmp .eq (.idx (.loc 1) (.cst (.int 0))) (.cst (.str [116,111]))) [(.ite (.or (.cmp .ne (.bLen (.loc 1)) (.cst (.int 4))) (.or (.not (.isi (.idx (.loc 1) (.cst (.int 2))) [.tup])) (.or (.cmp .ne (.bLen (.idx (.loc 1) (.cst (.int 2)))) (.cst (.int 2))) (.not (.isi (.idx (.idx (.loc 1) (.cst (.int 2))) (.cst (.int 0))) [.tup]))))) [(.ret (.cst (.bool false)))] []), (.asg (.tup [(.loc 3), (.loc 4)]) (.idx (.loc 1) (.cst (.int 2)))), (.ite (.or (.not (.bAll (.lc (.loc 5) (.val (.loc 3)) [5] none (.call 21 [(.loc 5)])))) (.cmp .ne (.bList (.loc 3)) (.bSortedS (.loc 3)))) [(.ret (.cst (.bool false)))] []), (.ite (.and (.cmp .isnot (.loc 4) (.cst .none)) (.not (.call 22 [(.loc 0), (.loc 4), (.cst (.str [98,97,103]))]))) [(.ret (.cst (.bool false)))] []), (.ret (.and (.call 23 [(.loc 0), (.idx (.loc 1) (.cst (.int 1))), (.bin .add (.loc 2) (.cst (.int 1)))]) (.call 23 [(.loc 0), (.idx (.loc 1) (.cst (.int 3))), (.bin .add (.loc 2) (.cst (.int 1)))])))] []), (.ite (.or (.cmp .ne (.idx (.loc 1) (.cst (.int 0))) (.cst (.str [114,111,119]))) (.or (.cmp .ne (.bLen (.loc 1)) (.cst (.int 3))) (.not (.isi (.idx (.loc 1) (.cst (.int 1))) [.tup])))) [(.ret (.cst (.bool false)))] []), (.for (.loc 6) (.val (.idx (.loc 1) (.cst (.int 1)))) [(.ite (.or (.not (.isi (.loc 6) [.tup])) (.or (.cmp .ne (.bLen (.loc 6)) (.cst (.int 2))) (.not (.call 21 [(.idx (.loc 6) (.cst (.int 0)))])))) [(.ret (.cst (.bool false)))] []), (.ite (.not (.call 23 [(.loc 0), (.idx (.loc 6) (.cst (.int 1))), (.bin .add (.loc 2) (.cst (.int 1)))])) [(.ret (.cst (.bool false)))] [])]), (.asg (.loc 7) (.lc (.loc 6) (.val (.idx (.loc 1) (.cst (.int 1)))) [6] none (.idx (.loc 6) (.cst (.int 0))))), (.ite (.cmp .ne (.loc 7) (.bSortedSet (.loc 7))) [(.ret (.cst (.bool false)))] []), (.ret (.or (.cmp .is (.idx (.loc 1) (.cst (.int 2))) (.cst .none)) (.call 22 [(.loc 0), (.idx (.loc 1) (.cst (.int 2))), (.cst (.str [114,111,119]))])))] }
/-- _law_counted -/
def f24 : Fn := { np := 2, ns := 8, body := [(.ite (.cmp .eq (.idx (.loc 0) (.cst (.int 0))) (.cst (.str [97,110,121]))) [(.ret (.tup [(.cst (.str [97,110,121])), (.mSetdefault (.loc 1) (.idx (.loc 0) (.cst (.int 1))) (.bLen (.loc 1)))]))] []), (.ite (.cmp .eq (.idx (.loc 0) (.cst (.int 0))) (.cst (.str [108,105,115,116]))) [(.ret (.tup [(.cst (.str [108,105,115,116])), (.call 24 [(.idx (.loc 0) (.cst (.int 1))), (.loc 1)])]))] []), (.ite (.cmp .eq (.idx (.loc 0) (.cst (.int 0))) (.cst (.str [116,111]))) [(.asg (.tup [(.loc 2), (.tup [(.loc 3), (.loc 4)])]) (.tup [(.call 24 [(.idx (.loc 0) (.cst (.int 1))), (.loc 1)]), (.idx (.loc 0) (.cst (.int 2)))])), (.asg (.loc 4) (.ite (.cmp .is (.loc 4) (.cst .none)) (.cst .none) (.mSetdefault (.loc 1) (.loc 4) (.bLen (.loc 1))))), (.ret (.tup [(.cst (.str [116,111])), (.loc 2), (.tup [(.loc 3), (.loc 4)]), (.call 24 [(.idx (.loc 0) (.cst (.int 3))), (.loc 1)])]))] []), (.ite (.cmp .ne (.idx (.loc 0) (.cst (.int 0))) (.cst (.str [114,111,119]))) [(.ret (.loc 0))] []), (.asg (.loc 5) (.bTuple (.lc (.tup [(.loc 6), (.loc 7)]) (.val (.idx (.loc 0) (.cst (.int 1)))) [6, 7] none (.tup [(.loc 6), (.call 24 [(.loc 7), (.loc 1)])])))), (.ret (.tup [(.cst (.str [114,111,119])), (.loc 5), (.ite (.cmp .is (.idx (.loc 0) (.cst (.int 2))) (.cst .none)) (.cst .none) (.mSetdefault (.loc 1) (.idx (.loc 0) (.cst (.int 2))) (.bLen (.loc 1))))]))] }
/-- _law_odd -/
def f25 : Fn := { np := 2, ns := 3, body := [(.asg (.loc 2) (.lst [(.cst .none), (.cst (.int 3)), (.cst (.str [110,117,109])), (.lst [(.cst (.str [110,117,109]))]), (.tup []), (.tup [(.cst (.str [110,117,109])), (.cst (.int 1))]), (.tup [(.cst (.str [97,110,121])), (.neg (.cst (.int 1)))]), (.tup [(.cst (.str [97,110,121])), (.cst (.bool true))]), (.tup [(.cst (.str [97,110,121])), (.cst (.int 10000))]), (.tup [(.cst (.str [97,110,121])), (.cst (.str [48]))]), (.tup [(.cst (.str [108,105,115,116]))])])), (.asg (.loc 2) (.bin .add (.loc 2) (.lst [(.tup [(.cst (.str [116,111])), (.loc 1), (.tup [(.tup []), (.cst .none)])]), (.tup [(.cst (.str [116,111])), (.loc 1), (.tup [(.tup [(.cst (.str [112])), (.cst (.str [111]))]), (.cst .none)]), (.loc 1)]), (.tup [(.cst (.str [116,111])), (.loc 1), (.tup [(.cst (.str [111])), (.cst .none)]), (.loc 1)])]))), (.asg (.loc 2) (.bin .add (.loc 2) (.lst [(.tup [(.cst (.str [116,111])), (.loc 1), (.tup [(.tup [(.cst (.str [79]))]), (.cst .none)]), (.loc 1)]), (.tup [(.cst (.str [116,111])), (.loc 1), (.tup [(.tup []), (.cst (.int 3))]), (.tup [(.cst (.str [114,111,119])), (.tup []), (.cst (.int 3))])]), (.tup [(.cst (.str [114,111,119])), (.tup []), (.cst (.str [51]))]), (.tup [(.cst (.str [114,111,119])), (.tup [])])]))), (.asg (.loc 2) (.bin .add (.loc 2) (.lst [(.tup [(.cst (.str [114,111,119])), (.tup [(.tup [(.cst (.str [98])), (.loc 1)]), (.tup [(.cst (.str [97])), (.loc 1)])]), (.cst .none)]), (.tup [(.cst (.str [114,111,119])), (.tup [(.tup [(.cst (.str [97])), (.loc 1)]), (.tup [(.cst (.str [97])), (.loc 1)])]), (.cst .none)]), (.tup [(.cst (.str [102,97,114]))])]))), (.asg (.loc 2) (.bin .add (.loc 2) (.lst [(.tup [(.cst (.str [114,111,119])), (.lst []), (.cst .none)])]))), (.asg (.loc 2) (.bin .add (.loc 2) (.lst [(.tup [(.cst (.str [114,111,119])), (.tup [(.tup [(.cst (.str [97])), (.tup [(.cst (.str [97,110,121])), (.cst (.int 4))])])]), (.cst (.int 4))]), (.tup [(.cst (.str [116,111])), (.tup [(.cst (.str [97,110,121])), (.cst (.int 5))]), (.tup [(.tup []), (.cst (.int 5))]), (.loc 1)])]))), (.asg (.loc 2) (.bin .add (.loc 2) (.lst [(.tup [(.cst (.str [114,111,119])), (.tup [(.tup [(.cst (.str [97,98,99,100,101,102,103,104,105])), (.loc 1)])]), (.cst .none)])]))), (.asg (.loc 2) (.bin .add (.loc 2) (.lst [(.tup [(.cst (.str [108,105,115,116])), (.tup [(.cst (.str [116,111])), (.loc 1), (.tup [(.tup []), (.cst .none)]), (.loc 1)])]), (.tup [(.cst (.str [114,111,119])), (.tup [(.tup [(.cst (.str [97])), (.loc 1)]), (.tup [(.cst (.str [98])), (.loc 1)])]), (.cst (.int 9999))])]))), (.asg (.loc 2) (.bin .add (.loc 2) (.lst [(.tup [(.cst (.str [116,111])), (.loc 1), (.tup [(.tup [(.cst (.str [111])), (.cst (.str [111]))]), (.cst (.int 9))]), (.loc 1)])]))), (.ret (.idx (.loc 2) (.bin .mod (.loc 0) (.bLen (.loc 2)))))] }
/-- _law_deep -/
def f26 : Fn := { np := 1, ns := 6, body := [(.asg (.loc 1) (.idx (.lst [(.cst (.int 59)), (.cst (.int 60)), (.cst (.int 61)), (.cst (.int 400)), (.cst (.int 401))]) (.bin .mod (.loc 0) (.cst (.int 5))))), (.ite (.cmp .gt (.loc 1) (.cst (.int 61))) [(.asg (.loc 2) (.tup [(.cst (.str [114,111,119])), (.bTuple (.lc (.loc 3) (.rng1 (.cst (.int 24))) [3] none (.tup [(.idx (.cst (.str [97,98,99,100,101,102,103,104,105,106,107,108,109,110,111,112,113,114,115,116,117,118,119,120,121,122])) (.loc 3)), (.tup [(.cst (.str [110,117,109]))])]))), (.cst .none)])), (.asg (.loc 4) (.tup [(.cst (.str [114,111,119])), (.bTuple (.lc (.loc 3) (.rng1 (.cst (.int 15))) [3] none (.tup [(.idx (.cst (.str [97,98,99,100,101,102,103,104,105,106,107,108,109,110,111,112,113,114,115,116,117,118,119,120,121,122])) (.loc 3)), (.loc 2)]))), (.cst .none)])), (.ret (.tup [(.cst (.str [116,111])), (.tup [(.cst (.str [108,105,115,116])), (.tup [(.cst (.str [108,105,115,116])), (.loc 4)])]), (.tup [(.tup []), (.cst .none)]), (.call 27 [(.bin .sub (.loc 1) (.cst (.int 380)))])]))] []), (.asg (.loc 4) (.tup [(.cst (.str [110,117,109]))])), (.for (.loc 5) (.rng1 (.bin .sub (.loc 1) (.cst (.int 1)))) [(.asg (.loc 4) (.tup [(.cst (.str [108,105,115,116])), (.loc 4)]))]), (.ret (.loc 4))] }
/-- _law_row_of -/
def f27 : Fn := { np := 1, ns := 2, body := [(.ret (.tup [(.cst (.str [114,111,119])), (.bTuple (.lc (.loc 1) (.rng1 (.loc 0)) [1] none (.tup [(.idx (.cst (.str [97,98,99,100,101,102,103,104,105,106,107,108,109,110,111,112,113,114,115,116,117,118,119,120,121,122])) (.loc 1)), (.tup [(.cst (.str [110,117,109]))])]))), (.cst .none)]))] }
/-- _law_judged -/
def f28 : Fn := { np := 1, ns := 2, body := [(.asg (.loc 1) (.call 23 [(.dic []), (.loc 0), (.cst (.int 1))])), (.tri [(.ret (.and (.cmp .eq (.call 9 [(.loc 0)]) (.loc 1)) (.and (.cmp .eq (.call 15 [(.loc 0)]) (.call 24 [(.loc 0), (.dic [])])) (.loc 1))))] (.cls 1) none [.ret (.not (.loc 1))])] }
/-- _law_all_right -/
def f29 : Fn := { np := 1, ns := 6, body := [(.for (.loc 1) (.rng1 (.cst (.int 5))) [(.asg (.loc 2) (.call 20 [(.loc 0), (.bin .mul (.cst (.int 7)) (.loc 1))])), (.asg (.loc 3) (.call 19 [(.loc 2), (.cst (.int 4)), (.cst (.bool true))])), (.asg (.loc 4) (.call 16 [(.loc 0), (.bin .add (.bin .mul (.cst (.int 7)) (.loc 1)) (.cst (.int 5)))])), (.asg (.loc 5) (.tup [(.cst (.str [108,105,115,116])), (.tup [(.cst (.str [116,111])), (.loc 3), (.tup [(.tup [(.cst (.str [97])), (.cst (.str [98]))]), (.idx (.lst [(.cst .none), (.cst (.int 5)), (.cst (.int 77)), (.cst (.int 0))]) (.bin .mod (.loc 4) (.cst (.int 4))))]), (.tup [(.cst (.str [97,110,121])), (.idx (.lst [(.cst (.int 0)), (.cst (.int 1)), (.cst (.int 88)), (.cst (.int 3))]) (.bin .mod (.bin .fdiv (.loc 4) (.cst (.int 4))) (.cst (.int 4))))])])])), (.ite (.or (.not (.call 28 [(.loc 3)])) (.or (.not (.call 28 [(.loc 5)])) (.not (.call 28 [(.call 25 [(.bin .fdiv (.loc 4) (.cst (.int 16))), (.loc 3)])])))) [(.ret (.cst (.bool false)))] []), (.ite (.not (.call 28 [(.tup [(.cst (.str [114,111,119])), (.tup [(.tup [(.cst (.str [113])), (.call 25 [(.bin .fdiv (.loc 4) (.cst (.int 16))), (.loc 3)])])]), (.cst .none)])])) [(.ret (.cst (.bool false)))] [])]), (.ret (.call 28 [(.call 26 [(.call 16 [(.loc 0), (.cst (.int 60))])])]))] }
/-- law -/
def f30 : Fn := { np := 1, ns := 1, body := [(.tri [(.ret (.call 29 [(.loc 0)]))] (.cls 0) none [.ret (.cst (.bool false))])] }
def c0 : Cls := { kind := .exc true none, anc := [0], init := none, meths := [], flds := [] }
def c1 : Cls := { kind := .exc true none, anc := [1, 0], init := none, meths := [], flds := [] }
def c2 : Cls := { kind := .exc true none, anc := [2, 0], init := none, meths := [], flds := [] }
def c3 : Cls := { kind := .inst, anc := [3], init := (some 2), meths := [(3, 3), (4, 4), (7, 5), (8, 6), (5, 7), (6, 8)], flds := [0, 1, 2] }
def c4 : Cls := { kind := .inst, anc := [4], init := (some 11), meths := [(10, 12), (12, 13), (11, 14)], flds := [9, 1] }
def classes : Tree Cls := (.node c0 (.node c1 (.node c3 .nil .nil) .nil) (.node c2 (.node c4 .nil .nil) .nil))
def fns : Tree Fn := (.node f0 (.node f1 (.node f3 (.node f7 (.node f15 .nil .nil) (.node f23 .nil .nil)) (.node f11 (.node f19 .nil .nil) (.node f27 .nil .nil))) (.node f5 (.node f9 (.node f17 .nil .nil) (.node f25 .nil .nil)) (.node f13 (.node f21 .nil .nil) (.node f29 .nil .nil)))) (.node f2 (.node f4 (.node f8 (.node f16 .nil .nil) (.node f24 .nil .nil)) (.node f12 (.node f20 .nil .nil) (.node f28 .nil .nil))) (.node f6 (.node f10 (.node f18 .nil .nil) (.node f26 .nil .nil)) (.node f14 (.node f22 .nil .nil) (.node f30 .nil .nil)))))
def prog : Prog := { fns := fns, lams := .nil, classes := classes }
def M0 (script : List Val) : M := { n := 1, t := .node (.rol script) .nil .nil }
def eqm : Nat := 13
def law (n : Nat) (script : List Int) : R Val := (cxN prog eqm n).call 30 [.ref 0] (M0 (script.map .int))
end K02
set_option linter.all false
/-! PM: what k02's defs reckon, as plain functions. -/
namespace K02
open MP
def LET : List Nat := [97,98,99,100,101,102,103,104,105,106,107,108,109,110,111,112,113,114,115,116,117,118,119,120,121,122]
def wNUM : List Nat := [110,117,109]
def wFLAG : List Nat := [102,108,97,103]
def wANY : List Nat := [97,110,121]
def wLIST : List Nat := [108,105,115,116]
def wTO : List Nat := [116,111]
def wROW : List Nat := [114,111,119]
def wSORT : List Nat := [115,111,114,116]
def wEFF : List Nat := [101,102,102,101,99,116,115]
def wBAG : List Nat := [98,97,103]
def wPARTS : List Nat := [112,97,114,116,115]
def labS (s : List Nat) : Bool := decide (1 ≤ s.length) && (decide (s.length ≤ 8) && s.all fun c => hasN c LET)
def isLab : Val → Bool
  | .str s => labS s
  | _ => false
def inCnt (i : Int) : Bool := decide (0 ≤ i) && decide (i ≤ 9999)
abbrev KL := List (Int × List Nat)
def kvV (l : KL) : List (Val × Val) := l.map fun q => (.int q.1, .str q.2)
structure KSt where
  l : KL
  many : Int
  within : Int
def pTakes (s : KSt) (c : Val) (w : List Nat) : Bool × KSt := match c with
  | .int i => if inCnt i then (match s.l.lookup i with
    | some x => (strEq x w, s)
    | none => (true, { s with l := s.l ++ [(i, w)] })) else (false, s)
  | _ => (false, s)
def pTail (s : KSt) (t : Val) (w : List Nat) : Bool × KSt := match t with
  | .none => (true, s)
  | t => pTakes s t w
def srt (ns : List Val) : Bool := match MP.txts ns with
  | some l => decide (l = sortS l)
  | none => false
def pEff2 (s : KSt) (a t : Val) : Bool × KSt := match a with
  | .tup ns => if ns.all isLab && srt ns then pTail s t wEFF else (false, s)
  | _ => (false, s)
def pEff1 (s : KSt) (xs : List Val) : Bool × KSt := match xs with
  | [a, t] => pEff2 s a t
  | _ => (false, s)
def pEff (s : KSt) (e : Val) : Bool × KSt := match e with
  | .tup xs => pEff1 s xs
  | _ => (false, s)
def okPair1 (xs : List Val) : Bool := match xs with
  | [a, _] => isLab a
  | _ => false
def okPair : Val → Bool
  | .tup xs => okPair1 xs
  | _ => false
def lab0 : Val → List Nat
  | .tup (.str s :: _) => s
  | _ => []
def asc2 : List Val → Bool
  | [] => true
  | x :: r => match r with
    | [] => true
    | y :: _ => strLt (lab0 x) (lab0 y) && asc2 r
def snd0 : Val → Val
  | .tup [_, b] => b
  | _ => .none
def pL (rec : KSt → Val → Bool × KSt) : KSt → List Val → List Bool × KSt
  | s, [] => ([], s)
  | s, x :: r => ((rec s (snd0 x)).1 :: (pL rec (rec s (snd0 x)).2 r).1, (pL rec (rec s (snd0 x)).2 r).2)
def pAll (rec : KSt → Val → Bool × KSt) (s : KSt) (xs : List Val) : Bool × KSt := ((pL rec s xs).1.all id, (pL rec s xs).2)
def pPairs (rec : KSt → Val → Bool × KSt) (s : KSt) (ps : Val) : Bool × KSt := match ps with
  | .tup xs => if xs.all okPair && asc2 xs then pAll rec s xs else (false, s)
  | _ => (false, s)
def andT (r : Bool × KSt) (k : KSt → Bool × KSt) : Bool × KSt := if r.1 then k r.2 else (false, r.2)
def pWord (rec : KSt → Val → Bool × KSt) (s : KSt) (w : List Nat) (rest : List Val) : Bool × KSt :=
  if (w = wNUM ∨ w = wFLAG) ∧ rest = [] then (true, s)
  else if w = wANY then (match rest with
    | [c] => pTakes s c wSORT
    | _ => (false, s))
  else if w = wLIST then (match rest with
    | [x] => rec s x
    | _ => (false, s))
  else if w = wTO then (match rest with
    | [x, e, y] => andT (rec s x) fun s => andT (pEff s e) fun s => rec s y
    | _ => (false, s))
  else if w = wROW then (match rest with
    | [ps, t] => andT (pPairs rec s ps) fun s => pTail s t wROW
    | _ => (false, s))
  else (false, s)
def pFormed (rec : KSt → Val → Bool × KSt) (s : KSt) (v : Val) : Bool × KSt :=
  if 400 < s.many + 1 then (false, { s with many := s.many + 1 }) else match v with
  | .tup (.str w :: rest) => pWord rec { s with many := s.many + 1 } w rest
  | _ => (false, { s with many := s.many + 1 })
def pSort : Nat → KSt → Val → Bool × KSt
  | 0, s, _ => (false, s)
  | n + 1, s, v =>
    if s.within + 1 ≤ 60 then ((pFormed (pSort n) { s with within := s.within + 1 } v).1, { (pFormed (pSort n) { s with within := s.within + 1 } v).2 with within := (pFormed (pSort n) { s with within := s.within + 1 } v).2.within - 1 })
    else (false, { s with within := s.within + 1 - 1 })
end K02
set_option Elab.async false
set_option linter.all false
set_option maxRecDepth 100000
set_option maxHeartbeats 4000000
/-! PK1: names, counts, effects' tails in k02. -/
namespace K02
open MP Snd PL
abbrev cx (n : Nat) : Cx := cxN prog eqm n
theorem chars_nth : ∀ (s : List Nat) (k : Nat), nth (charsV s) k = (s[k]?).map fun c => Val.str [c]
  | [], k => by cases k <;> rfl
  | c :: r, 0 => rfl
  | c :: r, k + 1 => by show nth (charsV r) k = _; rw [chars_nth r k]; simp
theorem chars_item {s : List Nat} {k : Nat} (h : k < s.length) (m : M) : (ItV.vals (charsV s)).next m k = .item (.str [s[k]]) := by
  show nxOf (nth (charsV s) k) = _
  rw [chars_nth, List.getElem?_eq_getElem h]
  rfl
theorem chars_done (s : List Nat) (m : M) : (ItV.vals (charsV s)).next m s.length = .done := by
  show nxOf (nth (charsV s) s.length) = _
  rw [chars_nth, List.getElem?_eq_none (Nat.le_refl _)]
  rfl
theorem nth_setN (v : Val) (σ : List Val) (i : Nat) (h : i < σ.length) : nth (setN v σ i) i = some v := by rw [Snd.nth_set, if_pos ⟨rfl, h⟩]
theorem wipe_len : ∀ (own : List Nat) (σ : List Val), (wipe own σ).length = σ.length
  | [], _ => rfl
  | i :: r, σ => by
    show (setN .und (wipe r σ) i).length = _
    rw [Snd.setN_length, wipe_len r σ]
theorem allin {f : Cx} {σ : List Val} {m : M} {i a : Nat} {c : E} {s T : List Nat} (hf : Full m.t m.n) (hs : s.length ≤ 1000) (ha : nth σ a = some (.str s)) (hi : i < σ.length) (hc : ∀ x, c f (setN x (wipe [i] σ) i) m = .ok (.str T) m) :
    ∃ m', E.bAll (E.lc (.loc i) (.val (.loc a)) [i] none (E.cmp .isin (.loc i) c)) f σ m = .ok (.bool (s.all fun c => hasN c T)) m' ∧ Gr m m' [] := by
  obtain ⟨acc, m1, h1, h2, h3⟩ := comp_fold (f := f) (t := .loc i) (w := .vals (charsV s)) (c := none) (e := E.cmp .isin (.loc i) c) (σ := wipe [i] σ) s.length (by omega) (fun k acc m' => acc = ((s.take k).map fun c => Val.bool (hasN c T)).reverse ∧ m' = m) (m0 := m) ⟨rfl, rfl⟩
    (fun acc m' _ => chars_done s m') (fun k acc m' hk ⟨e1, e2⟩ => by
      subst e2
      refine ⟨_, _, _, chars_item hk m', rfl, .bool (hasN s[k] T), m', ?_, ?_, rfl⟩
      · rw [e_cmp, e_loc _ _ _ _ _ (nth_setN _ _ _ (by rw [wipe_len]; exact hi)) (by simp), b_ok, hc, b_ok]
        show tri (.ofB (hasN s[k] T)) m' = _
        rw [tri_b]
      · rw [e1, List.take_succ_eq_append_getElem hk, List.map_append, List.reverse_append]
        rfl)
  subst h2 h3
  rw [List.take_of_length_le (Nat.le_refl _)] at h1
  have hit : It.val (E.loc a) f σ m1 = .ok (.vals (charsV s)) m1 := by
    show (E.loc a f σ m1).bind _ = _
    rw [e_loc _ _ _ _ _ ha (by simp)]
    rfl
  have hlc := e_lc (.loc i) (.val (.loc a)) [i] none (E.cmp .isin (.loc i) c) f σ m1 _ _ _ _ hit h1 (by simp; omega)
  have hall := e_all _ f σ m1 m1.n _ (s.map fun c => hasN c T) hlc (by
    rw [List.reverse_reverse, List.map_map]
    exact lst_allo hf _)
  rw [List.all_map] at hall
  exact ⟨_, hall, Gr.allo hf _⟩
theorem is_label_ok (n : Nat) {m : M} {d : Nat} {v : Val} (hf : Full m.t m.n) (hp : Pl m d v = true) : ∃ m', (cx (n + 1)).call 0 [v] m = .ok (.bool (isLab v)) m' ∧ Gr m m' [] := by
  cases d with
  | zero => cases hp
  | succ d =>
    show ∃ m', runFn f0 (cx n) [v] m = _ ∧ _
    rw [run_fn _ _ _ _ rfl]
    show ∃ m', endOf (block (cx n) [.ret _] [v, .und] m) = _ ∧ _
    rw [bl_ret, e_and]
    cases v with
    | str s =>
      have hs : s.length ≤ 1000 := Nat.le_of_ble_eq_true hp
      have hlen : E.bLen (.loc 0) (cx n) [.str s, .und] m = .ok (.int s.length) m := by
        rw [e_len, e_loc _ _ _ _ _ rfl (by simp), b_ok]
        show fits s _ = _
        unfold fits
        rw [show Nat.ble s.length SIZE = true from Nat.ble_eq_true_of_le (by unfold SIZE; omega)]
        rfl
      have hisi : E.isi (.loc 0) [.str] (cx n) [.str s, .und] m = .ok (.bool true) m := rfl
      rw [hisi, b_ok, t_b, if_pos rfl, e_and, e_chain _ _ _ _ _ _ _ _ _ _ _ (e_cst _ _ _ _) hlen (le_int _ _ _)]
      by_cases h1 : (1 : Int) ≤ s.length
      · rw [if_pos (decide_eq_true h1), e_cst, b_ok, le_int, tri_b, b_ok, t_b]
        by_cases h2 : (s.length : Int) ≤ 8
        · rw [if_pos (decide_eq_true h2)]
          obtain ⟨m', e1, g⟩ := allin (f := cx n) (σ := [.str s, .und]) (m := m) (i := 1) (a := 0) (c := .cst (.str LET)) (s := s) (T := LET) hf hs rfl (by simp) (fun x => rfl)
          refine ⟨m', ?_, g⟩
          have e1 : E.bAll (E.lc (.loc 1) (.val (.loc 0)) [1] none (E.cmp .isin (.loc 1) (.cst (.str [97,98,99,100,101,102,103,104,105,106,107,108,109,110,111,112,113,114,115,116,117,118,119,120,121,122])))) (cx n) [.str s, .und] m = _ := e1
          rw [e1, b_ok, o_ret]
          show _ = R.ok (Val.bool (labS s)) m'
          unfold labS
          rw [decide_eq_true (show 1 ≤ s.length by omega), decide_eq_true (show s.length ≤ 8 by omega)]
          rfl
        · rw [if_neg (by simpa using h2)]
          refine ⟨m, ?_, Gr.refl hf⟩
          show R.ok (Val.bool false) m = R.ok (Val.bool (labS s)) m
          unfold labS
          rw [decide_eq_false (show ¬ s.length ≤ 8 by omega)]
          simp
      · rw [if_neg (by simpa using h1)]
        refine ⟨m, ?_, Gr.refl hf⟩
        show R.ok (Val.bool false) m = R.ok (Val.bool (labS s)) m
        unfold labS
        rw [decide_eq_false (show ¬ 1 ≤ s.length by omega)]
        simp
    | none => exact ⟨m, rfl, Gr.refl hf⟩
    | bool b => exact ⟨m, rfl, Gr.refl hf⟩
    | int i => exact ⟨m, rfl, Gr.refl hf⟩
    | tup xs => exact ⟨m, rfl, Gr.refl hf⟩
    | ref a =>
      have h : (match lstAt m a with | some xs => xs.all (Pl m d) | none => false) = true := hp
      cases e : lstAt m a with
      | none => rw [e] at h; cases h
      | some xs =>
        refine ⟨m, ?_, Gr.refl hf⟩
        have hisi : E.isi (.loc 0) [.str] (cx n) [.ref a, .und] m = .ok (.bool false) m := by
          show opt 47 (hasTys prog.classes m (.ref a) [.str]) _ = _
          simp [hasTys, hasTy, isBlt, tyN, tyRef, e, TyN.is, opt]
        rw [hisi]
        rfl
    | _ => cases hp
end K02
set_option Elab.async false
set_option linter.all false
set_option maxRecDepth 100000
set_option maxHeartbeats 4000000
/-! PK2: counts, tails, effects. -/
namespace K02
open MP Snd PL
theorem strEq_eq : ∀ (s t : List Nat), strEq s t = decide (s = t)
  | [], [] => rfl
  | [], _ :: _ => by simp [strEq]
  | _ :: _, [] => by simp [strEq]
  | a :: s, b :: t => by
    show (match Nat.beq a b with | true => strEq s t | false => false) = _
    cases e : Nat.beq a b with
    | true =>
      have := Nat.eq_of_beq_eq_true e
      subst this
      simp [strEq_eq s t]
    | false =>
      have : a ≠ b := by rintro rfl; simp at e
      simp [this]
theorem lookK_kvV (i : Int) : ∀ l : KL, lookK (.int i) (kvV l) = (l.lookup i).map .str
  | [] => rfl
  | (j, w) :: r => by
    show (match decide (j = i) with | true => some (Val.str w) | false => lookK (.int i) (kvV r)) = _
    rw [List.lookup_cons]
    by_cases h : j = i
    · subst h
      simp
    · rw [decide_eq_false h, show (i == j) = false by simpa using fun z : i = j => h z.symm]
      exact lookK_kvV i r
theorem putK_kvV {i : Int} {w : List Nat} {l : KL} (h : l.lookup i = none) : putK (.int i) (.str w) (kvV l) = kvV (l ++ [(i, w)]) := by
  unfold putK
  rw [lookK_kvV, h]
  show kvV l ++ _ = _
  unfold kvV
  rw [List.map_append]
  rfl
/-- an object of Kinds at k, its dict at d -/
structure KS (m : M) (k d : Nat) (s : KSt) : Prop where
  o : m.t.get k = some (.ins 3 [(0, .ref d), (1, .int s.many), (2, .int s.within)])
  t : m.t.get d = some (.dct (kvV s.l))
theorem KS.ne {m : M} {k d : Nat} {s : KSt} (h : KS m k d s) : k ≠ d := by
  rintro rfl
  have := h.o.symm.trans h.t
  cases this
theorem KS.gr {m m' : M} {k d : Nat} {s : KSt} (h : KS m k d s) (hf : Full m.t m.n) (g : Gr m m' []) : KS m' k d s :=
  ⟨by rw [g.same k (get_lt hf h.o) (by simp)]; exact h.o, by rw [g.same d (get_lt hf h.t) (by simp)]; exact h.t⟩
theorem KS.ls {m m' : M} {k d : Nat} {s : KSt} (h : KS m k d s) (hf : Full m.t m.n) (g : Gr m m' [k, d]) : Ls m m' := g.ls hf fun j hj => by
  rcases List.mem_cons.mp hj with rfl | hj
  · unfold lstAt; rw [h.o]
  · rw [List.mem_singleton.mp hj]; unfold lstAt; rw [h.t]
def isCnt : Val → Bool
  | .int i => inCnt i
  | _ => false
theorem is_count_ok (n : Nat) {m : M} {d : Nat} {v : Val} (hp : Pl m d v = true) : (cx (n + 1)).call 1 [v] m = .ok (.bool (isCnt v)) m := by
  cases d with
  | zero => cases hp
  | succ d =>
    show runFn f1 (cx n) [v] m = _
    rw [run_fn _ _ _ _ rfl]
    show endOf (block (cx n) [.ret _] [v] m) = _
    rw [bl_ret, e_and]
    cases v with
    | int i =>
      have h1 : E.isi (.loc 0) [.int] (cx n) [.int i] m = .ok (.bool true) m := rfl
      have h2 : E.isi (.loc 0) [.bool] (cx n) [.int i] m = .ok (.bool false) m := rfl
      rw [h1, b_ok, t_b, if_pos rfl, e_and, e_not, h2, b_ok, t_b, b_ok, t_b, Bool.not_false, if_pos rfl, e_chain _ _ _ _ _ _ _ _ _ _ _ (e_cst _ _ _ _) (e_loc _ _ _ _ _ rfl (by simp)) (le_int _ _ _), e_cst, b_ok, le_int, tri_b]
      show _ = R.ok (Val.bool (inCnt i)) m
      unfold inCnt
      by_cases h : (0 : Int) ≤ i
      · rw [if_pos (decide_eq_true h), decide_eq_true h]; rfl
      · rw [if_neg (by simpa using h), decide_eq_false h]; rfl
    | none => rfl
    | bool b => rfl
    | str i => rfl
    | tup xs => rfl
    | ref a =>
      have h : (match lstAt m a with | some xs => xs.all (Pl m d) | none => false) = true := hp
      cases e : lstAt m a with
      | none => rw [e] at h; cases h
      | some xs =>
        have hisi : E.isi (.loc 0) [.int] (cx n) [.ref a] m = .ok (.bool false) m := by
          show opt 47 (hasTys prog.classes m (.ref a) [.int]) _ = _
          simp [hasTys, hasTy, isBlt, tyN, tyRef, e, TyN.is, opt]
        rw [hisi]
        rfl
    | _ => cases hp
theorem e_setdef (o e e' : E) (f : Cx) (σ : List Val) (m : M) {d : Nat} {kvs : List (Val × Val)} {x y : Val} (h1 : o f σ m = .ok (.ref d) m) (h2 : e f σ m = .ok x m) (h3 : e' f σ m = .ok y m) (hd : m.t.get d = some (.dct kvs)) : E.mSetdefault o e e' f σ m = E.setdef (.ref d) x y m := by
  show (o f σ m).bind _ = _
  rw [h1, b_ok]
  have : E.isD m (.ref d) = true := by
    show isSome (dctAt m d) = true
    unfold dctAt; rw [hd]; rfl
  simp only [this, h2, h3, b_ok]
theorem setdef_some {m : M} {d : Nat} {l : KL} {i : Int} {y : Val} {x : List Nat} (hd : m.t.get d = some (.dct (kvV l))) (hl : l.length < 16777216) (h : l.lookup i = some x) : E.setdef (.ref d) (.int i) y m = .ok (.str x) m := by
  unfold E.setdef dctW
  simp only [hd]
  rw [show Nat.blt (kvV l).length SIZE = true from Nat.ble_eq_true_of_le (by show (kvV l).length + 1 ≤ _; unfold kvV SIZE; rw [List.length_map]; omega)]
  simp only [look, isKey, opt, lookK_kvV, h, Option.map_some]
theorem setdef_none {m : M} {d : Nat} {l : KL} {i : Int} {w : List Nat} (hd : m.t.get d = some (.dct (kvV l))) (hl : l.length < 16777216) (h : l.lookup i = none) : E.setdef (.ref d) (.int i) (.str w) m = .ok (.str w) (putObj m d (.dct (kvV (l ++ [(i, w)])))) := by
  unfold E.setdef dctW
  simp only [hd]
  rw [show Nat.blt (kvV l).length SIZE = true from Nat.ble_eq_true_of_le (by show (kvV l).length + 1 ≤ _; unfold kvV SIZE; rw [List.length_map]; omega)]
  simp only [look, isKey, opt, lookK_kvV, h, Option.map_none, putK_kvV h]
theorem eqv_str (s t : List Nat) (m : M) : eqv m (.str s) (.str t) = .ofB (decide (s = t)) := by
  show eqB m EQN (.str s) (.str t) = _
  unfold eqB
  show Tri.ofB (strEq s t) = _
  rw [strEq_eq]
theorem att_ok {f : Cx} {σ : List Val} {m : M} {k : Nat} {c : Nat} {fs : List (Nat × Val)} {fl : Nat} {v : Val} (e : E) (h : e f σ m = .ok (.ref k) m) (ho : m.t.get k = some (.ins c fs)) (hv : fldGet fl fs = some v) : E.att e fl f σ m = .ok v m := by
  show (e f σ m).bind _ = _
  rw [h, b_ok]
  show E.attI m k fl = _
  unfold E.attI
  simp only [ho, hv, opt]
theorem takes_ok (n : Nat) {m : M} {k d D : Nat} {s : KSt} {v : Val} {w : List Nat} (hf : Full m.t m.n) (hk : KS m k d s) (hp : Pl m D v = true) (hl : s.l.length < 16777216) :
    ∃ m', (cx (n + 2)).call 3 [.ref k, v, .str w] m = .ok (.bool (pTakes s v w).1) m' ∧ KS m' k d (pTakes s v w).2 ∧ Gr m m' [k, d] := by
  have hu : v ≠ .und := by rintro rfl; cases D <;> cases hp
  show ∃ m', runFn f3 (cx (n + 1)) [.ref k, v, .str w] m = _ ∧ _
  rw [run_fn _ _ _ _ rfl]
  show ∃ m', endOf (block (cx (n + 1)) [.ret _] [.ref k, v, .str w] m) = _ ∧ _
  rw [bl_ret, e_and, e_call, l_cons, e_loc _ _ _ _ v rfl hu, b_ok, l_nil, b_ok, b_ok, is_count_ok n hp, b_ok, t_b]
  cases v with
  | int i =>
    show ∃ m', endOf (((if inCnt i = true then _ else _) : R Val).bind _) = R.ok (Val.bool (if inCnt i then _ else _ : Bool × KSt).1) m' ∧ KS m' k d (if inCnt i then _ else _ : Bool × KSt).2 ∧ _
    by_cases hc : inCnt i = true
    · rw [if_pos hc, if_pos hc]
      have ho : E.att (.loc 0) 0 (cx (n + 1)) [.ref k, .int i, .str w] m = .ok (.ref d) m := att_ok _ (e_loc _ _ _ _ _ rfl (by simp)) hk.o rfl
      rw [e_cmp, e_setdef _ _ _ _ _ _ ho (e_loc _ _ _ _ _ rfl (by simp)) (e_loc _ _ _ _ _ rfl (by simp)) hk.t]
      cases hlk : s.l.lookup i with
      | some x =>
        rw [setdef_some hk.t hl hlk, b_ok, e_loc _ _ _ _ (.str w) rfl (by simp), b_ok]
        show ∃ m', endOf ((tri (eqv m (.str x) (.str w)) m).bind _) = _ ∧ _
        rw [eqv_str, tri_b, b_ok, o_ret]
        refine ⟨m, ?_, hk, Gr.refl hf⟩
        show _ = R.ok (Val.bool (strEq x w)) m
        rw [strEq_eq]
      | none =>
        rw [setdef_none hk.t hl hlk, b_ok, e_loc _ _ _ _ (.str w) rfl (by simp), b_ok]
        have hd := get_lt hf hk.t
        refine ⟨putObj m d (.dct (kvV (s.l ++ [(i, w)]))), ?_, ⟨?_, ?_⟩, (Gr.put hf hd _).mono (by simp)⟩
        · show endOf ((tri (eqv _ (.str w) (.str w)) _).bind _) = R.ok (Val.bool true) _
          rw [eqv_str, decide_eq_true rfl]
          rfl
        · rw [put_get hf hd, if_neg hk.ne]; exact hk.o
        · rw [put_get hf hd, if_pos rfl]
    · rw [if_neg hc, if_neg hc]
      exact ⟨m, rfl, hk, Gr.refl hf⟩
  | _ => exact ⟨m, rfl, hk, Gr.refl hf⟩
theorem is_none {m : M} {D : Nat} {v : Val} (hp : Pl m D v = true) : isV v .none = .ofB (isNone v) := rfl
theorem methOf_ok {m : M} {k c nm g : Nat} {fs : List (Nat × Val)} (ho : m.t.get k = some (.ins c fs)) (hm : methC prog.classes c nm = some g) (n : Nat) : methOf (cx n).p (.ref k) m nm = some g := by
  have : clsOf m k = some c := by unfold clsOf; rw [ho]
  show (match clsOf m k with | some c => methC (cx n).p c nm | .none => .none) = _
  rw [this]
  cases n <;> exact hm
theorem tail_ok (n : Nat) {m : M} {k d D : Nat} {s : KSt} {v : Val} {w : List Nat} (hf : Full m.t m.n) (hk : KS m k d s) (hp : Pl m D v = true) (hl : s.l.length < 16777216) :
    ∃ m', (cx (n + 3)).call 4 [.ref k, v, .str w] m = .ok (.bool (pTail s v w).1) m' ∧ KS m' k d (pTail s v w).2 ∧ Gr m m' [k, d] := by
  have hu : v ≠ .und := by rintro rfl; cases D <;> cases hp
  show ∃ m', runFn f4 (cx (n + 2)) [.ref k, v, .str w] m = _ ∧ _
  rw [run_fn _ _ _ _ rfl]
  show ∃ m', endOf (block (cx (n + 2)) [.ret _] [.ref k, v, .str w] m) = _ ∧ _
  rw [bl_ret, e_or, e_cmp, e_loc _ _ _ _ v rfl hu, b_ok, e_cst, b_ok]
  show ∃ m', endOf ((((tri (isV v .none) m).bind _)).bind _) = _ ∧ _
  rw [is_none hp, tri_b, b_ok, t_b]
  by_cases hn : v = .none
  · subst hn
    exact ⟨m, rfl, hk, Gr.refl hf⟩
  · have e1 : isNone v = false := by cases v <;> first | rfl | exact absurd rfl hn
    rw [e1, if_neg Bool.false_ne_true, e_meth, e_loc _ _ _ _ (.ref k) rfl (by simp), b_ok, methOf_ok hk.o (g := 3) rfl, op_some, l_cons, e_loc _ _ _ _ v rfl hu, b_ok, l_cons, e_loc _ _ _ _ (.str w) rfl (by simp), b_ok, l_nil, b_ok, b_ok, b_ok]
    obtain ⟨m', h1, h2, h3⟩ := takes_ok n (w := w) hf hk hp hl
    have e2 : pTail s v w = pTakes s v w := by cases v <;> first | rfl | exact absurd rfl hn
    rw [e2]
    exact ⟨m', by rw [h1]; rfl, h2, h3⟩
end K02
set_option Elab.async false
set_option linter.all false
set_option maxRecDepth 100000
set_option maxHeartbeats 4000000
/-! PK3: effects. -/
namespace K02
open MP Snd PL
theorem allcall {f : Cx} {σ : List Val} {m : M} {i g : Nat} {e0 : E} {xs : List Val} {p : Val → Bool} (hf : Full m.t m.n) (he : e0 f σ m = .ok (.tup xs) m) (hxs : xs.length ≤ 1000) (hi : i < σ.length) (hu : ∀ x ∈ xs, x ≠ .und)
    (hc : ∀ x ∈ xs, ∀ m', Gr m m' [] → ∃ m2, f.call g [x] m' = .ok (.bool (p x)) m2 ∧ Gr m' m2 []) :
    ∃ m', E.bAll (E.lc (.loc i) (.val e0) [i] none (E.call g [.loc i])) f σ m = .ok (.bool (xs.all p)) m' ∧ Gr m m' [] := by
  obtain ⟨acc, m1, h1, h2, h3⟩ := comp_fold (f := f) (t := .loc i) (w := .vals xs) (c := none) (e := E.call g [.loc i]) (σ := wipe [i] σ) xs.length (by omega) (fun k acc m' => acc = ((xs.take k).map fun c => Val.bool (p c)).reverse ∧ Gr m m' []) (m0 := m) ⟨rfl, Gr.refl hf⟩
    (fun acc m' _ => vals_done m') (fun k acc m' hk ⟨e1, g1⟩ => by
      obtain ⟨m2, c1, c2⟩ := hc xs[k] (List.getElem_mem hk) m' g1
      refine ⟨_, _, _, vals_item hk m', rfl, .bool (p xs[k]), m2, ?_, ?_, g1.tr c2⟩
      · rw [e_call, l_cons, e_loc _ _ _ _ _ (nth_setN _ _ _ (by rw [wipe_len]; exact hi)) (hu _ (List.getElem_mem hk)), b_ok, l_nil, b_ok, b_ok, c1]
      · rw [e1, List.take_succ_eq_append_getElem hk, List.map_append, List.reverse_append]
        rfl)
  subst h2
  rw [List.take_of_length_le (Nat.le_refl _)] at h1
  have hit : It.val e0 f σ m = .ok (.vals xs) m := by
    show (e0 f σ m).bind _ = _
    rw [he]
    rfl
  have hlc := e_lc (.loc i) (.val e0) [i] none (E.call g [.loc i]) f σ m _ _ _ _ hit h1 (by simp; omega)
  have hall := e_all _ f σ m m1.n _ (xs.map p) hlc (by
    rw [List.reverse_reverse, List.map_map]
    exact lst_allo h3.wf _)
  rw [List.all_map] at hall
  exact ⟨_, hall, h3.trans (Gr.allo h3.wf _) (fun _ h _ => h)⟩
theorem eqv_int (a b : Int) (m : M) : eqv m (.int a) (.int b) = .ofB (decide (a = b)) := rfl
theorem eq_int (a b : Int) (m : M) : cmpop .eq m (.int a) (.int b) = .ofB (decide (a = b)) := rfl
theorem ne_int (a b : Int) (m : M) : cmpop .ne m (.int a) (.int b) = .ofB (!decide (a = b)) := neg_b _
theorem eq_str (a b : List Nat) (m : M) : cmpop .eq m (.str a) (.str b) = .ofB (decide (a = b)) := eqv_str a b m
theorem ne_str (a b : List Nat) (m : M) : cmpop .ne m (.str a) (.str b) = .ofB (!decide (a = b)) := by
  show (eqv m (.str a) (.str b)).neg = _
  rw [eqv_str, neg_b]
theorem eqL_strs (m : M) (n : Nat) : ∀ l l' : List (List Nat), eqL (eqN m (n + 1)) (E.strsV l) (E.strsV l') = .ofB (decide (l = l'))
  | [], [] => rfl
  | [], _ :: _ => by simp [E.strsV, eqL, Tri.ofB]
  | _ :: _, [] => by simp [E.strsV, eqL, Tri.ofB]
  | a :: l, b :: l' => by
    show (match Tri.ofB (strEq a b) with | .yes => eqL (eqN m (n + 1)) (E.strsV l) (E.strsV l') | r => r) = _
    rw [strEq_eq]
    by_cases h : a = b
    · subst h
      rw [decide_eq_true rfl]
      show eqL _ _ _ = _
      rw [eqL_strs m n l l']
      simp
    · rw [decide_eq_false h]
      show Tri.no = _
      simp [h, Tri.ofB]
theorem dat_strs (m : M) (n : Nat) : ∀ l : List (List Nat), datL (datN m (n + 1)) (E.strsV l) = true
  | [] => rfl
  | a :: l => dat_strs m n l
theorem strs_of : ∀ {ns : List Val} {l : List (List Nat)}, MP.txts ns = some l → ns = E.strsV l
  | [], l, h => by cases h; rfl
  | x :: r, l, h => by
    cases x with
    | str s =>
      have h : (match MP.txts r with | some l => some (s :: l) | .none => .none) = some l := h
      cases e : MP.txts r with
      | none => rw [e] at h; cases h
      | some l' =>
        rw [e] at h
        cases h
        rw [strs_of e]
        rfl
    | _ => cases h
theorem strs_lab : ∀ {ns : List Val}, ns.all isLab = true → ∃ l, MP.txts ns = some l
  | [], _ => ⟨[], rfl⟩
  | x :: r, h => by
    obtain ⟨h1, h2⟩ := Bool.and_eq_true_iff.mp (show (isLab x && r.all isLab) = true from h)
    obtain ⟨l, e⟩ := strs_lab h2
    cases x with
    | str s => exact ⟨s :: l, by show (match MP.txts r with | some l => some (s :: l) | .none => .none) = _; rw [e]⟩
    | _ => cases h1
theorem strsV_len : ∀ l : List (List Nat), (E.strsV l).length = l.length
  | [] => rfl
  | _ :: l => by show (E.strsV l).length + 1 = _; rw [strsV_len l]; rfl
/-- two lists of texts -/
theorem eqv_strs {m : M} {a b : Nat} {l l' : List (List Nat)} (ha : lstAt m a = some (E.strsV l)) (hb : lstAt m b = some (E.strsV l')) : eqv m (.ref a) (.ref b) = .ofB (decide (l = l')) := by
  show eqB m 120 (.ref a) (.ref b) = _
  have d1 : datN m 120 (.ref a) = true := by
    show (match lstAt m a with | some xs => datL (datN m 119) xs | .none => false) = true
    rw [ha]
    exact dat_strs m 118 l
  have d2 : datN m 120 (.ref b) = true := by
    show (match lstAt m b with | some xs => datL (datN m 119) xs | .none => false) = true
    rw [hb]
    exact dat_strs m 118 l'
  unfold eqB
  rw [d1, d2]
  show eqRef (eqN m 119) m a (.ref b) = _
  unfold eqRef
  rw [ha]
  simp only [hb]
  exact eqL_strs m 118 l l'
theorem Pl.tup {m : M} {n : Nat} {xs : List Val} (h : Pl m (n + 1) (.tup xs) = true) : (∀ x ∈ xs, Pl m n x = true) ∧ xs.length ≤ 60 := by
  obtain ⟨h1, h2⟩ := Bool.and_eq_true_iff.mp (show (xs.all (Pl m n) && Nat.ble xs.length 60) = true from h)
  exact ⟨List.all_eq_true.mp h1, Nat.le_of_ble_eq_true h2⟩
theorem Pl.nu {m : M} {n : Nat} {v : Val} (h : Pl m n v = true) : v ≠ .und := by rintro rfl; cases n <;> cases h
/-- isinstance of one built-in type -/
theorem isi_tup {m : M} {D : Nat} {v : Val} {n : Nat} {σ : List Val} {e : E} (hp : Pl m D v = true) (he : e (cx n) σ m = .ok v m) : E.isi e [.tup] (cx n) σ m = .ok (.bool (isTup v)) m := by
  cases D with
  | zero => cases hp
  | succ D =>
    show (e (cx n) σ m).bind (fun v m => opt 47 (hasTys (cx n).p m v [.tup]) fun b => .ok (.bool b) m) = _
    rw [he, b_ok]
    cases v with
    | ref a =>
      have h : (match lstAt m a with | some xs => xs.all (Pl m D) | none => false) = true := hp
      cases q : lstAt m a with
      | none => rw [q] at h; cases h
      | some xs => simp [hasTys, hasTy, isBlt, tyN, tyRef, q, TyN.is, opt, isTup]
    | none => rfl
    | bool _ => rfl
    | int _ => rfl
    | str _ => rfl
    | tup _ => rfl
    | _ => cases hp
theorem isi_str {m : M} {D : Nat} {v : Val} {n : Nat} {σ : List Val} {e : E} (hp : Pl m D v = true) (he : e (cx n) σ m = .ok v m) : E.isi e [.str] (cx n) σ m = .ok (.bool (isStr v)) m := by
  cases D with
  | zero => cases hp
  | succ D =>
    show (e (cx n) σ m).bind (fun v m => opt 47 (hasTys (cx n).p m v [.str]) fun b => .ok (.bool b) m) = _
    rw [he, b_ok]
    cases v with
    | ref a =>
      have h : (match lstAt m a with | some xs => xs.all (Pl m D) | none => false) = true := hp
      cases q : lstAt m a with
      | none => rw [q] at h; cases h
      | some xs => simp [hasTys, hasTy, isBlt, tyN, tyRef, q, TyN.is, opt, isStr]
    | none => rfl
    | bool _ => rfl
    | int _ => rfl
    | str _ => rfl
    | tup _ => rfl
    | _ => cases hp
theorem item_tup {xs : List Val} {k : Nat} (h : k < xs.length) (m : M) : item (.tup xs) (.int (Int.ofNat k)) m = .ok xs[k] m := by
  show getAt xs (.int (Int.ofNat k)) _ = _
  unfold getAt ixOf
  simp only [show Nat.blt k xs.length = true from Nat.ble_eq_true_of_le h, nth_get?, List.getElem?_eq_getElem h]
theorem idx_ok {f : Cx} {σ : List Val} {m : M} {e : E} {xs : List Val} {k : Nat} (he : e f σ m = .ok (.tup xs) m) (h : k < xs.length) : E.idx e (.cst (.int (Int.ofNat k))) f σ m = .ok xs[k] m := by
  rw [e_idx, he, b_ok, e_cst, b_ok, item_tup h]
theorem len_ok {f : Cx} {σ : List Val} {m : M} {e : E} {xs : List Val} (he : e f σ m = .ok (.tup xs) m) : E.bLen e f σ m = .ok (.int xs.length) m := by
  rw [e_len, he, b_ok]; rfl
/-- sorted(t) != list(t) -/
theorem srt_ok {f : Cx} {σ : List Val} {m : M} {e e2 : E} {ns : List Val} {l : List (List Nat)} (hf : Full m.t m.n) (he : e f σ m = .ok (.tup ns) m) (he2 : ∀ m', Gr m m' [] → e2 f σ m' = .ok (.tup ns) m') (hl : MP.txts ns = some l) (hlen : ns.length < 64) :
    ∃ m', E.cmp .ne (.bSortedS e) (.bList e2) f σ m = .ok (.bool (!srt ns)) m' ∧ Gr m m' [] := by
  have hb : Nat.blt l.length 64 = true := by
    rw [strs_of hl, strsV_len] at hlen
    exact Nat.ble_eq_true_of_le hlen
  have h1 : E.bSortedS e f σ m = .ok (.ref m.n) (allo m (.lst (E.strsV (sortS l)))) := by
    show (e f σ m).bind E.sortedV = _
    rw [he, b_ok]
    show opt 56 (some ns) _ = _
    rw [op_some, hl, op_some, hb]
    rfl
  have g1 := Gr.allo (S := []) hf (.lst (E.strsV (sortS l)))
  have g2 := Gr.allo (S := []) g1.wf (.lst ns)
  refine ⟨_, ?_, g1.tr g2⟩
  rw [e_cmp, h1, b_ok]
  show ((e2 f σ _).bind _).bind _ = _
  rw [he2 _ g1, b_ok]
  show (opt 52 (some ns) _).bind _ = _
  rw [op_some, mkObj_eq, b_ok]
  show tri (eqv (allo (allo m (.lst (E.strsV (sortS l)))) (.lst ns)) (.ref m.n) (.ref (m.n + 1))).neg _ = _
  have q1 : lstAt (allo (allo m (.lst (E.strsV (sortS l)))) (.lst ns)) m.n = some (E.strsV (sortS l)) := by
    rw [lstAt_of_get (g2.same m.n (Nat.lt_succ_self _) (by simp))]
    exact lst_allo hf _
  have q2 : lstAt (allo (allo m (.lst (E.strsV (sortS l)))) (.lst ns)) (m.n + 1) = some (E.strsV l) := by
    rw [← strs_of hl]
    exact lst_allo g1.wf _
  rw [eqv_strs q1 q2, neg_b, tri_b]
  have : srt ns = decide (sortS l = l) := by
    unfold srt
    rw [hl]
    simp only [decide_eq_decide]
    exact eq_comm
  rw [this]
theorem eff_ok (n : Nat) {m : M} {k d D : Nat} {s : KSt} {v : Val} (hf : Full m.t m.n) (hk : KS m k d s) (hp : Pl m D v = true) (hl : s.l.length < 16777216) :
    ∃ m', (cx (n + 4)).call 5 [.ref k, v] m = .ok (.bool (pEff s v).1) m' ∧ KS m' k d (pEff s v).2 ∧ Gr m m' [k, d] := by
  have hu : v ≠ .und := Pl.nu hp
  have hloc : ∀ m, E.loc 1 (cx (n + 3)) [.ref k, v, .und] m = .ok v m := fun m => e_loc _ _ _ _ _ rfl hu
  show ∃ m', runFn f5 (cx (n + 3)) [.ref k, v] m = _ ∧ _
  rw [run_fn _ _ _ _ rfl]
  show ∃ m', endOf (block (cx (n + 3)) [.ite _ [.ret (.cst (.bool false))] [], .ite _ [.ret (.cst (.bool false))] [], .ret _] [.ref k, v, .und] m) = _ ∧ _
  rw [bl_ite, e_or, e_not, isi_tup hp (hloc m), b_ok, t_b, b_ok, t_b]
  have fin : ∀ {b : Bool × KSt}, b = (false, s) → ∃ m', endOf (goOn (cx (n + 3)) [.ite (.or (.not (.bAll (.lc (.loc 2) (.val (.idx (.loc 1) (.cst (.int 0)))) [2] none (.call 0 [(.loc 2)])))) (.cmp .ne (.bSortedS (.idx (.loc 1) (.cst (.int 0)))) (.bList (.idx (.loc 1) (.cst (.int 0)))))) [(.ret (.cst (.bool false)))] [], .ret (.meth (.loc 0) 4 [(.idx (.loc 1) (.cst (.int 1))), (.cst (.str [101,102,102,101,99,116,115]))])] (block (cx (n + 3)) [.ret (.cst (.bool false))] [.ref k, v, .und] m)) = .ok (.bool b.1) m' ∧ KS m' k d b.2 ∧ Gr m m' [k, d] := fun e => by
    rw [e]
    exact ⟨m, rfl, hk, Gr.refl hf⟩
  cases D with
  | zero => cases hp
  | succ D =>
  cases v with
  | tup xs =>
    obtain ⟨px, hlen⟩ := Pl.tup hp
    rw [show (!isTup (.tup xs)) = false from rfl, if_neg Bool.false_ne_true, e_or, e_cmp, len_ok (hloc m), b_ok, e_cst, b_ok, ne_int, tri_b, b_ok, t_b]
    by_cases h2 : (xs.length : Int) = 2
    · obtain ⟨a, t, rfl⟩ : ∃ a t, xs = [a, t] := by
        match xs, h2 with
        | [a, t], _ => exact ⟨a, t, rfl⟩
        | [], h => simp at h
        | [_], h => simp at h
        | _ :: _ :: _ :: _, h => simp at h; omega
      have i0 : ∀ m', E.idx (.loc 1) (.cst (.int 0)) (cx (n + 3)) [.ref k, .tup [a, t], .und] m' = .ok a m' := fun m' => idx_ok (k := 0) (hloc m') (by simp)
      have i1 : ∀ m', E.idx (.loc 1) (.cst (.int 1)) (cx (n + 3)) [.ref k, .tup [a, t], .und] m' = .ok t m' := fun m' => idx_ok (k := 1) (hloc m') (by simp)
      have pa : Pl m D a = true := px a (by simp)
      have pt : Pl m D t = true := px t (by simp)
      rw [decide_eq_true h2, Bool.not_true, if_neg Bool.false_ne_true, e_not, isi_tup pa (i0 m), b_ok, t_b, b_ok, t_b]
      cases D with
      | zero => cases pa
      | succ D =>
      cases a with
      | tup ns =>
        obtain ⟨pn, hln⟩ := Pl.tup pa
        rw [show (!isTup (.tup ns)) = false from rfl, if_neg Bool.false_ne_true, bl_nil, go_next, bl_ite, e_or, e_not]
        obtain ⟨m1, a1, g1⟩ := allcall (f := cx (n + 3)) (σ := [.ref k, .tup [.tup ns, t], .und]) (i := 2) (g := 0) (p := isLab) hf (i0 m) (by omega) (by simp) (fun x hx => Pl.nu (pn x hx)) (fun x hx m' g => is_label_ok (n + 2) g.wf (Pl.mono (g.ls hf (by simp)) (pn x hx)))
        rw [a1, b_ok, t_b, b_ok, t_b]
        show ∃ m', _ = R.ok (Val.bool (if (ns.all isLab && srt ns) = true then pTail s t wEFF else (false, s)).1) m' ∧ KS m' k d (if (ns.all isLab && srt ns) = true then pTail s t wEFF else (false, s)).2 ∧ _
        by_cases hlab : ns.all isLab = true
        · rw [hlab, Bool.not_true, if_neg Bool.false_ne_true, Bool.true_and]
          obtain ⟨l, el⟩ := strs_lab hlab
          obtain ⟨m2, a2, g2⟩ := srt_ok (f := cx (n + 3)) (σ := [.ref k, .tup [.tup ns, t], .und]) (e := .idx (.loc 1) (.cst (.int 0))) (e2 := .idx (.loc 1) (.cst (.int 0))) g1.wf (i0 m1) (fun m' _ => i0 m') el (by omega)
          rw [a2, b_ok, t_b]
          have g12 := g1.tr g2
          by_cases hs : srt ns = true
          · rw [hs, Bool.not_true, if_neg Bool.false_ne_true, if_pos rfl, bl_nil, go_next, bl_ret, e_meth, e_loc _ _ _ _ (.ref k) rfl (by simp), b_ok, methOf_ok (hk.gr hf g12).o (g := 4) rfl, op_some, l_cons, i1, b_ok, l_cons, e_cst, b_ok, l_nil, b_ok, b_ok, b_ok]
            obtain ⟨m3, b1, b2, b3⟩ := tail_ok n (w := wEFF) g12.wf (hk.gr hf g12) (Pl.mono (g12.ls hf (by simp)) pt) hl
            exact ⟨m3, by rw [show (cx (n + 3)).call 4 [.ref k, t, .str [101,102,102,101,99,116,115]] m2 = _ from b1]; rfl, b2, (g12.mono (by simp)).tr b3⟩
          · rw [show srt ns = false by simpa using hs, Bool.not_false, if_pos rfl, if_neg Bool.false_ne_true]
            exact ⟨m2, rfl, hk.gr hf g12, g12.mono (by simp)⟩
        · rw [show ns.all isLab = false by simpa using hlab, Bool.not_false, if_pos rfl, Bool.false_and, if_neg Bool.false_ne_true]
          exact ⟨m1, rfl, hk.gr hf g1, g1.mono (by simp)⟩
      | und => exact absurd rfl (Pl.nu pa)
      | _ => exact fin rfl
    · rw [decide_eq_false h2, Bool.not_false, if_pos rfl, b_ok, t_b, if_pos rfl]
      refine fin ?_
      match xs, h2 with
      | [a, t], h => exact absurd rfl h
      | [], _ => rfl
      | [_], _ => rfl
      | _ :: _ :: _ :: _, _ => rfl
  | und => exact absurd rfl hu
  | _ => exact fin rfl
end K02
set_option linter.all false
set_option maxHeartbeats 4000000
/-! PI: what k02's Kinds keep. -/
namespace K02
open MP
theorem pL_snoc (rec : KSt → Val → Bool × KSt) (x : Val) : ∀ (xs : List Val) (s : KSt), pL rec s (xs ++ [x]) = ((pL rec s xs).1 ++ [(rec (pL rec s xs).2 (snd0 x)).1], (rec (pL rec s xs).2 (snd0 x)).2)
  | [], s => rfl
  | y :: r, s => by
    show ((rec s (snd0 y)).1 :: (pL rec _ (r ++ [x])).1, (pL rec _ (r ++ [x])).2) = _
    rw [pL_snoc rec x r]
    rfl
theorem pL_len (rec : KSt → Val → Bool × KSt) : ∀ (xs : List Val) (s : KSt), (pL rec s xs).1.length = xs.length
  | [], s => rfl
  | y :: r, s => by
    show ((rec s (snd0 y)).1 :: (pL rec _ r).1).length = _
    simp [pL_len rec r]
/-- what holds behind a look: few variables, not too many parts, the depth as before -/
structure Inv (s : KSt) (r : Bool × KSt) : Prop where
  len : ∀ j : Int, (s.l.length : Int) + j ≤ s.many → (r.2.l.length : Int) + j ≤ r.2.many
  many : r.1 = true → r.2.many ≤ 400
  wi : r.2.within = s.within
/-- .. of a small look, that may put one variable in -/
structure Sml (s : KSt) (r : Bool × KSt) : Prop where
  len : r.2.l.length ≤ s.l.length + 1
  many : r.2.many = s.many
  wi : r.2.within = s.within
theorem Sml.rfl' (s : KSt) (b : Bool) : Sml s (b, s) := ⟨Nat.le_succ _, rfl, rfl⟩
theorem takes_sml (s : KSt) (c : Val) (w : List Nat) : Sml s (pTakes s c w) := by
  unfold pTakes
  cases c with
  | int i =>
    simp only
    split
    · split
      · exact Sml.rfl' _ _
      · exact ⟨by simp, rfl, rfl⟩
    · exact Sml.rfl' _ _
  | _ => exact Sml.rfl' _ _
theorem tail_sml (s : KSt) (c : Val) (w : List Nat) : Sml s (pTail s c w) := by
  unfold pTail
  split
  · exact Sml.rfl' _ _
  · exact takes_sml _ _ _
theorem eff_sml (s : KSt) (e : Val) : Sml s (pEff s e) := by
  unfold pEff pEff1 pEff2
  split
  · split
    · split
      · split
        · exact tail_sml _ _ _
        · exact Sml.rfl' _ _
      · exact Sml.rfl' _ _
    · exact Sml.rfl' _ _
  · exact Sml.rfl' _ _
theorem pL_inv {rec : KSt → Val → Bool × KSt} (hr : ∀ s v, Inv s (rec s v)) : ∀ (xs : List Val) (s : KSt), s.many ≤ 400 → Inv s (pAll rec s xs)
  | [], s, h => ⟨fun j z => z, fun _ => h, rfl⟩
  | x :: r, s, h => by
    have h1 := hr s (snd0 x)
    have e : pAll rec s (x :: r) = ((rec s (snd0 x)).1 && (pAll rec (rec s (snd0 x)).2 r).1, (pAll rec (rec s (snd0 x)).2 r).2) := rfl
    have aux : ∀ (r : List Val) (s : KSt), (∀ j : Int, (s.l.length : Int) + j ≤ s.many → ((pAll rec s r).2.l.length : Int) + j ≤ (pAll rec s r).2.many) ∧ (pAll rec s r).2.within = s.within := by
      intro r
      induction r with
      | nil => intro s; exact ⟨fun j z => z, rfl⟩
      | cons y r ih =>
        intro s
        have q := hr s (snd0 y)
        have w := ih (rec s (snd0 y)).2
        exact ⟨fun j z => w.1 j (q.len j z), w.2.trans q.wi⟩
    rw [e]
    refine ⟨fun j z => (aux r _).1 j (h1.len j z), fun z => ?_, (aux r _).2.trans h1.wi⟩
    obtain ⟨z1, z2⟩ := Bool.and_eq_true_iff.mp z
    exact (pL_inv hr r _ (h1.many z1)).many z2
theorem word_inv {rec : KSt → Val → Bool × KSt} (hr : ∀ s v, Inv s (rec s v)) {s : KSt} {w : List Nat} {rest : List Val} (h : s.many + 1 ≤ 400) : Inv s (pWord rec { s with many := s.many + 1 } w rest) := by
  have base : ∀ b, Inv s (b, { s with many := s.many + 1 }) := fun b => ⟨fun j z => by show (s.l.length : Int) + j ≤ s.many + 1; omega, fun _ => h, rfl⟩
  have sml : ∀ {r : Bool × KSt}, Sml { s with many := s.many + 1 } r → Inv s r := fun q => ⟨fun j z => by
    have q1 := q.len
    have q2 := q.many
    simp only at q1 q2
    rw [q2]
    omega, fun _ => by have := q.many; simp only at this; omega, q.wi⟩
  unfold pWord
  split
  · exact base true
  · split
    · split
      · exact sml (takes_sml _ _ _)
      · exact base false
    · split
      · split
        · have q := hr { s with many := s.many + 1 } (by assumption)
          exact ⟨fun j z => q.len j (by show (s.l.length : Int) + j ≤ s.many + 1; omega), q.many, q.wi⟩
        · exact base false
      · split
        · split
          · rename_i x e y hn
            have q := hr { s with many := s.many + 1 } x
            unfold andT
            split
            · rename_i hq
              have t := eff_sml (rec { s with many := s.many + 1 } x).2 e
              have t1 := t.len
              have t2 := t.many
              show Inv s (if (pEff (rec { s with many := s.many + 1 } x).2 e).1 = true then rec (pEff (rec { s with many := s.many + 1 } x).2 e).2 y else (false, (pEff (rec { s with many := s.many + 1 } x).2 e).2))
              split
              · have q3 := hr (pEff (rec { s with many := s.many + 1 } x).2 e).2 y
                refine ⟨fun j z => q3.len j ?_, q3.many, q3.wi.trans (t.wi.trans q.wi)⟩
                have := q.len (j + 1) (by show (s.l.length : Int) + (j + 1) ≤ s.many + 1; omega)
                rw [t2]
                omega
              · refine ⟨fun j z => ?_, fun z => (by cases z), t.wi.trans q.wi⟩
                have := q.len (j + 1) (by show (s.l.length : Int) + (j + 1) ≤ s.many + 1; omega)
                show ((pEff (rec { s with many := s.many + 1 } x).2 e).2.l.length : Int) + j ≤ (pEff (rec { s with many := s.many + 1 } x).2 e).2.many
                rw [t2]
                omega
            · exact ⟨fun j z => q.len j (by show (s.l.length : Int) + j ≤ s.many + 1; omega), fun z => (by cases z), q.wi⟩
          · exact base false
        · split
          · split
            · rename_i ps t hn
              have q : Inv { s with many := s.many + 1 } (pPairs rec { s with many := s.many + 1 } ps) := by
                unfold pPairs
                have b2 : Inv { s with many := s.many + 1 } (false, { s with many := s.many + 1 }) := ⟨fun j z => z, fun z => (by cases z), rfl⟩
                split
                · split
                  · exact pL_inv hr _ _ h
                  · exact b2
                · exact b2
              unfold andT
              split
              · rename_i hq
                have u := tail_sml (pPairs rec { s with many := s.many + 1 } ps).2 t wROW
                have u1 := u.len
                have u2 := u.many
                refine ⟨fun j z => ?_, fun z => ?_, u.wi.trans q.wi⟩
                · have := q.len (j + 1) (by show (s.l.length : Int) + (j + 1) ≤ s.many + 1; omega)
                  show ((pTail (pPairs rec { s with many := s.many + 1 } ps).2 t wROW).2.l.length : Int) + j ≤ (pTail (pPairs rec { s with many := s.many + 1 } ps).2 t wROW).2.many
                  rw [u2]
                  omega
                · show (pTail (pPairs rec { s with many := s.many + 1 } ps).2 t wROW).2.many ≤ 400
                  rw [u2]
                  exact q.many hq
              · exact ⟨fun j z => q.len j (by show (s.l.length : Int) + j ≤ s.many + 1; omega), fun z => (by cases z), q.wi⟩
            · exact base false
          · exact base false
theorem formed_inv {rec : KSt → Val → Bool × KSt} (hr : ∀ s v, Inv s (rec s v)) (s : KSt) (v : Val) : Inv s (pFormed rec s v) := by
  have base : Inv s (false, { s with many := s.many + 1 }) := ⟨fun j z => by show (s.l.length : Int) + j ≤ s.many + 1; omega, fun z => (by cases z), rfl⟩
  unfold pFormed
  by_cases h : 400 < s.many + 1
  · rw [if_pos h]; exact base
  · rw [if_neg h]
    cases v with
    | tup xs =>
      cases xs with
      | nil => exact base
      | cons x rest =>
        cases x with
        | str w => exact word_inv hr (by omega)
        | _ => exact base
    | _ => exact base
theorem sort_inv : ∀ (n : Nat) (s : KSt) (v : Val), Inv s (pSort n s v)
  | 0, s, v => ⟨fun j z => z, fun z => (by cases z), rfl⟩
  | n + 1, s, v => by
    unfold pSort
    split
    · have q := formed_inv (sort_inv n) { s with within := s.within + 1 } v
      refine ⟨fun j z => q.len j z, q.many, ?_⟩
      show (pFormed (pSort n) { s with within := s.within + 1 } v).2.within - 1 = s.within
      rw [q.wi]
      show s.within + 1 - 1 = s.within
      omega
    · exact ⟨fun j z => z, fun z => (by cases z), by show s.within + 1 - 1 = s.within; omega⟩
end K02
set_option Elab.async false
set_option linter.all false
set_option maxRecDepth 100000
set_option maxHeartbeats 4000000
/-! PK4: Kinds. -/
namespace K02
open MP Snd PL
/-- all of a comprehension's flags, the heap only grown -/
theorem allG {f : Cx} {σ : List Val} {m : M} {t : Tg} {it : It} {own : List Nat} {e : E} {w : ItV} {zs : List Val} {p : Val → Bool} {τ : Val → List Val} (hf : Full m.t m.n) (hit : it f σ m = .ok w m) (hl : zs.length ≤ 1000)
    (hn : ∀ m' k (h : k < zs.length), w.next m' k = .item zs[k]) (hd : ∀ m', w.next m' zs.length = .done) (ht : ∀ x ∈ zs, ∀ m', t f x (wipe own σ) m' = .ok (τ x) m')
    (he : ∀ x ∈ zs, ∀ m', Gr m m' [] → ∃ m2, e f (τ x) m' = .ok (.bool (p x)) m2 ∧ Gr m' m2 []) : ∃ m', E.bAll (E.lc t it own none e) f σ m = .ok (.bool (zs.all p)) m' ∧ Gr m m' [] := by
  obtain ⟨acc, m1, h1, h2, h3⟩ := comp_fold (f := f) (t := t) (w := w) (c := none) (e := e) (σ := wipe own σ) zs.length (by omega) (fun k acc m' => acc = ((zs.take k).map fun c => Val.bool (p c)).reverse ∧ Gr m m' []) (m0 := m) ⟨rfl, Gr.refl hf⟩
    (fun acc m' _ => hd m') (fun k acc m' hk ⟨e1, g1⟩ => by
      obtain ⟨m2, c1, c2⟩ := he zs[k] (List.getElem_mem hk) m' g1
      refine ⟨_, _, _, hn m' k hk, ht _ (List.getElem_mem hk) m', .bool (p zs[k]), m2, c1, ?_, g1.tr c2⟩
      rw [e1, List.take_succ_eq_append_getElem hk, List.map_append, List.reverse_append]
      rfl)
  subst h2
  rw [List.take_of_length_le (Nat.le_refl _)] at h1
  have hlc := e_lc t it own none e f σ m _ _ _ _ hit h1 (by simp; omega)
  have hall := e_all _ f σ m m1.n _ (zs.map p) hlc (by
    rw [List.reverse_reverse, List.map_map]
    exact lst_allo h3.wf _)
  rw [List.all_map] at hall
  exact ⟨_, hall, h3.tr (Gr.allo h3.wf _)⟩
theorem val_it {f : Cx} {σ : List Val} {m : M} {e : E} {xs : List Val} (h : e f σ m = .ok (.tup xs) m) : It.val e f σ m = .ok (.vals xs) m := by
  show (e f σ m).bind _ = _
  rw [h]
  rfl
/-! ### labels that rise -/
def zipd (xs : List Val) : List Val := (xs.zip (xs.drop 1)).map fun q => .tup [q.1, q.2]
theorem zipd_len (xs : List Val) : (zipd xs).length = xs.length - 1 := by unfold zipd; simp
def lt2 : Val → Bool
  | .tup [a, b] => strLt (lab0 a) (lab0 b)
  | _ => false
theorem asc2_zip : ∀ xs : List Val, (zipd xs).all lt2 = asc2 xs
  | [] => rfl
  | x :: r => by
    cases r with
    | nil => rfl
    | cons y r =>
      have ih := asc2_zip (y :: r)
      show (strLt (lab0 x) (lab0 y) && (zipd (y :: r)).all lt2) = (strLt (lab0 x) (lab0 y) && asc2 (y :: r))
      rw [ih]
theorem zip_next (xs : List Val) (m : M) (k : Nat) : (ItV.zip (.vals xs) (.vals (xs.drop 1))).next m k = match (zipd xs)[k]? with
    | some v => .item v
    | none => .done := by
  show (match nxOf (nth xs k) with | .item v => (match nxOf (nth (xs.drop 1) k) with | .item w => Nx.item (.tup [v, w]) | r => r) | .done => (match nxOf (nth (xs.drop 1) k) with | .odd => .odd | _ => .done) | .odd => .odd) = _
  rw [nth_get?, nth_get?]
  unfold zipd
  rw [List.getElem?_map]
  cases h1 : xs[k]? with
  | none =>
    have : (xs.zip (xs.drop 1))[k]? = none := by
      rw [List.getElem?_eq_none_iff] at h1 ⊢
      simp; omega
    rw [this]
    have h2 : (xs.drop 1)[k]? = none := by
      rw [List.getElem?_eq_none_iff] at h1 ⊢
      simp; omega
    rw [h2]
    rfl
  | some a =>
    cases h2 : (xs.drop 1)[k]? with
    | none =>
      have : (xs.zip (xs.drop 1))[k]? = none := by
        rw [List.getElem?_eq_none_iff] at h2 ⊢
        simp at h2 ⊢; omega
      rw [this]
      rfl
    | some b =>
      have : (xs.zip (xs.drop 1))[k]? = some (a, b) := by rw [List.getElem?_zip_eq_some]; exact ⟨h1, h2⟩
      rw [this]
      rfl
theorem sl1 (xs : List Val) (m : M) : sliced (.tup xs) (some 1) none m = .ok (.tup (xs.drop 1)) m := by
  show R.ok (Val.tup (slice xs (cutOf 1 xs.length) xs.length)) m = _
  unfold slice cutOf
  rw [List.take_of_length_le (Nat.le_refl _)]
  show R.ok (Val.tup (xs.drop (match Nat.blt 1 xs.length with | true => 1 | false => xs.length))) m = _
  cases h : Nat.blt 1 xs.length with
  | true => rfl
  | false =>
    have : xs.length ≤ 1 := by
      apply Nat.le_of_not_lt
      intro q
      rw [show Nat.blt 1 xs.length = true from Nat.ble_eq_true_of_le q] at h
      cases h
    show R.ok (Val.tup (xs.drop xs.length)) m = _
    rw [List.drop_of_length_le (Nat.le_refl _), List.drop_of_length_le this]
theorem okPair_inv {x : Val} (h : okPair x = true) : ∃ s b, x = .tup [.str s, b] ∧ labS s = true := by
  cases x with
  | tup xs =>
    have h : okPair1 xs = true := h
    match xs, h with
    | [a, b], h =>
      have h : isLab a = true := h
      cases a with
      | str s => exact ⟨s, b, rfl, h⟩
      | _ => cases h
    | [], h => cases h
    | [_], h => cases h
    | _ :: _ :: _ :: _, h => cases h
  | _ => cases h
/-- one pair's look -/
theorem pair_ok {n : Nat} {m : M} {D : Nat} {x : Val} {σ : List Val} {i : Nat} (hf : Full m.t m.n) (hp : Pl m D x = true) (hx : nth σ i = some x) :
    ∃ m', E.and (.isi (.loc i) [.tup]) (.and (.cmp .eq (.bLen (.loc i)) (.cst (.int 2))) (.call 0 [(.idx (.loc i) (.cst (.int 0)))])) (cx (n + 1)) σ m = .ok (.bool (okPair x)) m' ∧ Gr m m' [] := by
  have hloc : ∀ m, E.loc i (cx (n + 1)) σ m = .ok x m := fun m => e_loc _ _ _ _ _ hx (Pl.nu hp)
  rw [e_and, isi_tup hp (hloc m), b_ok, t_b]
  cases D with
  | zero => cases hp
  | succ D =>
  cases x with
  | tup xs =>
    obtain ⟨px, hlen⟩ := Pl.tup hp
    rw [show isTup (.tup xs) = true from rfl, if_pos rfl, e_and, e_cmp, len_ok (hloc m), b_ok, e_cst, b_ok, eq_int, tri_b, b_ok, t_b]
    show ∃ m', _ = R.ok (Val.bool (okPair1 xs)) m' ∧ _
    by_cases h2 : (xs.length : Int) = 2
    · obtain ⟨a, t, rfl⟩ : ∃ a t, xs = [a, t] := by
        match xs, h2 with
        | [a, t], _ => exact ⟨a, t, rfl⟩
        | [], h => simp at h
        | [_], h => simp at h
        | _ :: _ :: _ :: _, h => simp at h; omega
      rw [decide_eq_true h2, if_pos rfl, e_call, l_cons, show E.idx (.loc i) (.cst (.int 0)) (cx (n + 1)) σ m = .ok a m from idx_ok (k := 0) (hloc m) (by simp), b_ok, l_nil, b_ok, b_ok]
      exact is_label_ok n hf (px a (by simp))
    · rw [decide_eq_false h2, if_neg Bool.false_ne_true]
      refine ⟨m, ?_, Gr.refl hf⟩
      match xs, h2 with
      | [a, t], h => exact absurd rfl h
      | [], _ => rfl
      | [_], _ => rfl
      | _ :: _ :: _ :: _, _ => rfl
  | _ => exact ⟨m, rfl, Gr.refl hf⟩
/-! ### the walk of Kinds.is_sort, by its depth -/
def SortW (rec : KSt → Val → Bool × KSt) (lo : Int) (L : Nat) : Prop := ∀ (m : M) (k d D : Nat) (s : KSt) (v : Val), Full m.t m.n → KS m k d s → Pl m D v = true → D ≤ 100 → (s.l.length : Int) ≤ s.many → lo ≤ s.within → ∃ m', (cx L).call 7 [.ref k, v] m = .ok (.bool (rec s v).1) m' ∧ KS m' k d (rec s v).2 ∧ Gr m m' [k, d]
theorem Pl.ls {m m' : M} (l : Ls m m') {n : Nat} {v : Val} (h : Pl m n v = true) : Pl m' n v = true := Pl.mono l h
/-- what the small looks ahead of the last one leave -/
theorem pairs_ok {n : Nat} {rec : KSt → Val → Bool × KSt} {lo : Int} (hw : SortW rec lo (n + 1)) (hi : ∀ s v, Inv s (rec s v)) {m : M} {k d D : Nat} {s : KSt} {v : Val} (hf : Full m.t m.n) (hk : KS m k d s) (hp : Pl m D v = true) (hD : D ≤ 100) (hl : (s.l.length : Int) ≤ s.many) (hlo : lo ≤ s.within) :
    ∃ m', (cx (n + 2)).call 6 [.ref k, v] m = .ok (.bool (pPairs rec s v).1) m' ∧ KS m' k d (pPairs rec s v).2 ∧ Gr m m' [k, d] := by
  have hu : v ≠ .und := Pl.nu hp
  have hloc : ∀ m, E.loc 1 (cx (n + 1)) [.ref k, v, .und, .und, .und] m = .ok v m := fun m => e_loc _ _ _ _ _ rfl hu
  show ∃ m', runFn f6 (cx (n + 1)) [.ref k, v] m = _ ∧ _
  rw [run_fn _ _ _ _ rfl]
  show ∃ m', endOf (block (cx (n + 1)) [.ite _ [.ret (.cst (.bool false))] [], .ite _ [.ret (.cst (.bool false))] [], .ite _ [.ret (.cst (.bool false))] [], .ret _] [.ref k, v, .und, .und, .und] m) = _ ∧ _
  rw [bl_ite, e_not, isi_tup hp (hloc m), b_ok, t_b, b_ok, t_b]
  cases D with
  | zero => cases hp
  | succ D =>
  cases v with
  | tup xs =>
    obtain ⟨px, hlen⟩ := Pl.tup hp
    rw [show (!isTup (.tup xs)) = false from rfl, if_neg Bool.false_ne_true, bl_nil, go_next, bl_ite, e_not]
    obtain ⟨m1, a1, g1⟩ := allG (f := cx (n + 1)) (σ := [.ref k, .tup xs, .und, .und, .und]) (t := .loc 2) (it := .val (.loc 1)) (own := [2]) (e := .and (.isi (.loc 2) [.tup]) (.and (.cmp .eq (.bLen (.loc 2)) (.cst (.int 2))) (.call 0 [(.idx (.loc 2) (.cst (.int 0)))]))) (w := .vals xs) (zs := xs) (p := okPair) (τ := fun x => [.ref k, .tup xs, x, .und, .und]) hf (val_it (hloc m)) (by omega)
      (fun m' k h => vals_item h m') (fun m' => vals_done m') (fun x _ m' => rfl) (fun x hx m' g => pair_ok g.wf (Pl.mono (g.ls hf (by simp)) (px x hx)) rfl)
    rw [a1, b_ok, t_b, b_ok, t_b]
    show ∃ m', _ = R.ok (Val.bool (if (xs.all okPair && asc2 xs) = true then pAll rec s xs else (false, s)).1) m' ∧ KS m' k d (if (xs.all okPair && asc2 xs) = true then pAll rec s xs else (false, s)).2 ∧ _
    by_cases hlab : xs.all okPair = true
    · rw [hlab, Bool.not_true, if_neg Bool.false_ne_true, Bool.true_and, bl_nil, go_next, bl_ite, e_not]
      have hpair := List.all_eq_true.mp hlab
      have hzmem : ∀ z ∈ zipd xs, ∃ s b s' b', z = .tup [.tup [.str s, b], .tup [.str s', b']] := fun z hz => by
        obtain ⟨⟨a, b⟩, h1, rfl⟩ := List.mem_map.mp hz
        obtain ⟨h2, h3⟩ := List.of_mem_zip h1
        obtain ⟨s, c, rfl, _⟩ := okPair_inv (hpair a h2)
        obtain ⟨s', c', rfl, _⟩ := okPair_inv (hpair b (List.mem_of_mem_drop h3))
        exact ⟨s, c, s', c', rfl⟩
      obtain ⟨m2, a2, g2⟩ := allG (f := cx (n + 1)) (σ := [.ref k, .tup xs, .und, .und, .und]) (m := m1) (t := .tup [(.loc 3), (.loc 4)]) (it := .zip (.loc 1) (.slc (.loc 1) (some (.cst (.int 1))) none)) (own := [3, 4]) (e := .cmp .lt (.idx (.loc 3) (.cst (.int 0))) (.idx (.loc 4) (.cst (.int 0)))) (w := .zip (.vals xs) (.vals (xs.drop 1))) (zs := zipd xs) (p := lt2)
        (τ := fun z => match z with | .tup [a, b] => [.ref k, .tup xs, .und, a, b] | _ => []) g1.wf
        (by
          show (evL (cx (n + 1)) [.loc 1, .slc (.loc 1) (some (.cst (.int 1))) none] [.ref k, .tup xs, .und, .und, .und] m1).bind _ = _
          rw [l_cons, hloc, b_ok, l_cons]
          have e1 : E.slc (.loc 1) (some (.cst (.int 1))) none (cx (n + 1)) [.ref k, .tup xs, .und, .und, .und] m1 = .ok (.tup (xs.drop 1)) m1 := by
            show (E.loc 1 (cx (n + 1)) _ m1).bind _ = _
            rw [hloc, b_ok]
            exact sl1 xs m1
          rw [e1, b_ok, l_nil, b_ok, b_ok, b_ok]
          rfl) (by rw [zipd_len]; omega)
        (fun m' k h => by rw [zip_next, List.getElem?_eq_getElem h]) (fun m' => by rw [zip_next, List.getElem?_eq_none (Nat.le_refl _)])
        (fun z hz m' => by obtain ⟨s, b, s', b', rfl⟩ := hzmem z hz; rfl)
        (fun z hz m' g => by
          obtain ⟨s, b, s', b', rfl⟩ := hzmem z hz
          refine ⟨m', ?_, Gr.refl g.wf⟩
          rw [e_cmp, show E.idx (.loc 3) (.cst (.int 0)) (cx (n + 1)) [.ref k, .tup xs, .und, .tup [.str s, b], .tup [.str s', b']] m' = .ok (.str s) m' from idx_ok (k := 0) (xs := [.str s, b]) rfl (by simp), b_ok, show E.idx (.loc 4) (.cst (.int 0)) (cx (n + 1)) [.ref k, .tup xs, .und, .tup [.str s, b], .tup [.str s', b']] m' = .ok (.str s') m' from idx_ok (k := 0) (xs := [.str s', b']) rfl (by simp), b_ok]
          exact tri_b _ _)
      rw [a2, b_ok, t_b, b_ok, t_b, asc2_zip]
      have g12 := g1.tr g2
      by_cases hs : asc2 xs = true
      · rw [hs, Bool.not_true, if_neg Bool.false_ne_true, if_pos rfl, bl_nil, go_next, bl_ret]
        have hk2 := hk.gr hf g12
        obtain ⟨acc, m3, h1, sk, h2, h3, h4, h5⟩ := comp_fold (f := cx (n + 1)) (t := .loc 2) (w := .vals xs) (c := none) (e := .meth (.loc 0) 5 [(.idx (.loc 2) (.cst (.int 1)))]) (σ := wipe [2] [.ref k, .tup xs, .und, .und, .und]) xs.length (by omega)
          (fun j acc m' => ∃ sk, sk = (pL rec s (xs.take j)) ∧ acc = (sk.1.map Val.bool).reverse ∧ KS m' k d sk.2 ∧ Gr m2 m' [k, d] ∧ (sk.2.l.length : Int) ≤ sk.2.many ∧ sk.2.within = s.within) (m0 := m2) ⟨_, rfl, rfl, hk2, Gr.refl g12.wf, hl, rfl⟩
          (fun acc m' _ => vals_done m') (fun j acc m' hj ⟨sk, e1, e2, ks, g3, hl3, hw3⟩ => by
            obtain ⟨sl, b, ex, _⟩ := okPair_inv (hpair xs[j] (List.getElem_mem hj))
            have pj := px xs[j] (List.getElem_mem hj)
            have pb : Pl m D b = true := by
              rw [ex] at pj
              cases D with
              | zero => cases pj
              | succ D => exact Pl.up (Nat.le_succ _) ((Pl.tup pj).1 b (by simp))
            obtain ⟨m4, c1, c2, c3⟩ := hw m' k d D sk.2 b g3.wf ks (Pl.mono ((g12.ls hf (by simp)).trans (hk2.ls g12.wf g3)) pb) (by omega) hl3 (by rw [hw3]; exact hlo)
            have hsn : pL rec s (xs.take (j + 1)) = (sk.1 ++ [(rec sk.2 b).1], (rec sk.2 b).2) := by
              rw [List.take_succ_eq_append_getElem hj, pL_snoc, ← e1, ex]
              rfl
            have iv := hi sk.2 b
            refine ⟨_, _, _, vals_item hj m', rfl, .bool (rec sk.2 b).1, m4, ?_, _, hsn.symm, ?_, c2, g3.tr c3, ?_, ?_⟩
            · show E.meth (.loc 0) 5 [(.idx (.loc 2) (.cst (.int 1)))] (cx (n + 1)) [.ref k, .tup xs, xs[j], .und, .und] m' = _
              rw [e_meth, e_loc _ _ _ _ (.ref k) rfl (by simp), b_ok, methOf_ok ks.o (g := 7) rfl, op_some, l_cons]
              rw [show E.idx (.loc 2) (.cst (.int 1)) (cx (n + 1)) [.ref k, .tup xs, xs[j], .und, .und] m' = .ok b m' from by
                rw [ex]
                exact idx_ok (k := 1) (xs := [.str sl, b]) rfl (by simp), b_ok, l_nil, b_ok, b_ok, c1]
            · rw [e2, List.map_append, List.reverse_append]
              rfl
            · have := iv.len 0 (by omega)
              show ((rec sk.2 b).2.l.length : Int) ≤ (rec sk.2 b).2.many
              omega
            · show (rec sk.2 b).2.within = s.within
              rw [iv.wi, hw3])
        obtain ⟨h6, h7, h8⟩ := h5
        rw [List.take_of_length_le (Nat.le_refl _)] at h2
        subst h2
        have hlc := e_lc (.loc 2) (.val (.loc 1)) [2] none (.meth (.loc 0) 5 [(.idx (.loc 2) (.cst (.int 1)))]) (cx (n + 1)) [.ref k, .tup xs, .und, .und, .und] m2 _ _ _ _ (val_it (hloc m2)) h1 (by rw [h3]; simp [pL_len]; omega)
        have hall := e_all _ (cx (n + 1)) _ m2 m3.n _ ((pL rec s xs).1) hlc (by
          rw [h3, List.reverse_reverse]
          exact lst_allo h6.wf _)
        rw [hall, b_ok, o_ret]
        have g4 := Gr.allo (S := []) h6.wf (.lst acc.reverse)
        exact ⟨_, rfl, h4.gr h6.wf g4, ((g12.mono (by simp)).tr h6).tr (g4.mono (by simp))⟩
      · rw [show asc2 xs = false by simpa using hs, Bool.not_false, if_pos rfl, if_neg Bool.false_ne_true]
        exact ⟨m2, rfl, hk.gr hf g12, g12.mono (by simp)⟩
    · rw [show xs.all okPair = false by simpa using hlab, Bool.not_false, if_pos rfl, Bool.false_and, if_neg Bool.false_ne_true]
      exact ⟨m1, rfl, hk.gr hf g1, g1.mono (by simp)⟩
  | und => exact absurd rfl hu
  | _ => exact ⟨m, rfl, hk, Gr.refl hf⟩
end K02
set_option Elab.async false
set_option linter.all false
set_option maxRecDepth 100000
set_option maxHeartbeats 4000000
/-! PK5: Kinds.is_formed, is_sort, check_sort. -/
namespace K02
open MP Snd PL
theorem meth1 {L : Nat} {σ : List Val} {m : M} {k c nm g : Nat} {fs : List (Nat × Val)} {e : E} {v : Val} (ho : m.t.get k = some (.ins c fs)) (h0 : nth σ 0 = some (.ref k)) (hm : methC prog.classes c nm = some g) (he : e (cx L) σ m = .ok v m) : E.meth (.loc 0) nm [e] (cx L) σ m = (cx L).call g [.ref k, v] m := by
  rw [e_meth, e_loc _ _ _ _ _ h0 (by simp), b_ok, methOf_ok ho hm, op_some, l_cons, he, b_ok, l_nil, b_ok, b_ok]
theorem meth2 {L : Nat} {σ : List Val} {m : M} {k c nm g : Nat} {fs : List (Nat × Val)} {e e2 : E} {v v2 : Val} (ho : m.t.get k = some (.ins c fs)) (h0 : nth σ 0 = some (.ref k)) (hm : methC prog.classes c nm = some g) (he : e (cx L) σ m = .ok v m) (he2 : e2 (cx L) σ m = .ok v2 m) : E.meth (.loc 0) nm [e, e2] (cx L) σ m = (cx L).call g [.ref k, v, v2] m := by
  rw [e_meth, e_loc _ _ _ _ _ h0 (by simp), b_ok, methOf_ok ho hm, op_some, l_cons, he, b_ok, l_cons, he2, b_ok, l_nil, b_ok, b_ok, b_ok]
theorem idx_lst {f : Cx} {σ : List Val} {m : M} {e : E} {r : Nat} {xs : List Val} {i : Int} {k : Nat} (hi : i = Int.ofNat k) (he : e f σ m = .ok (.ref r) m) (hr : lstAt m r = some xs) (h : k < xs.length) : E.idx e (.cst (.int i)) f σ m = .ok xs[k] m := by
  subst hi
  rw [e_idx, he, b_ok, e_cst, b_ok]
  show (match lstAt m r with | some xs => getAt xs (.int (Int.ofNat k)) fun v => R.ok v m | .none => _) = _
  rw [hr]
  show getAt xs (.int (Int.ofNat k)) _ = _
  unfold getAt ixOf
  simp only [show Nat.blt k xs.length = true from Nat.ble_eq_true_of_le h, nth_get?, List.getElem?_eq_getElem h]
theorem len_lst {f : Cx} {σ : List Val} {m : M} {e : E} {r : Nat} {xs : List Val} (he : e f σ m = .ok (.ref r) m) (hr : lstAt m r = some xs) : E.bLen e f σ m = .ok (.int xs.length) m := by
  rw [e_len, he, b_ok]
  show lenRef m r = _
  unfold lenRef
  rw [hr]
  rfl
/-- o.f op= a number -/
theorem bl_aug {f : Cx} {r : List S} {σ : List Val} {m : M} {k fl C : Nat} {fs : List (Nat × Val)} {i : Int} (c : Int) (h0 : nth σ 0 = some (.ref k)) (ho : m.t.get k = some (.ins C fs)) (hv : fldGet fl fs = some (.int i)) (hF : Tg.hasF f.p C fl = true) (hl : fs.length < 900) :
    block f (S.augAtt (.loc 0) fl .add (.cst (.int c)) :: r) σ m = block f r σ (putObj m k (.ins C (fldPut fl (.int (i + c)) fs))) := by
  have e : S.augAtt (.loc 0) fl .add (.cst (.int c)) f σ m = .ok (.next σ) (putObj m k (.ins C (fldPut fl (.int (i + c)) fs))) := by
    unfold S.augAtt
    rw [e_loc _ _ _ _ _ h0 (by simp), b_ok]
    show (E.attI m k fl).bind _ = _
    unfold E.attI
    simp only [ho, hv, opt, b_ok, e_cst]
    show (Tg.attP f.p m k fl (.int (i + c)) σ).bind _ = _
    unfold Tg.attP
    simp only [ho, hF, show Nat.blt fs.length 900 = true from Nat.ble_eq_true_of_le hl, Bool.and_self, b_ok]
  show (S.augAtt (.loc 0) fl .add (.cst (.int c)) f σ m).bind _ = _
  rw [e]
  rfl
theorem bl_augS {f : Cx} {r : List S} {σ : List Val} {m : M} {k fl C : Nat} {fs : List (Nat × Val)} {i : Int} (c : Int) (h0 : nth σ 0 = some (.ref k)) (ho : m.t.get k = some (.ins C fs)) (hv : fldGet fl fs = some (.int i)) (hF : Tg.hasF f.p C fl = true) (hl : fs.length < 900) :
    block f (S.augAtt (.loc 0) fl .sub (.cst (.int c)) :: r) σ m = block f r σ (putObj m k (.ins C (fldPut fl (.int (i - c)) fs))) := by
  have e : S.augAtt (.loc 0) fl .sub (.cst (.int c)) f σ m = .ok (.next σ) (putObj m k (.ins C (fldPut fl (.int (i - c)) fs))) := by
    unfold S.augAtt
    rw [e_loc _ _ _ _ _ h0 (by simp), b_ok]
    show (E.attI m k fl).bind _ = _
    unfold E.attI
    simp only [ho, hv, opt, b_ok, e_cst]
    show (Tg.attP f.p m k fl (.int (i - c)) σ).bind _ = _
    unfold Tg.attP
    simp only [ho, hF, show Nat.blt fs.length 900 = true from Nat.ble_eq_true_of_le hl, Bool.and_self, b_ok]
  show (S.augAtt (.loc 0) fl .sub (.cst (.int c)) f σ m).bind _ = _
  rw [e]
  rfl
theorem hasF_ok (n c fl : Nat) (h : Tg.hasF prog.classes c fl = true) : Tg.hasF (cx n).p c fl = true := by cases n <;> exact h
theorem eqv_nil {m : M} {D : Nat} {xs : List Val} (hp : Pl m D (.tup xs) = true) (hD : D ≤ 100) : cmpop .eq m (.tup xs) (.tup []) = .ofB (decide (xs = [])) := by
  show eqB m 120 (.tup xs) (.tup []) = _
  unfold eqB
  rw [Pl.dat (Pl.up (by omega) hp), show datN m 120 (.tup []) = true from rfl]
  show eqL (eqN m 119) xs [] = _
  cases xs <;> rfl
theorem in_plain {m : M} {D : Nat} {w : List Nat} {rest : List Val} (hp : Pl m D (.tup (.str w :: rest)) = true) (hD : D ≤ 100) :
    cmpop .isin m (.tup (.str w :: rest)) (.tup [.tup [.str [110,117,109]], .tup [.str [102,108,97,103]]]) = .ofB (decide ((w = wNUM ∨ w = wFLAG) ∧ rest = [])) := by
  show memL m (.tup (.str w :: rest)) [.tup [.str [110,117,109]], .tup [.str [102,108,97,103]]] = _
  unfold memL
  rw [show datN m EQN (.tup (.str w :: rest)) = true from Pl.dat (Pl.up (show D ≤ EQN by unfold EQN; omega) hp), show datL (datN m EQN) [.tup [.str [110,117,109]], .tup [.str [102,108,97,103]]] = true from rfl]
  have one : ∀ z : List Nat, eqN m EQN (.tup [.str z]) (.tup (.str w :: rest)) = .ofB (decide (w = z ∧ rest = [])) := fun z => by
    show (match Tri.ofB (strEq z w) with | .yes => eqL (eqN m 119) [] rest | r => r) = _
    rw [strEq_eq]
    by_cases h : z = w
    · subst h
      rw [decide_eq_true rfl]
      cases rest <;> simp [eqL, Tri.ofB]
    · rw [decide_eq_false h]
      have : ¬ w = z := fun q => h q.symm
      simp [this, Tri.ofB]
  show (match eqN m EQN (.tup [.str [110,117,109]]) (.tup (.str w :: rest)) with | .yes => Tri.yes | .no => (match eqN m EQN (.tup [.str [102,108,97,103]]) (.tup (.str w :: rest)) with | .yes => .yes | .no => .no | .odd => .odd) | .odd => .odd) = _
  rw [one, one]
  have e1 : ([110,117,109] : List Nat) = wNUM := rfl
  have e2 : ([102,108,97,103] : List Nat) = wFLAG := rfl
  rw [e1, e2]
  by_cases hr : rest = []
  · by_cases h1 : w = wNUM
    · simp [hr, h1, Tri.ofB]
    · by_cases h2 : w = wFLAG
      · simp [hr, h1, h2, Tri.ofB, show ¬ wFLAG = wNUM by decide]
      · simp [hr, h1, h2, Tri.ofB]
  · simp [hr, Tri.ofB]
theorem KS.put {m : M} {k d : Nat} {s s' : KSt} (hf : Full m.t m.n) (h : KS m k d s) (hl : s'.l = s.l) : KS (putObj m k (.ins 3 [(0, .ref d), (1, .int s'.many), (2, .int s'.within)])) k d s' :=
  ⟨by rw [put_get hf (get_lt hf h.o), if_pos rfl], by rw [put_get hf (get_lt hf h.o), if_neg (Ne.symm h.ne), h.t, hl]⟩
theorem formed_ok {l j : Nat} {rec : KSt → Val → Bool × KSt} {lo : Int} (hw : ∀ j, SortW rec lo (l + 4 + j)) (hi : ∀ s v, Inv s (rec s v)) {m : M} {k d D : Nat} {s : KSt} {v : Val} (hf : Full m.t m.n) (hk : KS m k d s) (hp : Pl m D v = true) (hD : D ≤ 100) (hl : (s.l.length : Int) ≤ s.many) (hlo : lo ≤ s.within) :
    ∃ m', (cx (l + 6 + j)).call 8 [.ref k, v] m = .ok (.bool (pFormed rec s v).1) m' ∧ KS m' k d (pFormed rec s v).2 ∧ Gr m m' [k, d] := by
  obtain ⟨L, eL⟩ : ∃ L, L = l + 5 + j := ⟨_, rfl⟩
  have hu : v ≠ .und := Pl.nu hp
  have hloc : ∀ m, E.loc 1 (cx L) [.ref k, v, .und, .und] m = .ok v m := fun m => e_loc _ _ _ _ _ rfl hu
  have elv : l + 6 + j = L + 1 := by omega
  rw [elv]
  show ∃ m', runFn f8 (cx L) [.ref k, v] m = _ ∧ _
  rw [run_fn _ _ _ _ rfl]
  unfold f8
  simp only
  show ∃ m', endOf (block (cx L) _ [.ref k, v, .und, .und] m) = _ ∧ _
  rw [bl_aug (k := k) (i := s.many) 1 rfl hk.o rfl (hasF_ok _ _ _ rfl) (by simp)]
  obtain ⟨s1, es1⟩ : ∃ s1 : KSt, s1 = { s with many := s.many + 1 } := ⟨_, rfl⟩
  have hk1 : KS (putObj m k (.ins 3 (fldPut 1 (.int (s.many + 1)) [(0, .ref d), (1, .int s.many), (2, .int s.within)]))) k d s1 := by rw [es1]; exact hk.put (s' := { s with many := s.many + 1 }) hf rfl
  have gp : Gr m (putObj m k (.ins 3 (fldPut 1 (.int (s.many + 1)) [(0, .ref d), (1, .int s.many), (2, .int s.within)]))) [k, d] := (Gr.put hf (get_lt hf hk.o) _).mono (by simp)
  generalize putObj m k (.ins 3 (fldPut 1 (.int (s.many + 1)) [(0, .ref d), (1, .int s.many), (2, .int s.within)])) = m1 at hk1 gp ⊢
  have hp1 : Pl m1 D v = true := Pl.mono (hk.ls hf gp) hp
  have hf1 := gp.wf
  have hatt : E.att (.loc 0) 1 (cx L) [.ref k, v, .und, .und] m1 = .ok (.int (s.many + 1)) m1 := att_ok _ (e_loc _ _ _ _ _ rfl (by simp)) hk1.o (by rw [es1]; rfl)
  rw [bl_ite, e_or, e_cmp, hatt, b_ok, e_cst, b_ok, gt_int, tri_b, b_ok, t_b]
  unfold pFormed
  rw [← es1]
  by_cases h400 : 400 < s.many + 1
  · rw [decide_eq_true h400, if_pos rfl, if_pos h400]
    exact ⟨m1, rfl, hk1, gp⟩
  · rw [decide_eq_false h400, if_neg Bool.false_ne_true, if_neg h400, e_or, e_not, isi_tup hp1 (hloc m1), b_ok, t_b, b_ok, t_b]
    have hs1 : s1.many ≤ 400 := by rw [es1]; show s.many + 1 ≤ 400; omega
    have hl1 : (s1.l.length : Int) + 1 ≤ s1.many := by rw [es1]; show (s.l.length : Int) + 1 ≤ s.many + 1; omega
    have hlo1 : lo ≤ s1.within := by rw [es1]; exact hlo
    clear hatt es1 hk
    cases D with
    | zero => cases hp1
    | succ D =>
    cases v with
    | tup xs =>
      obtain ⟨px, hlen⟩ := Pl.tup hp1
      rw [show (!isTup (.tup xs)) = false from rfl, if_neg Bool.false_ne_true, e_or, e_cmp, hloc m1, b_ok]
      rw [show E.tup [] (cx L) [.ref k, .tup xs, .und, .und] m1 = .ok (.tup []) m1 from rfl, b_ok, eqv_nil hp1 (by omega), tri_b, b_ok, t_b]
      cases xs with
      | nil => exact ⟨m1, rfl, hk1, gp⟩
      | cons x rest =>
        have px0 : Pl m1 D x = true := px x List.mem_cons_self
        rw [decide_eq_false (by simp), if_neg Bool.false_ne_true, e_not, isi_str px0 (show E.idx (.loc 1) (.cst (.int 0)) (cx L) [.ref k, .tup (x :: rest), .und, .und] m1 = .ok x m1 from idx_ok (k := 0) (hloc m1) (by simp)), b_ok, t_b, b_ok, t_b]
        cases D with
        | zero => cases px0
        | succ D =>
        cases x with
        | str w =>
          rw [show (!isStr (.str w)) = false from rfl, if_neg Bool.false_ne_true, bl_nil, go_next, bl_asg, hloc m1, b_ok]
          have hst : Tg.star 1 [.loc 2, .loc 3] (cx L) (.tup (.str w :: rest)) [.ref k, .tup (.str w :: rest), .und, .und] m1 = .ok [.ref k, .tup (.str w :: rest), .str w, .ref m1.n] (allo m1 (.lst rest)) := by
            show Tg.starN (cx L) 1 [.loc 2, .loc 3] (.str w :: rest) _ m1 = _
            unfold Tg.starN
            rw [show (Nat.ble ([Tg.loc 2, Tg.loc 3] : List Tg).length ((Val.str w :: rest).length + 1) && Nat.blt 1 ([Tg.loc 2, Tg.loc 3] : List Tg).length) = true from by simp]
            simp only [List.length_cons, List.length_nil, List.drop_succ_cons, List.drop_zero]
            rw [show rest.length + 1 + 1 - (0 + 1 + 1) = rest.length by omega, List.take_of_length_le (Nat.le_refl _), List.drop_of_length_le (Nat.le_refl _)]
            rfl
          rw [hst, b_ok]
          have gl := Gr.allo (S := []) hf1 (.lst rest)
          have hk2 := hk1.gr hf1 gl
          have g2 : Gr m (allo m1 (.lst rest)) [k, d] := gp.tr (gl.mono (by simp))
          have hr2 : lstAt (allo m1 (.lst rest)) m1.n = some rest := lst_allo hf1 _
          have hp2 : Pl (allo m1 (.lst rest)) (D + 2) (.tup (.str w :: rest)) = true := Pl.mono (gl.ls hf1 (by simp)) hp1
          have hkr : m1.n ≠ k ∧ m1.n ≠ d := ⟨Nat.ne_of_gt (get_lt hf1 hk1.o), Nat.ne_of_gt (get_lt hf1 hk1.t)⟩
          have hrl : m1.n < (allo m1 (.lst rest)).n := Nat.lt_succ_self _
          generalize allo m1 (.lst rest) = m2 at gl hk2 g2 hr2 hp2 hrl ⊢
          generalize m1.n = r at hr2 hkr hrl ⊢
          have hf2 := gl.wf
          obtain ⟨px2, _⟩ := Pl.tup hp2
          have prest : ∀ x ∈ rest, Pl m2 (D + 1) x = true := fun x hx => px2 x (List.mem_cons_of_mem _ hx)
          clear hp1 px px0 gl hst hloc hp hf1 hk1 gp hl hlen hu
          have l0 : ∀ m, E.loc 1 (cx L) [.ref k, .tup (.str w :: rest), .str w, .ref r] m = .ok (.tup (.str w :: rest)) m := fun m => rfl
          have l2 : ∀ m, E.loc 2 (cx L) [.ref k, .tup (.str w :: rest), .str w, .ref r] m = .ok (.str w) m := fun m => rfl
          have l3 : ∀ m, E.loc 3 (cx L) [.ref k, .tup (.str w :: rest), .str w, .ref r] m = .ok (.ref r) m := fun m => rfl
          -- what is left of the list, whatever comes between
          have keepR : ∀ {m'}, Gr m2 m' [k, d] → lstAt m' r = some rest := fun g => by rw [lstAt_of_get (g.same r hrl (by simp [hkr]))]; exact hr2
          have keepP : ∀ {m'}, Gr m2 m' [k, d] → ∀ x ∈ rest, Pl m' (D + 1) x = true := fun g x hx => Pl.mono (hk2.ls hf2 g) (prest x hx)
          show ∃ m', _ = R.ok (Val.bool (pWord rec s1 w rest).1) m' ∧ KS m' k d (pWord rec s1 w rest).2 ∧ _
          unfold pWord
          rw [bl_ite, e_cmp, l0, b_ok, e_cst, b_ok, in_plain hp2 (by omega), tri_b, b_ok, t_b]
          by_cases c1 : (w = wNUM ∨ w = wFLAG) ∧ rest = []
          · rw [decide_eq_true c1, if_pos rfl, if_pos c1]
            exact ⟨m2, rfl, hk2, g2⟩
          rw [decide_eq_false c1, if_neg Bool.false_ne_true, if_neg c1, bl_nil, go_next, bl_ite, e_cmp, l2, b_ok, e_cst, b_ok, eq_str, tri_b, b_ok, t_b]
          have e1 : ([97,110,121] : List Nat) = wANY := rfl
          rw [e1]
          by_cases c2 : w = wANY
          · rw [decide_eq_true c2, if_pos rfl, if_pos c2, bl_ret, e_and, e_cmp, len_lst (l3 m2) hr2, b_ok, e_cst, b_ok, eq_int, tri_b, b_ok, t_b]
            rcases rest with _ | ⟨c, _ | ⟨z9, q9⟩⟩
            · exact ⟨m2, rfl, hk2, g2⟩
            · rw [if_pos (show decide (([c].length : Int) = 1) = true from rfl)]
              rw [meth2 (g := 3) hk2.o rfl rfl (idx_lst (i := 0) (k := 0) (xs := [c]) rfl (l3 m2) hr2 (by simp)) (e_cst _ _ _ _)]
              obtain ⟨m3, a1, a2, a3⟩ := takes_ok (l + 3 + j) (w := wSORT) hf2 hk2 (prest c (by simp)) (by omega)
              have eL2 : (cx L) = cx (l + 3 + j + 2) := by rw [eL]; congr 1; omega
              rw [eL2]
              exact ⟨m3, by rw [show (cx (l + 3 + j + 2)).call 3 [.ref k, [c][0], .str [115,111,114,116]] m2 = _ from a1]; rfl, a2, g2.tr a3⟩
            · rw [decide_eq_false (by simp; omega), if_neg Bool.false_ne_true]
              exact ⟨m2, rfl, hk2, g2⟩
          rw [decide_eq_false c2, if_neg Bool.false_ne_true, if_neg c2, bl_nil, go_next, bl_ite, e_cmp, l2, b_ok, e_cst, b_ok, eq_str, tri_b, b_ok, t_b]
          have e2 : ([108,105,115,116] : List Nat) = wLIST := rfl
          rw [e2]
          by_cases c3 : w = wLIST
          · rw [decide_eq_true c3, if_pos rfl, if_pos c3, bl_ret, e_and, e_cmp, len_lst (l3 m2) hr2, b_ok, e_cst, b_ok, eq_int, tri_b, b_ok, t_b]
            rcases rest with _ | ⟨x, _ | ⟨z9, q9⟩⟩
            · exact ⟨m2, rfl, hk2, g2⟩
            · rw [if_pos (show decide (([x].length : Int) = 1) = true from rfl)]
              rw [meth1 (g := 7) hk2.o rfl rfl (idx_lst (i := 0) (k := 0) (xs := [x]) rfl (l3 m2) hr2 (by simp))]
              obtain ⟨m3, a1, a2, a3⟩ := hw (j + 1) m2 k d (D + 1) s1 x hf2 hk2 (prest x (by simp)) (by omega) (by omega) hlo1
              have eL2 : (cx L) = cx (l + 4 + (j + 1)) := by rw [eL]; congr 1; omega
              rw [eL2]
              exact ⟨m3, by rw [show (cx (l + 4 + (j + 1))).call 7 [.ref k, [x][0]] m2 = _ from a1]; rfl, a2, g2.tr a3⟩
            · rw [decide_eq_false (by simp; omega), if_neg Bool.false_ne_true]
              exact ⟨m2, rfl, hk2, g2⟩
          rw [decide_eq_false c3, if_neg Bool.false_ne_true, if_neg c3, bl_nil, go_next, bl_ite, e_cmp, l2, b_ok, e_cst, b_ok, eq_str, tri_b, b_ok, t_b]
          have e3 : ([116,111] : List Nat) = wTO := rfl
          rw [e3]
          by_cases c4 : w = wTO
          · rw [decide_eq_true c4, if_pos rfl, if_pos c4, bl_ret, e_and, e_cmp, len_lst (l3 m2) hr2, b_ok, e_cst, b_ok, eq_int, tri_b, b_ok, t_b]
            rcases rest with _ | ⟨x, _ | ⟨e, _ | ⟨y, _ | ⟨z9, q9⟩⟩⟩⟩
            · exact ⟨m2, rfl, hk2, g2⟩
            · exact ⟨m2, rfl, hk2, g2⟩
            · exact ⟨m2, rfl, hk2, g2⟩
            · rw [if_pos (show decide (([x, e, y].length : Int) = 3) = true from rfl), e_and]
              rw [meth1 (g := 7) hk2.o rfl rfl (idx_lst (i := 0) (k := 0) (xs := [x, e, y]) rfl (l3 m2) hr2 (by simp))]
              obtain ⟨m3, a1, a2, a3⟩ := hw (j + 1) m2 k d (D + 1) s1 x hf2 hk2 (prest x (by simp)) (by omega) (by omega) hlo1
              have eL2 : (cx L) = cx (l + 4 + (j + 1)) := by rw [eL]; congr 1; omega
              have iv := hi s1 x
              rw [show (cx L).call 7 [.ref k, [x, e, y][0]] m2 = R.ok (Val.bool (rec s1 x).1) m3 from by rw [eL2]; exact a1, b_ok, t_b]
              show ∃ m', _ = R.ok (Val.bool (andT (rec s1 x) fun s => andT (pEff s e) fun s => rec s y).1) m' ∧ KS m' k d (andT (rec s1 x) fun s => andT (pEff s e) fun s => rec s y).2 ∧ _
              unfold andT
              by_cases q1 : (rec s1 x).1 = true
              · rw [if_pos q1, if_pos q1, e_and]
                have i1 := iv.len 1 hl1
                have i2 := iv.many q1
                have i3 := iv.wi
                rw [meth1 (g := 5) a2.o rfl rfl (idx_lst (i := 1) (k := 1) (xs := [x, e, y]) rfl (l3 m3) (keepR a3) (by simp))]
                obtain ⟨m4, b1, b2, b3⟩ := eff_ok (l + 1 + j) a3.wf a2 (keepP a3 e (by simp)) (by omega)
                have eL3 : (cx L) = cx (l + 1 + j + 4) := by rw [eL]; congr 1; omega
                rw [show (cx L).call 5 [.ref k, [x, e, y][1]] m3 = R.ok (Val.bool (pEff (rec s1 x).2 e).1) m4 from by rw [eL3]; exact b1, b_ok, t_b]
                have sm := eff_sml (rec s1 x).2 e
                have u1 := sm.len
                have u2 := sm.many
                have u3 := sm.wi
                have g4 := a3.tr b3
                show ∃ m', _ = R.ok (Val.bool (if (pEff (rec s1 x).2 e).1 = true then rec (pEff (rec s1 x).2 e).2 y else (false, (pEff (rec s1 x).2 e).2)).1) m' ∧ KS m' k d (if (pEff (rec s1 x).2 e).1 = true then rec (pEff (rec s1 x).2 e).2 y else (false, (pEff (rec s1 x).2 e).2)).2 ∧ _
                by_cases q2 : (pEff (rec s1 x).2 e).1 = true
                · rw [if_pos q2, if_pos q2]
                  rw [meth1 (g := 7) b2.o rfl rfl (idx_lst (i := 2) (k := 2) (xs := [x, e, y]) rfl (l3 m4) (keepR g4) (by simp))]
                  obtain ⟨m5, d1, d2, d3⟩ := hw (j + 1) m4 k d (D + 1) _ y b3.wf b2 (keepP g4 y (by simp)) (by omega) (by omega) (by rw [u3, i3]; exact hlo1)
                  exact ⟨m5, by rw [show (cx L).call 7 [.ref k, [x, e, y][2]] m4 = R.ok (Val.bool (rec (pEff (rec s1 x).2 e).2 y).1) m5 from by rw [eL2]; exact d1]; rfl, d2, g2.tr (g4.tr d3)⟩
                · rw [if_neg q2, if_neg q2]
                  exact ⟨m4, rfl, b2, g2.tr g4⟩
              · rw [if_neg q1, if_neg q1]
                exact ⟨m3, rfl, a2, g2.tr a3⟩
            · rw [decide_eq_false (by simp; omega), if_neg Bool.false_ne_true]
              exact ⟨m2, rfl, hk2, g2⟩
          rw [decide_eq_false c4, if_neg Bool.false_ne_true, if_neg c4, bl_nil, go_next, bl_ite, e_or, e_cmp, l2, b_ok, e_cst, b_ok, ne_str, tri_b, b_ok, t_b]
          have e4 : ([114,111,119] : List Nat) = wROW := rfl
          rw [e4]
          by_cases c5 : w = wROW
          · rw [decide_eq_true c5, Bool.not_true, if_neg Bool.false_ne_true, if_pos c5, e_cmp, len_lst (l3 m2) hr2, b_ok, e_cst, b_ok, ne_int, tri_b, b_ok, t_b]
            rcases rest with _ | ⟨ps, _ | ⟨t, _ | ⟨z9, q9⟩⟩⟩
            · exact ⟨m2, rfl, hk2, g2⟩
            · exact ⟨m2, rfl, hk2, g2⟩
            · rw [if_neg (show ¬ (!decide (([ps, t].length : Int) = 2)) = true from by simp), bl_nil, go_next, bl_ret, e_and]
              rw [meth1 (g := 6) hk2.o rfl rfl (idx_lst (i := 0) (k := 0) (xs := [ps, t]) rfl (l3 m2) hr2 (by simp))]
              obtain ⟨m3, a1, a2, a3⟩ := pairs_ok (n := l + 3 + j) (rec := rec) (lo := lo) (by have := hw j; rw [show l + 4 + j = l + 3 + j + 1 by omega] at this; exact this) hi hf2 hk2 (prest ps (by simp)) (by omega) (by omega) hlo1
              have eL2 : (cx L) = cx (l + 3 + j + 2) := by rw [eL]; congr 1; omega
              rw [show (cx L).call 6 [.ref k, [ps, t][0]] m2 = R.ok (Val.bool (pPairs rec s1 ps).1) m3 from by rw [eL2]; exact a1, b_ok, t_b]
              have iv : Inv s1 (pPairs rec s1 ps) := by
                unfold pPairs
                have b2 : Inv s1 (false, s1) := ⟨fun j z => z, fun z => (by cases z), rfl⟩
                split
                · split
                  · exact pL_inv hi _ _ hs1
                  · exact b2
                · exact b2
              show ∃ m', _ = R.ok (Val.bool (andT (pPairs rec s1 ps) fun s => pTail s t wROW).1) m' ∧ KS m' k d (andT (pPairs rec s1 ps) fun s => pTail s t wROW).2 ∧ _
              unfold andT
              by_cases q1 : (pPairs rec s1 ps).1 = true
              · rw [if_pos q1, if_pos q1]
                have i1 := iv.len 1 hl1
                have i2 := iv.many q1
                rw [meth2 (g := 4) a2.o rfl rfl (idx_lst (i := 1) (k := 1) (xs := [ps, t]) rfl (l3 m3) (keepR a3) (by simp)) (e_cst _ _ _ _)]
                obtain ⟨m4, b1, b2, b3⟩ := tail_ok (l + 2 + j) (w := wROW) a3.wf a2 (keepP a3 t (by simp)) (by omega)
                have eL3 : (cx L) = cx (l + 2 + j + 3) := by rw [eL]; congr 1; omega
                exact ⟨m4, by rw [show (cx L).call 4 [.ref k, [ps, t][1], .str wROW] m3 = R.ok (Val.bool (pTail (pPairs rec s1 ps).2 t wROW).1) m4 from by rw [eL3]; exact b1]; rfl, b2, g2.tr (a3.tr b3)⟩
              · rw [if_neg q1, if_neg q1]
                exact ⟨m3, rfl, a2, g2.tr a3⟩
            · rw [decide_eq_false (by simp; omega), Bool.not_false, if_pos rfl]
              exact ⟨m2, rfl, hk2, g2⟩
          · rw [decide_eq_false c5, Bool.not_false, if_pos rfl, if_neg c5]
            exact ⟨m2, rfl, hk2, g2⟩
        | und => exact absurd rfl (Pl.nu px0)
        | _ => exact ⟨m1, rfl, hk1, gp⟩
    | und => exact absurd rfl hu
    | _ => exact ⟨m1, rfl, hk1, gp⟩
/-- Kinds.is_sort -/
theorem sort_ok : ∀ (q j : Nat), SortW (pSort q) (61 - (q : Int)) (3 * q + 4 + j)
  | 0, j => fun m k d D s v hf hk hp hD hl hlo => by
    obtain ⟨L, eL⟩ : ∃ L, L = 3 + j := ⟨_, rfl⟩
    have elv : 3 * 0 + 4 + j = L + 1 := by omega
    rw [elv]
    have hu : v ≠ .und := Pl.nu hp
    show ∃ m', runFn f7 (cx L) [.ref k, v] m = _ ∧ _
    rw [run_fn _ _ _ _ rfl]
    unfold f7
    simp only
    show ∃ m', endOf (block (cx L) _ [.ref k, v, .und] m) = _ ∧ _
    rw [bl_aug (k := k) (i := s.within) 1 rfl hk.o rfl (hasF_ok _ _ _ rfl) (by simp)]
    have hk1 : KS (putObj m k (.ins 3 (fldPut 2 (.int (s.within + 1)) [(0, .ref d), (1, .int s.many), (2, .int s.within)]))) k d { s with within := s.within + 1 } := hk.put (s' := { s with within := s.within + 1 }) hf rfl
    have gp : Gr m (putObj m k (.ins 3 (fldPut 2 (.int (s.within + 1)) [(0, .ref d), (1, .int s.many), (2, .int s.within)]))) [k, d] := (Gr.put hf (get_lt hf hk.o) _).mono (by simp)
    generalize putObj m k (.ins 3 (fldPut 2 (.int (s.within + 1)) [(0, .ref d), (1, .int s.many), (2, .int s.within)])) = m1 at hk1 gp ⊢
    have hatt : E.att (.loc 0) 2 (cx L) [.ref k, v, .und] m1 = .ok (.int (s.within + 1)) m1 := att_ok _ (e_loc _ _ _ _ _ rfl (by simp)) hk1.o rfl
    rw [bl_asg, e_and, e_cmp, hatt, b_ok, e_cst, b_ok, le_int, tri_b, b_ok, t_b, decide_eq_false (by omega), if_neg Bool.false_ne_true, b_ok, t_loc, b_ok]
    show ∃ m', endOf (block (cx L) _ [.ref k, v, .bool false] m1) = _ ∧ _
    rw [bl_augS (k := k) (i := s.within + 1) 1 rfl hk1.o rfl (hasF_ok _ _ _ rfl) (by simp)]
    have hk2 : KS (putObj m1 k (.ins 3 (fldPut 2 (.int (s.within + 1 - 1)) [(0, .ref d), (1, .int s.many), (2, .int (s.within + 1))]))) k d { s with within := s.within + 1 - 1 } := hk1.put (s' := { s with within := s.within + 1 - 1 }) gp.wf rfl
    have g2 := (Gr.put gp.wf (get_lt gp.wf hk1.o) (.ins 3 (fldPut 2 (.int (s.within + 1 - 1)) [(0, .ref d), (1, .int s.many), (2, .int (s.within + 1))]))).mono (S' := [k, d]) (by simp)
    refine ⟨_, rfl, ?_, gp.tr g2⟩
    have e : ({ s with within := s.within + 1 - 1 } : KSt) = s := by
      cases s
      simp
    rw [e] at hk2
    exact hk2
  | q + 1, j => fun m k d D s v hf hk hp hD hl hlo => by
    obtain ⟨L, eL⟩ : ∃ L, L = 3 * q + 6 + j := ⟨_, rfl⟩
    have elv : 3 * (q + 1) + 4 + j = L + 1 := by omega
    rw [elv]
    have hu : v ≠ .und := Pl.nu hp
    show ∃ m', runFn f7 (cx L) [.ref k, v] m = _ ∧ _
    rw [run_fn _ _ _ _ rfl]
    unfold f7
    simp only
    show ∃ m', endOf (block (cx L) _ [.ref k, v, .und] m) = _ ∧ _
    rw [bl_aug (k := k) (i := s.within) 1 rfl hk.o rfl (hasF_ok _ _ _ rfl) (by simp)]
    have hk1 : KS (putObj m k (.ins 3 (fldPut 2 (.int (s.within + 1)) [(0, .ref d), (1, .int s.many), (2, .int s.within)]))) k d { s with within := s.within + 1 } := hk.put (s' := { s with within := s.within + 1 }) hf rfl
    have gp : Gr m (putObj m k (.ins 3 (fldPut 2 (.int (s.within + 1)) [(0, .ref d), (1, .int s.many), (2, .int s.within)]))) [k, d] := (Gr.put hf (get_lt hf hk.o) _).mono (by simp)
    generalize putObj m k (.ins 3 (fldPut 2 (.int (s.within + 1)) [(0, .ref d), (1, .int s.many), (2, .int s.within)])) = m1 at hk1 gp ⊢
    have hp1 : Pl m1 D v = true := Pl.mono (hk.ls hf gp) hp
    have hatt : E.att (.loc 0) 2 (cx L) [.ref k, v, .und] m1 = .ok (.int (s.within + 1)) m1 := att_ok _ (e_loc _ _ _ _ _ rfl (by simp)) hk1.o rfl
    rw [bl_asg, e_and, e_cmp, hatt, b_ok, e_cst, b_ok, le_int, tri_b, b_ok, t_b]
    show ∃ m', _ = R.ok (Val.bool (if s.within + 1 ≤ 60 then ((pFormed (pSort q) { s with within := s.within + 1 } v).1, { (pFormed (pSort q) { s with within := s.within + 1 } v).2 with within := (pFormed (pSort q) { s with within := s.within + 1 } v).2.within - 1 }) else (false, { s with within := s.within + 1 - 1 }) : Bool × KSt).1) m' ∧ KS m' k d (if s.within + 1 ≤ 60 then ((pFormed (pSort q) { s with within := s.within + 1 } v).1, { (pFormed (pSort q) { s with within := s.within + 1 } v).2 with within := (pFormed (pSort q) { s with within := s.within + 1 } v).2.within - 1 }) else (false, { s with within := s.within + 1 - 1 }) : Bool × KSt).2 ∧ _
    by_cases h60 : s.within + 1 ≤ 60
    · rw [decide_eq_true h60, if_pos rfl, if_pos h60]
      rw [meth1 (g := 8) hk1.o rfl rfl (e_loc _ _ _ _ v rfl hu)]
      obtain ⟨m2, a1, a2, a3⟩ := formed_ok (l := 3 * q) (j := j) (rec := pSort q) (lo := 61 - (q : Int)) (fun j => sort_ok q j) (sort_inv q) (s := { s with within := s.within + 1 }) gp.wf hk1 hp1 hD hl (by show 61 - (q : Int) ≤ s.within + 1; omega)
      rw [show (cx L).call 8 [.ref k, v] m1 = R.ok (Val.bool (pFormed (pSort q) { s with within := s.within + 1 } v).1) m2 from by rw [eL]; exact a1, b_ok, t_loc, b_ok]
      generalize pFormed (pSort q) { s with within := s.within + 1 } v = r at a1 a2 ⊢
      show ∃ m', endOf (block (cx L) _ [.ref k, v, .bool r.1] m2) = _ ∧ _
      rw [bl_augS (k := k) (i := r.2.within) 1 rfl a2.o rfl (hasF_ok _ _ _ rfl) (by simp)]
      have hk3 : KS (putObj m2 k (.ins 3 (fldPut 2 (.int (r.2.within - 1)) [(0, .ref d), (1, .int r.2.many), (2, .int r.2.within)]))) k d { r.2 with within := r.2.within - 1 } := a2.put (s' := { r.2 with within := r.2.within - 1 }) a3.wf rfl
      have g3 := (Gr.put a3.wf (get_lt a3.wf a2.o) (.ins 3 (fldPut 2 (.int (r.2.within - 1)) [(0, .ref d), (1, .int r.2.many), (2, .int r.2.within)]))).mono (S' := [k, d]) (by simp)
      exact ⟨_, rfl, hk3, gp.tr (a3.tr g3)⟩
    · rw [decide_eq_false h60, if_neg Bool.false_ne_true, if_neg h60, b_ok, t_loc, b_ok]
      show ∃ m', endOf (block (cx L) _ [.ref k, v, .bool false] m1) = _ ∧ _
      rw [bl_augS (k := k) (i := s.within + 1) 1 rfl hk1.o rfl (hasF_ok _ _ _ rfl) (by simp)]
      have hk2 : KS (putObj m1 k (.ins 3 (fldPut 2 (.int (s.within + 1 - 1)) [(0, .ref d), (1, .int s.many), (2, .int (s.within + 1))]))) k d { s with within := s.within + 1 - 1 } := hk1.put (s' := { s with within := s.within + 1 - 1 }) gp.wf rfl
      have g2 := (Gr.put gp.wf (get_lt gp.wf hk1.o) (.ins 3 (fldPut 2 (.int (s.within + 1 - 1)) [(0, .ref d), (1, .int s.many), (2, .int (s.within + 1))]))).mono (S' := [k, d]) (by simp)
      exact ⟨_, rfl, hk2, gp.tr g2⟩
/-! ### is_sort, check_sort -/
def isSortP (v : Val) : Bool := (pSort 61 ⟨[], 0, 0⟩ v).1
/-- a new object of Kinds -/
theorem kinds_new (n : Nat) {m : M} (hf : Full m.t m.n) : ∃ m', make (cx (n + 1)) 3 [] m = .ok (.ref m.n) m' ∧ (∃ d, m.n ≤ d ∧ KS m' m.n d ⟨[], 0, 0⟩) ∧ Gr m m' [] := by
  have g1 := Gr.allo (S := []) hf (.ins 3 [])
  have g2 := Gr.allo (S := []) g1.wf (.dct [])
  have hlt : m.n < (allo (allo m (.ins 3 [])) (.dct [])).n := by show m.n < m.n + 1 + 1; omega
  have p0 : (allo (allo m (.ins 3 [])) (.dct [])).t.get m.n = some (.ins 3 []) := by
    rw [g2.same m.n (Nat.lt_succ_self _) (by simp), allo_get hf, if_pos rfl]
  have h3 := Gr.put g2.wf hlt (.ins 3 [(0, .ref (m.n + 1))])
  have p1 : (putObj (allo (allo m (.ins 3 [])) (.dct [])) m.n (.ins 3 [(0, .ref (m.n + 1))])).t.get m.n = some (.ins 3 [(0, .ref (m.n + 1))]) := by rw [put_get g2.wf hlt, if_pos rfl]
  have h4 := Gr.put h3.wf (show m.n < (putObj (allo (allo m (.ins 3 [])) (.dct [])) m.n (.ins 3 [(0, .ref (m.n + 1))])).n from hlt) (.ins 3 [(0, .ref (m.n + 1)), (1, .int 0)])
  have p2 : (putObj (putObj (allo (allo m (.ins 3 [])) (.dct [])) m.n (.ins 3 [(0, .ref (m.n + 1))])) m.n (.ins 3 [(0, .ref (m.n + 1)), (1, .int 0)])).t.get m.n = some (.ins 3 [(0, .ref (m.n + 1)), (1, .int 0)]) := by rw [put_get h3.wf hlt, if_pos rfl]
  have h5 := Gr.put h4.wf (show m.n < (putObj (putObj (allo (allo m (.ins 3 [])) (.dct [])) m.n (.ins 3 [(0, .ref (m.n + 1))])) m.n (.ins 3 [(0, .ref (m.n + 1)), (1, .int 0)])).n from hlt) (.ins 3 [(0, .ref (m.n + 1)), (1, .int 0), (2, .int 0)])
  refine ⟨putObj (putObj (putObj (allo (allo m (.ins 3 [])) (.dct [])) m.n (.ins 3 [(0, .ref (m.n + 1))])) m.n (.ins 3 [(0, .ref (m.n + 1)), (1, .int 0)])) m.n (.ins 3 [(0, .ref (m.n + 1)), (1, .int 0), (2, .int 0)]), ?_, ⟨m.n + 1, Nat.le_succ _, ?_, ?_⟩, ⟨h5.wf, by show m.n ≤ m.n + 1 + 1; omega, fun i hi _ => ?_⟩⟩
  · have run : (cx (n + 1)).call 2 [.ref m.n] (allo m (.ins 3 [])) = .ok .none (putObj (putObj (putObj (allo (allo m (.ins 3 [])) (.dct [])) m.n (.ins 3 [(0, .ref (m.n + 1))])) m.n (.ins 3 [(0, .ref (m.n + 1)), (1, .int 0)])) m.n (.ins 3 [(0, .ref (m.n + 1)), (1, .int 0), (2, .int 0)])) := by
      show runFn f2 (cx n) [.ref m.n] (allo m (.ins 3 [])) = _
      rw [run_fn _ _ _ _ rfl]
      show endOf (block (cx n) [.asg (.att (.loc 0) 0) (.dic []), .asg (.att (.loc 0) 1) (.cst (.int 0)), .asg (.att (.loc 0) 2) (.cst (.int 0))] [.ref m.n] (allo m (.ins 3 []))) = _
      have att : ∀ (m0 : M) (fl : Nat) (v : Val) (fs : List (Nat × Val)), m0.t.get m.n = some (.ins 3 fs) → Tg.hasF prog.classes 3 fl = true → fs.length < 900 → Tg.att (.loc 0) fl (cx n) v [.ref m.n] m0 = .ok [.ref m.n] (putObj m0 m.n (.ins 3 (fldPut fl v fs))) := fun m0 fl v fs h1 h2 h3 => by
        unfold Tg.att
        rw [e_loc _ _ _ _ (.ref m.n) rfl (by simp), b_ok]
        show Tg.attP (cx n).p m0 m.n fl v _ = _
        unfold Tg.attP
        simp only [h1, hasF_ok n 3 fl h2, show Nat.blt fs.length 900 = true from Nat.ble_eq_true_of_le h3, Bool.and_self]
      rw [bl_asg]
      show endOf ((R.ok (Val.ref (m.n + 1)) (allo (allo m (.ins 3 [])) (.dct []))).bind _) = _
      rw [b_ok, att _ 0 _ [] p0 rfl (by simp), b_ok, bl_asg, e_cst, b_ok]
      show endOf ((Tg.att (.loc 0) 1 (cx n) (.int 0) [.ref m.n] (putObj (allo (allo m (.ins 3 [])) (.dct [])) m.n (.ins 3 [(0, .ref (m.n + 1))]))).bind _) = _
      rw [att _ 1 _ [(0, .ref (m.n + 1))] p1 rfl (by simp), b_ok, bl_asg, e_cst, b_ok]
      show endOf ((Tg.att (.loc 0) 2 (cx n) (.int 0) [.ref m.n] (putObj (putObj (allo (allo m (.ins 3 [])) (.dct [])) m.n (.ins 3 [(0, .ref (m.n + 1))])) m.n (.ins 3 [(0, .ref (m.n + 1)), (1, .int 0)]))).bind _) = _
      rw [att _ 2 _ [(0, .ref (m.n + 1)), (1, .int 0)] p2 rfl (by simp), b_ok]
      rfl
    show (match (cx (n + 1)).call 2 [.ref m.n] (allo m (.ins 3 [])) with | .ok v m' => (match v with | .none => R.ok (Val.ref m.n) m' | _ => .bad 117) | .ex v m' => .ex v m' | .bad n => .bad n) = _
    rw [run]
  · rw [put_get h4.wf hlt, if_pos rfl]
  · rw [put_get h4.wf hlt, if_neg (by omega), put_get h3.wf hlt, if_neg (by omega), put_get g2.wf hlt, if_neg (by omega), allo_get g1.wf]
    exact if_pos rfl
  · rw [h5.same i (by show i < m.n + 1 + 1; omega) (by simp; omega), h4.same i (by show i < m.n + 1 + 1; omega) (by simp; omega), h3.same i (by show i < m.n + 1 + 1; omega) (by simp; omega), g2.same i (by show i < m.n + 1; omega) (by simp), g1.same i hi (by simp)]
theorem is_sort_ok {n : Nat} (hn : 190 ≤ n) {m : M} {D : Nat} {v : Val} (hf : Full m.t m.n) (hp : Pl m D v = true) (hD : D ≤ 100) : ∃ m', (cx (n + 1)).call 9 [v] m = .ok (.bool (isSortP v)) m' ∧ Gr m m' [] := by
  obtain ⟨j, rfl⟩ : ∃ j, n = 3 * 61 + 4 + (j + 3) := ⟨n - 190, by omega⟩
  show ∃ m', runFn f9 (cx (3 * 61 + 4 + (j + 3))) [v] m = _ ∧ _
  rw [run_fn _ _ _ _ rfl]
  show ∃ m', endOf (block (cx (3 * 61 + 4 + (j + 3))) [.ret (.meth (.mk 3 []) 5 [(.loc 0)])] [v] m) = _ ∧ _
  obtain ⟨m1, a1, ⟨d, hdm, ks⟩, g1⟩ := kinds_new (3 * 61 + 4 + (j + 2)) hf
  have hp1 := Pl.mono (g1.ls hf (by simp)) hp
  obtain ⟨m2, b1, b2, b3⟩ := sort_ok 61 (j + 3) m1 m.n d D ⟨[], 0, 0⟩ v g1.wf ks hp1 hD (by simp) (by simp)
  have mk : E.mk 3 [] (cx (3 * 61 + 4 + (j + 3))) [v] m = .ok (.ref m.n) m1 := a1
  rw [bl_ret, e_meth, mk, b_ok, methOf_ok ks.o (g := 7) rfl, op_some, l_cons, e_loc _ _ _ _ v rfl (Pl.nu hp), b_ok, l_nil, b_ok, b_ok, b1, b_ok, o_ret]
  refine ⟨m2, rfl, ⟨b3.wf, Nat.le_trans g1.le b3.le, fun i hi _ => ?_⟩⟩
  rw [b3.same i (Nat.lt_of_lt_of_le hi g1.le) (by simp; omega), g1.same i hi (by simp)]
end K02
set_option linter.all false
set_option maxHeartbeats 4000000
/-! PN: the shape and the size of sorts; counting anew. -/
namespace K02
open MP
def tailOk : Val → Bool
  | .none => true
  | .int i => inCnt i
  | _ => false
def effOk1 (xs : List Val) : Bool := match xs with
  | [a, t] => (match a with
    | .tup ns => ns.all isLab && (srt ns && tailOk t)
    | _ => false)
  | _ => false
def effOk : Val → Bool
  | .tup xs => effOk1 xs
  | _ => false
def shpW (rec : Val → Bool) (w : List Nat) (rest : List Val) : Bool :=
  if (w = wNUM ∨ w = wFLAG) ∧ rest = [] then true
  else if w = wANY then (match rest with
    | [c] => (match c with
      | .int i => inCnt i
      | _ => false)
    | _ => false)
  else if w = wLIST then (match rest with
    | [x] => rec x
    | _ => false)
  else if w = wTO then (match rest with
    | [x, e, y] => rec x && (effOk e && rec y)
    | _ => false)
  else if w = wROW then (match rest with
    | [ps, t] => (match ps with
      | .tup xs => xs.all okPair && (asc2 xs && (xs.all (fun x => rec (snd0 x)) && tailOk t))
      | _ => false)
    | _ => false)
  else false
/-- the word and what stands behind it -/
def onTup {α : Type} (v : Val) (d : α) (k : List Nat → List Val → α) : α := match v with
  | .tup xs => (match xs with
    | [] => d
    | x :: rest => (match x with
      | .str w => k w rest
      | _ => d))
  | _ => d
def shp : Nat → Val → Bool
  | 0, _ => false
  | n + 1, v => onTup v false (shpW (shp n))
def szW (rec : Val → Nat) (w : List Nat) (rest : List Val) : Nat :=
  if (w = wNUM ∨ w = wFLAG) ∧ rest = [] then 1
  else if w = wLIST then (match rest with
    | [x] => rec x + 1
    | _ => 1)
  else if w = wTO then (match rest with
    | [x, _, y] => rec x + rec y + 1
    | _ => 1)
  else if w = wROW then (match rest with
    | [ps, _] => (match ps with
      | .tup xs => (xs.map fun x => rec (snd0 x)).sum + 1
      | _ => 1)
    | _ => 1)
  else 1
def sz : Nat → Val → Nat
  | 0, _ => 0
  | n + 1, v => onTup v 0 (szW (sz n))
theorem takes_true {s : KSt} {c : Val} {w : List Nat} (h : (pTakes s c w).1 = true) : ∃ i, c = .int i ∧ inCnt i = true := by
  unfold pTakes at h
  cases c with
  | int i =>
    simp only at h
    by_cases hc : inCnt i = true
    · exact ⟨i, rfl, hc⟩
    · rw [if_neg hc] at h; cases h
  | _ => cases h
theorem tail_true {s : KSt} {c : Val} {w : List Nat} (h : (pTail s c w).1 = true) : tailOk c = true := by
  unfold pTail at h
  split at h
  · rfl
  · obtain ⟨i, rfl, hc⟩ := takes_true h
    exact hc
theorem eff_true {s : KSt} {e : Val} (h : (pEff s e).1 = true) : effOk e = true := by
  unfold pEff at h
  cases e with
  | tup xs =>
    have h : (pEff1 s xs).1 = true := h
    show effOk1 xs = true
    match xs, h with
    | [a, t], h =>
      have h : (pEff2 s a t).1 = true := h
      unfold pEff2 at h
      cases a with
      | tup ns =>
        simp only at h
        split at h
        · rename_i q
          obtain ⟨q1, q2⟩ := Bool.and_eq_true_iff.mp q
          show (ns.all isLab && (srt ns && tailOk t)) = true
          rw [q1, q2, tail_true h]
          rfl
        · cases h
      | _ => cases h
    | [], h => cases h
    | [_], h => cases h
    | _ :: _ :: _ :: _, h => cases h
  | _ => cases h
theorem effOk_inv {e : Val} (h : effOk e = true) : ∃ ns t, e = .tup [.tup ns, t] ∧ tailOk t = true ∧ ns.all isLab = true ∧ srt ns = true := by
  cases e with
  | tup es =>
    have h : effOk1 es = true := h
    rcases es with _ | ⟨a, _ | ⟨t, _ | ⟨z, q⟩⟩⟩
    · cases h
    · cases h
    · cases a with
      | tup ns =>
        obtain ⟨h1, h⟩ := Bool.and_eq_true_iff.mp (show (ns.all isLab && (srt ns && tailOk t)) = true from h)
        obtain ⟨h2, h3⟩ := Bool.and_eq_true_iff.mp h
        exact ⟨ns, t, rfl, h3, h1, h2⟩
      | _ => cases h
    · cases h
  | _ => cases h
structure Sh (n : Nat) (s : KSt) (v : Val) (r : Bool × KSt) : Prop where
  shp : shp n v = true
  many : r.2.many = s.many + sz n v
theorem pL_true {n : Nat} {rec : KSt → Val → Bool × KSt} (hr : ∀ s v, (rec s v).1 = true → Sh n s v (rec s v)) : ∀ (xs : List Val) (s : KSt), (pAll rec s xs).1 = true → xs.all (fun x => shp n (snd0 x)) = true ∧ (pAll rec s xs).2.many = s.many + ((xs.map fun x => sz n (snd0 x)).sum : Nat)
  | [], s, h => ⟨rfl, by simp [pAll, pL]⟩
  | x :: r, s, h => by
    have e : pAll rec s (x :: r) = ((rec s (snd0 x)).1 && (pAll rec (rec s (snd0 x)).2 r).1, (pAll rec (rec s (snd0 x)).2 r).2) := rfl
    rw [e] at h ⊢
    obtain ⟨h1, h2⟩ := Bool.and_eq_true_iff.mp h
    have a := hr s (snd0 x) h1
    have b := pL_true hr r _ h2
    refine ⟨?_, ?_⟩
    · show (shp n (snd0 x) && r.all fun x => shp n (snd0 x)) = true
      rw [a.shp, b.1]
      rfl
    · show (pAll rec (rec s (snd0 x)).2 r).2.many = _
      rw [b.2, a.many]
      simp only [List.map_cons, List.sum_cons]
      omega
theorem sort_shape : ∀ (n : Nat) (s : KSt) (v : Val), (pSort n s v).1 = true → Sh n s v (pSort n s v)
  | 0, s, v, h => by cases h
  | n + 1, s, v, h => by
    unfold pSort at h ⊢
    by_cases h60 : s.within + 1 ≤ 60
    · rw [if_pos h60] at h ⊢
      have h : (pFormed (pSort n) { s with within := s.within + 1 } v).1 = true := h
      have goal : Sh (n + 1) s v (pFormed (pSort n) { s with within := s.within + 1 } v) := by
        obtain ⟨s0, es0⟩ : ∃ s0 : KSt, s0 = { s with within := s.within + 1 } := ⟨_, rfl⟩
        rw [← es0] at h ⊢
        have em : s0.many = s.many := by rw [es0]
        unfold pFormed at h ⊢
        by_cases h4 : 400 < s0.many + 1
        · rw [if_pos h4] at h; cases h
        · rw [if_neg h4] at h ⊢
          obtain ⟨s1, es1⟩ : ∃ s1 : KSt, s1 = { s0 with many := s0.many + 1 } := ⟨_, rfl⟩
          rw [← es1] at h ⊢
          have em1 : s1.many = s.many + 1 := by rw [es1]; show s0.many + 1 = _; rw [em]
          cases v with
          | tup xs =>
            cases xs with
            | nil => cases h
            | cons x rest =>
              cases x with
              | str w =>
                have h : (pWord (pSort n) s1 w rest).1 = true := h
                show Sh (n + 1) s (.tup (.str w :: rest)) (pWord (pSort n) s1 w rest)
                have key : shpW (shp n) w rest = true ∧ (pWord (pSort n) s1 w rest).2.many = s.many + szW (sz n) w rest := by
                  unfold pWord at h ⊢
                  unfold shpW szW
                  by_cases c1 : (w = wNUM ∨ w = wFLAG) ∧ rest = []
                  · simp only [if_pos c1]
                    exact ⟨by trivial, em1⟩
                  · rw [if_neg c1] at h
                    simp only [if_neg c1]
                    by_cases c2 : w = wANY
                    · rw [if_pos c2] at h
                      have n1 : ¬ wANY = wLIST := by decide
                      have n2 : ¬ wANY = wTO := by decide
                      have n3 : ¬ wANY = wROW := by decide
                      subst c2
                      simp only [if_pos, if_neg n1, if_neg n2, if_neg n3]
                      match rest, h with
                      | [c], h =>
                        obtain ⟨i, rfl, hi⟩ := takes_true h
                        exact ⟨hi, by rw [(takes_sml s1 (.int i) wSORT).many, em1]; rfl⟩
                      | [], h => cases h
                      | _ :: _ :: _, h => cases h
                    · rw [if_neg c2] at h
                      simp only [if_neg c2]
                      by_cases c3 : w = wLIST
                      · rw [if_pos c3] at h
                        simp only [if_pos c3]
                        match rest, h with
                        | [x], h =>
                          have a := sort_shape n s1 x h
                          exact ⟨a.shp, by show (pSort n s1 x).2.many = s.many + ((sz n x + 1 : Nat) : Int); rw [a.many, em1]; omega⟩
                        | [], h => cases h
                        | _ :: _ :: _, h => cases h
                      · rw [if_neg c3] at h
                        simp only [if_neg c3]
                        by_cases c4 : w = wTO
                        · rw [if_pos c4] at h
                          simp only [if_pos c4]
                          match rest, h with
                          | [x, e, y], h =>
                            have h : (andT (pSort n s1 x) fun s => andT (pEff s e) fun s => pSort n s y).1 = true := h
                            show (shp n x && (effOk e && shp n y)) = true ∧ (andT (pSort n s1 x) fun s => andT (pEff s e) fun s => pSort n s y).2.many = _
                            unfold andT at h ⊢
                            by_cases q1 : (pSort n s1 x).1 = true
                            · rw [if_pos q1] at h ⊢
                              have h : (if (pEff (pSort n s1 x).2 e).1 = true then pSort n (pEff (pSort n s1 x).2 e).2 y else (false, (pEff (pSort n s1 x).2 e).2)).1 = true := h
                              show (shp n x && (effOk e && shp n y)) = true ∧ (if (pEff (pSort n s1 x).2 e).1 = true then pSort n (pEff (pSort n s1 x).2 e).2 y else (false, (pEff (pSort n s1 x).2 e).2)).2.many = s.many + ((sz n x + sz n y + 1 : Nat) : Int)
                              by_cases q2 : (pEff (pSort n s1 x).2 e).1 = true
                              · rw [if_pos q2] at h ⊢
                                have a := sort_shape n s1 x q1
                                have b := sort_shape n _ y h
                                refine ⟨by rw [a.shp, eff_true q2, b.shp]; rfl, ?_⟩
                                rw [b.many, (eff_sml _ e).many, a.many, em1]
                                omega
                              · rw [if_neg q2] at h; cases h
                            · rw [if_neg q1] at h; cases h
                          | [], h => cases h
                          | [_], h => cases h
                          | [_, _], h => cases h
                          | _ :: _ :: _ :: _ :: _, h => cases h
                        · rw [if_neg c4] at h
                          simp only [if_neg c4]
                          by_cases c5 : w = wROW
                          · rw [if_pos c5] at h
                            simp only [if_pos c5]
                            match rest, h with
                            | [ps, t], h =>
                              have h : (andT (pPairs (pSort n) s1 ps) fun s => pTail s t wROW).1 = true := h
                              show _ ∧ (andT (pPairs (pSort n) s1 ps) fun s => pTail s t wROW).2.many = _
                              unfold andT at h ⊢
                              by_cases q1 : (pPairs (pSort n) s1 ps).1 = true
                              · rw [if_pos q1] at h ⊢
                                unfold pPairs at q1 h ⊢
                                cases ps with
                                | tup xs =>
                                  simp only at q1 h ⊢
                                  by_cases q2 : (xs.all okPair && asc2 xs) = true
                                  · rw [if_pos q2] at q1 h ⊢
                                    obtain ⟨z1, z2⟩ := Bool.and_eq_true_iff.mp q2
                                    have b := pL_true (sort_shape n) xs s1 q1
                                    refine ⟨by rw [z1, z2, b.1, tail_true h]; rfl, ?_⟩
                                    rw [(tail_sml _ t wROW).many, b.2, em1]
                                    omega
                                  · rw [if_neg q2] at q1; cases q1
                                | _ => cases q1
                              · rw [if_neg q1] at h; cases h
                            | [], h => cases h
                            | [_], h => cases h
                            | _ :: _ :: _ :: _, h => cases h
                          · rw [if_neg c5] at h; cases h
                exact ⟨key.1, key.2⟩
              | _ => cases h
          | _ => cases h
      exact ⟨goal.shp, goal.many⟩
    · rw [if_neg h60] at h; cases h
/-! ### counted anew -/
def ix : List Int → Int → Option Nat
  | [], _ => none
  | a :: r, c => if a = c then some 0 else (ix r c).map (· + 1)
def cnt (L : List Int) (c : Int) : Int × List Int := match ix L c with
  | some i => (i, L)
  | none => (L.length, L ++ [c])
def renT (L : List Int) (t : Val) : Val × List Int := match t with
  | .int i => (.int (cnt L i).1, (cnt L i).2)
  | t => (t, L)
def renE1 (L : List Int) (xs : List Val) : Val × List Int := match xs with
  | [a, t] => (.tup [a, (renT L t).1], (renT L t).2)
  | _ => (.none, L)
def renE (L : List Int) (e : Val) : Val × List Int := match e with
  | .tup xs => renE1 L xs
  | _ => (.none, L)
def fst0 : Val → Val
  | .tup (x :: _) => x
  | _ => .none
def renL (rec : List Int → Val → Val × List Int) : List Int → List Val → List Val × List Int
  | L, [] => ([], L)
  | L, x :: r => (.tup [fst0 x, (rec L (snd0 x)).1] :: (renL rec (rec L (snd0 x)).2 r).1, (renL rec (rec L (snd0 x)).2 r).2)
def renW (rec : List Int → Val → Val × List Int) (L : List Int) (w : List Nat) (rest : List Val) : Val × List Int :=
  if w = wANY then (match rest with
    | [c] => (.tup [.str wANY, (renT L c).1], (renT L c).2)
    | _ => (.none, L))
  else if w = wLIST then (match rest with
    | [x] => (.tup [.str wLIST, (rec L x).1], (rec L x).2)
    | _ => (.none, L))
  else if w = wTO then (match rest with
    | [x, e, y] => (.tup [.str wTO, (rec L x).1, (renE (rec L x).2 e).1, (rec (renE (rec L x).2 e).2 y).1], (rec (renE (rec L x).2 e).2 y).2)
    | _ => (.none, L))
  else if w = wROW then (match rest with
    | [ps, t] => (match ps with
      | .tup xs => (.tup [.str wROW, .tup (renL rec L xs).1, (renT (renL rec L xs).2 t).1], (renT (renL rec L xs).2 t).2)
      | _ => (.none, L))
    | _ => (.none, L))
  else (.tup (.str w :: rest), L)
def ren : Nat → List Int → Val → Val × List Int
  | 0, L, v => (v, L)
  | n + 1, L, v => onTup v (v, L) (renW (ren n) L)
theorem renL_snoc (rec : List Int → Val → Val × List Int) (x : Val) : ∀ (xs : List Val) (L : List Int), renL rec L (xs ++ [x]) = ((renL rec L xs).1 ++ [.tup [fst0 x, (rec (renL rec L xs).2 (snd0 x)).1]], (rec (renL rec L xs).2 (snd0 x)).2)
  | [], L => rfl
  | y :: r, L => by
    show (_ :: (renL rec _ (r ++ [x])).1, (renL rec _ (r ++ [x])).2) = _
    rw [renL_snoc rec x r]
    rfl
theorem cnt_len (L : List Int) (c : Int) : (cnt L c).2.length ≤ L.length + 1 := by
  unfold cnt
  split
  · exact Nat.le_succ _
  · simp
theorem renT_len (L : List Int) (t : Val) : (renT L t).2.length ≤ L.length + 1 := by
  unfold renT
  split
  · exact cnt_len _ _
  · exact Nat.le_succ _
theorem renE_len (L : List Int) (e : Val) : (renE L e).2.length ≤ L.length + 1 := by
  unfold renE renE1
  split
  · split
    · exact renT_len _ _
    · exact Nat.le_succ _
  · exact Nat.le_succ _
theorem renL_len {n : Nat} {rec : List Int → Val → Val × List Int} (hr : ∀ L v, shp n v = true → (rec L v).2.length ≤ L.length + sz n v) : ∀ (xs : List Val) (L : List Int), xs.all (fun x => shp n (snd0 x)) = true → (renL rec L xs).2.length ≤ L.length + (xs.map fun x => sz n (snd0 x)).sum
  | [], L, _ => by simp [renL]
  | x :: r, L, h => by
    obtain ⟨h1, h2⟩ := Bool.and_eq_true_iff.mp (show (shp n (snd0 x) && r.all fun x => shp n (snd0 x)) = true from h)
    have a := hr L _ h1
    have b := renL_len hr r (rec L (snd0 x)).2 h2
    show (renL rec (rec L (snd0 x)).2 r).2.length ≤ _
    simp only [List.map_cons, List.sum_cons]
    omega
theorem ren_len : ∀ (n : Nat) (L : List Int) (v : Val), shp n v = true → (ren n L v).2.length ≤ L.length + sz n v
  | 0, L, v, h => by cases h
  | n + 1, L, v, h => by
    cases v with
    | tup xs =>
      cases xs with
      | nil => cases h
      | cons x rest =>
        cases x with
        | str w =>
          have h : shpW (shp n) w rest = true := h
          show (renW (ren n) L w rest).2.length ≤ L.length + szW (sz n) w rest
          unfold shpW at h
          unfold renW szW
          by_cases c1 : (w = wNUM ∨ w = wFLAG) ∧ rest = []
          · have n2 : ¬ w = wANY := by rcases c1.1 with z | z <;> rw [z] <;> decide
            have n3 : ¬ w = wLIST := by rcases c1.1 with z | z <;> rw [z] <;> decide
            have n4 : ¬ w = wTO := by rcases c1.1 with z | z <;> rw [z] <;> decide
            have n5 : ¬ w = wROW := by rcases c1.1 with z | z <;> rw [z] <;> decide
            rw [if_neg n2, if_neg n3, if_neg n4, if_neg n5, if_pos c1]
            exact Nat.le_succ _
          · rw [if_neg c1] at h ⊢
            by_cases c2 : w = wANY
            · rw [if_pos c2] at h ⊢
              have n3 : ¬ w = wLIST := by rw [c2]; decide
              have n4 : ¬ w = wTO := by rw [c2]; decide
              have n5 : ¬ w = wROW := by rw [c2]; decide
              rw [if_neg n3, if_neg n4, if_neg n5]
              match rest, h with
              | [c], h => exact renT_len L c
              | [], h => cases h
              | _ :: _ :: _, h => cases h
            · rw [if_neg c2] at h ⊢
              by_cases c3 : w = wLIST
              · rw [if_pos c3] at h ⊢
                rw [if_pos c3]
                match rest, h with
                | [x], h =>
                  have := ren_len n L x h
                  show (ren n L x).2.length ≤ L.length + (sz n x + 1)
                  omega
                | [], h => cases h
                | _ :: _ :: _, h => cases h
              · rw [if_neg c3] at h ⊢
                rw [if_neg c3]
                by_cases c4 : w = wTO
                · rw [if_pos c4] at h ⊢
                  rw [if_pos c4]
                  match rest, h with
                  | [x, e, y], h =>
                    obtain ⟨h1, h⟩ := Bool.and_eq_true_iff.mp h
                    obtain ⟨h2, h3⟩ := Bool.and_eq_true_iff.mp h
                    have a := ren_len n L x h1
                    have b := renE_len (ren n L x).2 e
                    have c := ren_len n (renE (ren n L x).2 e).2 y h3
                    show (ren n (renE (ren n L x).2 e).2 y).2.length ≤ L.length + (sz n x + sz n y + 1)
                    omega
                  | [], h => cases h
                  | [_], h => cases h
                  | [_, _], h => cases h
                  | _ :: _ :: _ :: _ :: _, h => cases h
                · rw [if_neg c4] at h ⊢
                  rw [if_neg c4]
                  by_cases c5 : w = wROW
                  · rw [if_pos c5] at h ⊢
                    rw [if_pos c5]
                    match rest, h with
                    | [ps, t], h =>
                      cases ps with
                      | tup xs =>
                        obtain ⟨h1, h⟩ := Bool.and_eq_true_iff.mp h
                        obtain ⟨h2, h⟩ := Bool.and_eq_true_iff.mp h
                        obtain ⟨h3, h4⟩ := Bool.and_eq_true_iff.mp h
                        have a := renL_len (ren_len n) xs L h3
                        have b := renT_len (renL (ren n) L xs).2 t
                        show (renT (renL (ren n) L xs).2 t).2.length ≤ L.length + ((xs.map fun x => sz n (snd0 x)).sum + 1)
                        omega
                      | _ => cases h
                    | [], h => cases h
                    | [_], h => cases h
                    | _ :: _ :: _ :: _, h => cases h
                  · rw [if_neg c5] at h; cases h
        | _ => cases h
    | _ => cases h
end K02
set_option Elab.async false
set_option linter.all false
set_option maxRecDepth 100000
set_option maxHeartbeats 4000000
/-! PK6: counting anew, by the program and by the law. -/
namespace K02
open MP Snd PL
def kvC : Nat → List Int → List (Val × Val)
  | _, [] => []
  | i, c :: r => (.int c, .int i) :: kvC (i + 1) r
theorem kvC_len : ∀ (L : List Int) (i : Nat), (kvC i L).length = L.length
  | [], _ => rfl
  | _ :: r, i => by show (kvC (i + 1) r).length + 1 = _; rw [kvC_len r]; rfl
theorem lookK_kvC (c : Int) : ∀ (L : List Int) (i : Nat), lookK (.int c) (kvC i L) = (ix L c).map fun j => .int ((i + j : Nat) : Int)
  | [], _ => rfl
  | a :: r, i => by
    show (match decide (a = c) with | true => some (Val.int i) | false => lookK (.int c) (kvC (i + 1) r)) = Option.map _ (if a = c then some 0 else (ix r c).map (· + 1))
    by_cases h : a = c
    · rw [decide_eq_true h, if_pos h]; rfl
    · rw [decide_eq_false h, if_neg h]
      show lookK (.int c) (kvC (i + 1) r) = _
      rw [lookK_kvC c r (i + 1)]
      cases ix r c with
      | none => rfl
      | some j =>
        show some (Val.int ((i + 1 + j : Nat) : Int)) = some (Val.int ((i + (j + 1) : Nat) : Int))
        rw [show i + 1 + j = i + (j + 1) by omega]
theorem kvC_snoc (c : Int) : ∀ (L : List Int) (i : Nat), kvC i (L ++ [c]) = kvC i L ++ [(.int c, .int ((i + L.length : Nat) : Int))]
  | [], i => rfl
  | a :: r, i => by
    show (Val.int a, Val.int i) :: kvC (i + 1) (r ++ [c]) = _
    rw [kvC_snoc c r (i + 1)]
    show _ :: (kvC (i + 1) r ++ [(Val.int c, Val.int ((i + 1 + r.length : Nat) : Int))]) = _ :: (kvC (i + 1) r ++ [(Val.int c, Val.int ((i + (r.length + 1) : Nat) : Int))])
    rw [show i + 1 + r.length = i + (r.length + 1) by omega]
/-- setdefault(one, len(..)) -/
theorem setdef_cnt {m : M} {d : Nat} {L : List Int} {c : Int} (hf : Full m.t m.n) (hd : m.t.get d = some (.dct (kvC 0 L))) (hl : L.length < 16777216) : ∃ m', E.setdef (.ref d) (.int c) (.int L.length) m = .ok (.int (cnt L c).1) m' ∧ m'.t.get d = some (.dct (kvC 0 (cnt L c).2)) ∧ Gr m m' [d] := by
  unfold E.setdef dctW
  simp only [hd]
  rw [show Nat.blt (kvC 0 L).length SIZE = true from Nat.ble_eq_true_of_le (by rw [kvC_len]; show L.length + 1 ≤ 16777216; omega)]
  simp only [look, isKey, opt, lookK_kvC]
  unfold cnt
  cases h : ix L c with
  | some i =>
    refine ⟨m, ?_, hd, Gr.refl hf⟩
    simp only [Option.map_some, Nat.zero_add]
  | none =>
    have hk := get_lt hf hd
    refine ⟨putObj m d (.dct (kvC 0 (L ++ [c]))), ?_, by rw [put_get hf hk, if_pos rfl], Gr.put hf hk _⟩
    simp only [Option.map_none]
    unfold putK
    rw [lookK_kvC, h, kvC_snoc, Nat.zero_add]
    rfl
/-- an object of Counted -/
structure CS (m : M) (k d : Nat) (L : List Int) (many : Int) : Prop where
  o : m.t.get k = some (.ins 4 [(9, .ref d), (1, .int many)])
  t : m.t.get d = some (.dct (kvC 0 L))
theorem CS.ne {m : M} {k d : Nat} {L : List Int} {many : Int} (h : CS m k d L many) : k ≠ d := by
  rintro rfl
  have := h.o.symm.trans h.t
  cases this
theorem CS.gr {m m' : M} {k d : Nat} {L : List Int} {many : Int} (h : CS m k d L many) (hf : Full m.t m.n) (g : Gr m m' []) : CS m' k d L many :=
  ⟨by rw [g.same k (get_lt hf h.o) (by simp)]; exact h.o, by rw [g.same d (get_lt hf h.t) (by simp)]; exact h.t⟩
theorem CS.ls {m m' : M} {k d : Nat} {L : List Int} {many : Int} (h : CS m k d L many) (hf : Full m.t m.n) (g : Gr m m' [k, d]) : Ls m m' := g.ls hf fun j hj => by
  rcases List.mem_cons.mp hj with rfl | hj
  · unfold lstAt; rw [h.o]
  · rw [List.mem_singleton.mp hj]; unfold lstAt; rw [h.t]
theorem len_dct {f : Cx} {σ : List Val} {m : M} {e : E} {r : Nat} {kvs : List (Val × Val)} (he : e f σ m = .ok (.ref r) m) (hr : m.t.get r = some (.dct kvs)) : E.bLen e f σ m = .ok (.int kvs.length) m := by
  rw [e_len, he, b_ok]
  show lenRef m r = _
  unfold lenRef lstAt dctAt
  rw [hr]
  rfl
theorem count_ok (n : Nat) {m : M} {k d : Nat} {L : List Int} {many : Int} {c : Int} (hf : Full m.t m.n) (hk : CS m k d L many) (hl : L.length < 16777216) :
    ∃ m', (cx (n + 1)).call 12 [.ref k, .int c] m = .ok (.int (cnt L c).1) m' ∧ CS m' k d (cnt L c).2 many ∧ Gr m m' [k, d] := by
  show ∃ m', runFn f12 (cx n) [.ref k, .int c] m = _ ∧ _
  rw [run_fn _ _ _ _ rfl]
  show ∃ m', endOf (block (cx n) [.ret (.mSetdefault (.att (.loc 0) 9) (.loc 1) (.bLen (.att (.loc 0) 9)))] [.ref k, .int c] m) = _ ∧ _
  have ho : E.att (.loc 0) 9 (cx n) [.ref k, .int c] m = .ok (.ref d) m := att_ok _ (e_loc _ _ _ _ _ rfl (by simp)) hk.o rfl
  obtain ⟨m', a1, a2, a3⟩ := setdef_cnt (c := c) hf hk.t hl
  rw [bl_ret, e_setdef _ _ _ _ _ _ ho (e_loc _ _ _ _ _ rfl (by simp)) (len_dct ho hk.t) hk.t, kvC_len, a1, b_ok, o_ret]
  exact ⟨m', rfl, ⟨by rw [a3.same k (get_lt hf hk.o) (by simp [hk.ne])]; exact hk.o, a2⟩, a3.mono (by simp)⟩
theorem isNone_int (i : Int) (m : M) : cmpop .is m (.int i) .none = .ofB false := rfl
theorem isNone_none (m : M) : cmpop .is m .none .none = .ofB true := rfl
theorem ctail_ok (n : Nat) {m : M} {k d : Nat} {L : List Int} {many : Int} {t : Val} (hf : Full m.t m.n) (hk : CS m k d L many) (hl : L.length < 16777216) (ht : tailOk t = true) :
    ∃ m', (cx (n + 2)).call 13 [.ref k, t] m = .ok (renT L t).1 m' ∧ CS m' k d (renT L t).2 many ∧ Gr m m' [k, d] := by
  show ∃ m', runFn f13 (cx (n + 1)) [.ref k, t] m = _ ∧ _
  rw [run_fn _ _ _ _ rfl]
  show ∃ m', endOf (block (cx (n + 1)) [.ret (.ite (.cmp .is (.loc 1) (.cst .none)) (.cst .none) (.meth (.loc 0) 10 [(.loc 1)]))] [.ref k, t] m) = _ ∧ _
  cases t with
  | none => exact ⟨m, rfl, hk, Gr.refl hf⟩
  | int i =>
    rw [bl_ret, e_ite, e_cmp, e_loc _ _ _ _ (.int i) rfl (by simp), b_ok, e_cst, b_ok, isNone_int, tri_b, b_ok, t_b, if_neg Bool.false_ne_true, meth1 (g := 12) hk.o rfl rfl (e_loc _ _ _ _ (.int i) rfl (by simp))]
    obtain ⟨m', a1, a2, a3⟩ := count_ok n (c := i) hf hk hl
    exact ⟨m', by rw [a1]; rfl, a2, a3⟩
  | _ => cases ht
theorem idx_t {f : Cx} {σ : List Val} {m : M} {e : E} {xs : List Val} {i : Int} {k : Nat} (hi : i = Int.ofNat k) (he : e f σ m = .ok (.tup xs) m) (h : k < xs.length) : E.idx e (.cst (.int i)) f σ m = .ok xs[k] m := by
  subst hi
  exact idx_ok he h
theorem CS.put {m : M} {k d : Nat} {L : List Int} {many many' : Int} (hf : Full m.t m.n) (h : CS m k d L many) : CS (putObj m k (.ins 4 [(9, .ref d), (1, .int many')])) k d L many' :=
  ⟨by rw [put_get hf (get_lt hf h.o), if_pos rfl], by rw [put_get hf (get_lt hf h.o), if_neg (Ne.symm h.ne), h.t]⟩
def ToldW (n L0 : Nat) : Prop := ∀ (m : M) (k d D : Nat) (L : List Int) (many : Int) (v : Val), Full m.t m.n → CS m k d L many → Pl m D v = true → shp n v = true → many + sz n v ≤ 400 → (L.length : Int) ≤ many →
  ∃ m', (cx L0).call 14 [.ref k, v] m = .ok (ren n L v).1 m' ∧ CS m' k d (ren n L v).2 (many + sz n v) ∧ Gr m m' [k, d]
/-- a comprehension of pairs, its state told by a fold -/
theorem pairs_fold {f : Cx} {σ : List Val} {m : M} {it : It} {e : E} {i j : Nat} {xs : List Val} {n : Nat} {L : List Int} {I : List Int → Nat → M → Prop} {S : List Nat} (hf : Full m.t m.n) (hit : it f σ m = .ok (.vals xs) m) (hl : xs.length ≤ 1000) (hp : ∀ x ∈ xs, okPair x = true)
    (h0 : I L 0 m) (hI : ∀ L k m', I L k m' → Gr m m' S ∧ True)
    (he : ∀ x (hx : x ∈ xs) (k : Nat) (L : List Int) (m' : M), I L k m' → k + sz n (snd0 x) ≤ (xs.map fun x => sz n (snd0 x)).sum → ∃ m2, e f (setN (snd0 x) (setN (fst0 x) (wipe [i, j] σ) i) j) m' = .ok (.tup [fst0 x, (ren n L (snd0 x)).1]) m2 ∧ I (ren n L (snd0 x)).2 (k + sz n (snd0 x)) m2) :
    ∃ m1 m', E.lc (.tup [.loc i, .loc j]) it [i, j] none e f σ m = .ok (.ref m1.n) m' ∧ m' = allo m1 (.lst (renL (ren n) L xs).1) ∧ I (renL (ren n) L xs).2 ((xs.map fun x => sz n (snd0 x)).sum) m1 := by
  obtain ⟨acc, m1, h1, h2, h3⟩ := comp_fold (f := f) (t := .tup [.loc i, .loc j]) (w := .vals xs) (c := none) (e := e) (σ := wipe [i, j] σ) xs.length (by omega)
    (fun k acc m' => acc = (renL (ren n) L (xs.take k)).1.reverse ∧ I (renL (ren n) L (xs.take k)).2 (((xs.take k).map fun x => sz n (snd0 x)).sum) m') (m0 := m) ⟨rfl, h0⟩
    (fun acc m' _ => vals_done m') (fun k acc m' hk ⟨e1, e2⟩ => by
      obtain ⟨s, b, ex, _⟩ := okPair_inv (hp xs[k] (List.getElem_mem hk))
      obtain ⟨m2, c1, c2⟩ := he xs[k] (List.getElem_mem hk) _ _ m' e2 (by
        have q : xs = xs.take k ++ xs[k] :: xs.drop (k + 1) := by rw [← List.drop_eq_getElem_cons hk, List.take_append_drop]
        have q2 := congrArg (fun l : List Val => (l.map fun x => sz n (snd0 x)).sum) q
        simp only [List.map_append, List.sum_append, List.map_cons, List.sum_cons] at q2
        omega)
      refine ⟨_, setN (snd0 xs[k]) (setN (fst0 xs[k]) (wipe [i, j] σ) i) j, m', vals_item hk m', by rw [ex]; rfl, _, m2, c1, ?_, ?_⟩
      · rw [e1, List.take_succ_eq_append_getElem hk, renL_snoc, List.reverse_append]
        rfl
      · rw [List.take_succ_eq_append_getElem hk, renL_snoc, List.map_append, List.sum_append]
        simp only [List.map_cons, List.map_nil, List.sum_cons, List.sum_nil, Nat.add_zero]
        exact c2)
  rw [List.take_of_length_le (Nat.le_refl _)] at h2 h3
  have hll : (renL (ren n) L xs).1.length = xs.length := by
    have : ∀ (xs : List Val) (L : List Int), (renL (ren n) L xs).1.length = xs.length := by
      intro xs
      induction xs with
      | nil => intro L; rfl
      | cons x r ih => intro L; show (renL (ren n) _ r).1.length + 1 = _; rw [ih]; rfl
    exact this xs L
  have hlc := e_lc (.tup [.loc i, .loc j]) it [i, j] none e f σ m _ _ _ _ hit h1 (by rw [h2, List.length_reverse, hll]; omega)
  rw [h2, List.reverse_reverse] at hlc
  exact ⟨m1, _, hlc, rfl, h3⟩
theorem tuple_of {f : Cx} {σ : List Val} {m : M} {e : E} {r : Nat} {m' : M} {xs : List Val} (he : e f σ m = .ok (.ref r) m') (hr : lstAt m' r = some xs) : E.bTuple e f σ m = .ok (.tup xs) m' := by
  show (e f σ m).bind _ = _
  rw [he, b_ok]
  show opt 53 (lstAt m' r) _ = _
  rw [hr, op_some]
theorem told_ok : ∀ (n j : Nat), ToldW n (n + 3 + j)
  | 0, j => fun m k d D L many v hf hk hp hs hz hl => by cases hs
  | n + 1, j => fun m k d D L many v hf hk hp hs hz hl => by
    obtain ⟨N, eN⟩ : ∃ N, N = n + 3 + j := ⟨_, rfl⟩
    rw [show n + 1 + 3 + j = N + 1 by omega]
    cases D with
    | zero => cases hp
    | succ D =>
    cases v with
    | tup xs =>
      cases xs with
      | nil => cases hs
      | cons x rest =>
        cases x with
        | str w =>
          have hs : shpW (shp n) w rest = true := hs
          have hz : many + (szW (sz n) w rest : Nat) ≤ 400 := hz
          show ∃ m', runFn f14 (cx N) [.ref k, .tup (.str w :: rest)] m = .ok (renW (ren n) L w rest).1 m' ∧ CS m' k d (renW (ren n) L w rest).2 (many + (szW (sz n) w rest : Nat)) ∧ _
          obtain ⟨px, hlen⟩ := Pl.tup hp
          have hpos : 1 ≤ szW (sz n) w rest := by
            unfold szW
            repeat' split
            all_goals omega
          rw [run_fn _ _ _ _ rfl]
          unfold f14
          simp only
          show ∃ m', endOf (block (cx N) _ [.ref k, .tup (.str w :: rest), .und, .und, .und, .und, .und, .und] m) = _ ∧ _
          rw [bl_aug (k := k) (i := many) 1 rfl hk.o rfl (hasF_ok _ _ _ rfl) (by simp)]
          have hk1 : CS (putObj m k (.ins 4 (fldPut 1 (.int (many + 1)) [(9, .ref d), (1, .int many)]))) k d L (many + 1) := hk.put hf
          have gp : Gr m (putObj m k (.ins 4 (fldPut 1 (.int (many + 1)) [(9, .ref d), (1, .int many)]))) [k, d] := (Gr.put hf (get_lt hf hk.o) _).mono (by simp)
          generalize putObj m k (.ins 4 (fldPut 1 (.int (many + 1)) [(9, .ref d), (1, .int many)])) = m1 at hk1 gp ⊢
          have hatt : E.att (.loc 0) 1 (cx N) [.ref k, .tup (.str w :: rest), .und, .und, .und, .und, .und, .und] m1 = .ok (.int (many + 1)) m1 := att_ok _ (e_loc _ _ _ _ _ rfl (by simp)) hk1.o rfl
          rw [bl_ite, e_cmp, hatt, b_ok, e_cst, b_ok, gt_int, tri_b, b_ok, t_b, decide_eq_false (by omega), if_neg Bool.false_ne_true, bl_nil, go_next, bl_asg]
          rw [idx_t (i := 0) (k := 0) (xs := .str w :: rest) rfl (e_loc _ _ _ _ _ rfl (by simp)) (by simp), b_ok, t_loc, b_ok]
          have hf1 := gp.wf
          have prest : ∀ x ∈ rest, Pl m1 D x = true := fun x hx => Pl.mono (hk.ls hf gp) (px x (List.mem_cons_of_mem _ hx))
          have hls : ∀ {m'}, Gr m1 m' [k, d] → ∀ x ∈ rest, Pl m' D x = true := fun g x hx => Pl.mono (hk1.ls hf1 g) (prest x hx)
          show ∃ m', endOf (block (cx N) _ [.ref k, .tup (.str w :: rest), .str w, .und, .und, .und, .und, .und] m1) = _ ∧ _
          have l1 : ∀ (m : M) (a b c d' e : Val), E.loc 1 (cx N) [.ref k, .tup (.str w :: rest), .str w, a, b, c, d', e] m = .ok (.tup (.str w :: rest)) m := fun m a b c d' e => rfl
          have l2 : ∀ (m : M) (a b c d' e : Val), E.loc 2 (cx N) [.ref k, .tup (.str w :: rest), .str w, a, b, c, d', e] m = .ok (.str w) m := fun m a b c d' e => rfl
          clear hatt hp px hk hf
          unfold shpW at hs
          unfold renW
          rw [bl_ite, e_cmp, l2, b_ok, e_cst, b_ok, eq_str, tri_b, b_ok, t_b, show ([97,110,121] : List Nat) = wANY from rfl]
          by_cases c1 : (w = wNUM ∨ w = wFLAG) ∧ rest = []
          · have n2 : ¬ w = wANY := by rcases c1.1 with z | z <;> rw [z] <;> decide
            have n3 : ¬ w = wLIST := by rcases c1.1 with z | z <;> rw [z] <;> decide
            have n4 : ¬ w = wTO := by rcases c1.1 with z | z <;> rw [z] <;> decide
            have n5 : ¬ w = wROW := by rcases c1.1 with z | z <;> rw [z] <;> decide
            rw [decide_eq_false n2, if_neg Bool.false_ne_true, bl_nil, go_next, bl_ite, e_cmp, l2, b_ok, e_cst, b_ok, eq_str, tri_b, b_ok, t_b, show ([108,105,115,116] : List Nat) = wLIST from rfl, decide_eq_false n3, if_neg Bool.false_ne_true, bl_nil, go_next, bl_ite, e_cmp, l2, b_ok, e_cst, b_ok, eq_str, tri_b, b_ok, t_b, show ([116,111] : List Nat) = wTO from rfl, decide_eq_false n4, if_neg Bool.false_ne_true, bl_nil, go_next,
              bl_ite, e_cmp, l2, b_ok, e_cst, b_ok, eq_str, tri_b, b_ok, t_b, show ([114,111,119] : List Nat) = wROW from rfl, decide_eq_false n5, if_neg Bool.false_ne_true, bl_nil, go_next, bl_ret, l1, b_ok, if_neg n2, if_neg n3, if_neg n4, if_neg n5]
            have e1 : szW (sz n) w rest = 1 := by unfold szW; rw [if_pos c1]
            rw [e1]
            exact ⟨m1, rfl, hk1, gp⟩
          rw [if_neg c1] at hs
          by_cases c2 : w = wANY
          · rw [if_pos c2] at hs
            rw [decide_eq_true c2, if_pos rfl, if_pos c2, bl_ret, e_tup, l_cons, e_cst, b_ok, l_cons]
            rcases rest with _ | ⟨c, _ | ⟨z9, q9⟩⟩
            · cases hs
            · cases c with
              | int i =>
                obtain ⟨m2, a1, a2, a3⟩ := count_ok (n + 2 + j) (c := i) hf1 hk1 (by omega)
                rw [meth1 (g := 12) hk1.o rfl rfl (idx_t (i := 1) (k := 1) (xs := [.str w, .int i]) rfl (l1 _ _ _ _ _ _) (by simp))]
                rw [show (cx N).call 12 [.ref k, [Val.str w, .int i][1]] m1 = R.ok (.int (cnt L i).1) m2 from by rw [eN, show n + 3 + j = n + 2 + j + 1 by omega]; exact a1, b_ok, l_nil, b_ok, b_ok, b_ok]
                have e1 : szW (sz n) w [.int i] = 1 := by unfold szW; rw [if_neg c1]; rw [if_neg (by rw [c2]; decide), if_neg (by rw [c2]; decide), if_neg (by rw [c2]; decide)]
                rw [e1]
                exact ⟨m2, rfl, a2, gp.tr a3⟩
              | _ => cases hs
            · cases hs
          rw [decide_eq_false c2, if_neg Bool.false_ne_true, if_neg c2, bl_nil, go_next, bl_ite, e_cmp, l2, b_ok, e_cst, b_ok, eq_str, tri_b, b_ok, t_b, show ([108,105,115,116] : List Nat) = wLIST from rfl]
          rw [if_neg c2] at hs
          by_cases c3 : w = wLIST
          · rw [if_pos c3] at hs
            rw [decide_eq_true c3, if_pos rfl, if_pos c3, bl_ret, e_tup, l_cons, e_cst, b_ok, l_cons]
            rcases rest with _ | ⟨x, _ | ⟨z9, q9⟩⟩
            · cases hs
            · have e1 : szW (sz n) w [x] = sz n x + 1 := by unfold szW; rw [if_neg c1, if_pos c3]
              rw [e1] at hz ⊢
              obtain ⟨m2, a1, a2, a3⟩ := told_ok n j m1 k d D L (many + 1) x hf1 hk1 (prest x (by simp)) hs (by omega) (by omega)
              rw [meth1 (g := 14) hk1.o rfl rfl (idx_t (i := 1) (k := 1) (xs := [.str w, x]) rfl (l1 _ _ _ _ _ _) (by simp))]
              rw [show (cx N).call 14 [.ref k, [Val.str w, x][1]] m1 = R.ok (ren n L x).1 m2 from by rw [eN]; exact a1, b_ok, l_nil, b_ok, b_ok, b_ok]
              refine ⟨m2, rfl, ?_, gp.tr a3⟩
              rw [show many + ((sz n x + 1 : Nat) : Int) = many + 1 + (sz n x : Nat) by omega]
              exact a2
            · cases hs
          rw [decide_eq_false c3, if_neg Bool.false_ne_true, if_neg c3, bl_nil, go_next, bl_ite, e_cmp, l2, b_ok, e_cst, b_ok, eq_str, tri_b, b_ok, t_b, show ([116,111] : List Nat) = wTO from rfl]
          rw [if_neg c3] at hs
          by_cases c4 : w = wTO
          · rw [if_pos c4] at hs
            rw [decide_eq_true c4, if_pos rfl, if_pos c4]
            rcases rest with _ | ⟨x, _ | ⟨e, _ | ⟨y, _ | ⟨z9, q9⟩⟩⟩⟩
            · cases hs
            · cases hs
            · cases hs
            · obtain ⟨s1, hs⟩ := Bool.and_eq_true_iff.mp (show (shp n x && (effOk e && shp n y)) = true from hs)
              obtain ⟨s2, s3⟩ := Bool.and_eq_true_iff.mp hs
              obtain ⟨ns, t, rfl, ht, _, _⟩ := effOk_inv s2
              have e1 : szW (sz n) w [x, .tup [.tup ns, t], y] = sz n x + sz n y + 1 := by unfold szW; rw [if_neg c1, if_neg c3, if_pos c4]
              rw [e1] at hz ⊢
              obtain ⟨m2, a1, a2, a3⟩ := told_ok n j m1 k d D L (many + 1) x hf1 hk1 (prest x (by simp)) s1 (by omega) (by omega)
              have r1 := ren_len n L x s1
              rw [bl_asg, meth1 (g := 14) hk1.o rfl rfl (idx_t (i := 1) (k := 1) (xs := [.str w, x, .tup [.tup ns, t], y]) rfl (l1 _ _ _ _ _ _) (by simp))]
              rw [show (cx N).call 14 [.ref k, [Val.str w, x, .tup [.tup ns, t], y][1]] m1 = R.ok (ren n L x).1 m2 from by rw [eN]; exact a1, b_ok, t_loc, b_ok]
              show ∃ m', endOf (goOn (cx N) _ (block (cx N) _ [.ref k, .tup [.str w, x, .tup [.tup ns, t], y], .str w, (ren n L x).1, .und, .und, .und, .und] m2)) = _ ∧ _
              obtain ⟨m3, b1, b2, b3⟩ := ctail_ok (n + 1 + j) (t := t) a3.wf a2 (by omega) ht
              rw [bl_asg, e_tup, l_cons, idx_t (i := 0) (k := 0) (xs := [.tup ns, t]) rfl (idx_t (i := 2) (k := 2) (xs := [.str w, x, .tup [.tup ns, t], y]) rfl (l1 _ _ _ _ _ _) (by simp)) (by simp), b_ok, l_cons]
              rw [meth1 (g := 13) a2.o rfl rfl (idx_t (i := 1) (k := 1) (xs := [.tup ns, t]) rfl (idx_t (i := 2) (k := 2) (xs := [.str w, x, .tup [.tup ns, t], y]) rfl (l1 _ _ _ _ _ _) (by simp)) (by simp))]
              rw [show (cx N).call 13 [.ref k, [Val.tup ns, t][1]] m2 = R.ok (renT (ren n L x).2 t).1 m3 from by rw [eN, show n + 3 + j = n + 1 + j + 2 by omega]; exact b1, b_ok, l_nil, b_ok, b_ok, b_ok, b_ok, t_loc, b_ok]
              show ∃ m', endOf (goOn (cx N) _ (block (cx N) _ [.ref k, .tup [.str w, x, .tup [.tup ns, t], y], .str w, (ren n L x).1, .tup [.tup ns, (renT (ren n L x).2 t).1], .und, .und, .und] m3)) = _ ∧ _
              have g3 := a3.tr b3
              have r2 := renT_len (ren n L x).2 t
              obtain ⟨m4, d1, d2, d3⟩ := told_ok n j m3 k d D (renT (ren n L x).2 t).2 (many + 1 + (sz n x : Nat)) y b3.wf b2 (hls g3 y (by simp)) s3 (by omega) (by omega)
              have nu1 : (ren n L x).1 ≠ .und := by
                intro z
                have : ∀ (n : Nat) (L : List Int) (v : Val), shp n v = true → (ren n L v).1 ≠ .und := by
                  intro n L v hv
                  cases n with
                  | zero => cases hv
                  | succ n =>
                    cases v with
                    | tup xs =>
                      cases xs with
                      | nil => cases hv
                      | cons x rest =>
                        cases x with
                        | str w =>
                          show (renW (ren n) L w rest).1 ≠ .und
                          unfold renW
                          repeat' split
                          all_goals (intro z; cases z)
                        | _ => cases hv
                    | _ => cases hv
                exact this n L x s1 z
              rw [bl_ret, e_tup, l_cons, e_cst, b_ok, l_cons, e_loc _ _ _ _ (ren n L x).1 rfl nu1, b_ok, l_cons, e_loc _ _ _ _ (.tup [.tup ns, (renT (ren n L x).2 t).1]) rfl (by simp), b_ok, l_cons]
              rw [meth1 (g := 14) b2.o rfl rfl (idx_t (i := 3) (k := 3) (xs := [.str w, x, .tup [.tup ns, t], y]) rfl (l1 _ _ _ _ _ _) (by simp))]
              rw [show (cx N).call 14 [.ref k, [Val.str w, x, .tup [.tup ns, t], y][3]] m3 = R.ok (ren n (renT (ren n L x).2 t).2 y).1 m4 from by rw [eN]; exact d1, b_ok, l_nil, b_ok, b_ok, b_ok, b_ok, b_ok, b_ok]
              refine ⟨m4, rfl, ?_, gp.tr (g3.tr d3)⟩
              rw [show many + ((sz n x + sz n y + 1 : Nat) : Int) = many + 1 + (sz n x : Nat) + (sz n y : Nat) by omega]
              exact d2
            · cases hs
          rw [decide_eq_false c4, if_neg Bool.false_ne_true, if_neg c4, bl_nil, go_next, bl_ite, e_cmp, l2, b_ok, e_cst, b_ok, eq_str, tri_b, b_ok, t_b, show ([114,111,119] : List Nat) = wROW from rfl]
          rw [if_neg c4] at hs
          by_cases c5 : w = wROW
          · rw [if_pos c5] at hs
            rw [decide_eq_true c5, if_pos rfl, if_pos c5]
            rcases rest with _ | ⟨ps, _ | ⟨t, _ | ⟨z9, q9⟩⟩⟩
            · cases hs
            · cases hs
            · cases ps with
              | tup xs =>
                obtain ⟨s1, hs⟩ := Bool.and_eq_true_iff.mp (show (xs.all okPair && (asc2 xs && (xs.all (fun x => shp n (snd0 x)) && tailOk t))) = true from hs)
                obtain ⟨s2, hs⟩ := Bool.and_eq_true_iff.mp hs
                obtain ⟨s3, s4⟩ := Bool.and_eq_true_iff.mp hs
                have e1 : szW (sz n) w [.tup xs, t] = (xs.map fun x => sz n (snd0 x)).sum + 1 := by unfold szW; rw [if_neg c1, if_neg c3, if_neg c4, if_pos c5]
                rw [e1] at hz ⊢
                have hpair := List.all_eq_true.mp s1
                have hshp := List.all_eq_true.mp s3
                have pxs := prest (.tup xs) (by simp)
                cases D with
                | zero => cases pxs
                | succ D =>
                obtain ⟨pxe, hxl⟩ := Pl.tup pxs
                have part : ∀ (xs' : List Val), (∀ x ∈ xs', x ∈ xs) → True := fun _ _ => trivial
                -- the sum's parts are below the whole
                obtain ⟨m2, m2', a1, a2, a3⟩ := pairs_fold (f := cx N) (σ := [.ref k, .tup [.str w, .tup xs, t], .str w, .und, .und, .und, .und, .und]) (m := m1) (it := .val (.idx (.loc 1) (.cst (.int 1)))) (e := .tup [(.loc 6), (.meth (.loc 0) 11 [(.loc 7)])]) (i := 6) (j := 7) (xs := xs) (n := n) (L := L)
                  (I := fun L' q m' => CS m' k d L' (many + 1 + (q : Nat)) ∧ Gr m1 m' [k, d] ∧ (L'.length : Int) ≤ many + 1 + (q : Nat)) (S := [k, d]) hf1 (val_it (idx_t (i := 1) (k := 1) (xs := [.str w, .tup xs, t]) rfl (l1 _ _ _ _ _ _) (by simp))) (by omega) hpair
                  ⟨by simpa using hk1, Gr.refl hf1, by simp; omega⟩ (fun L k m' h => ⟨h.2.1, trivial⟩)
                  (fun x hx q L' m' ⟨i1, i2, i3⟩ hq => by
                    obtain ⟨sl, b, ex, _⟩ := okPair_inv (hpair x hx)
                    have hb := hshp x hx
                    have pb : Pl m' D b = true := by
                      have := Pl.mono (hk1.ls hf1 i2) (pxe x hx)
                      rw [ex] at this
                      cases D with
                      | zero => cases this
                      | succ D => exact Pl.up (Nat.le_succ _) ((Pl.tup this).1 b (by simp))
                    rw [ex] at hb hq ⊢
                    have hb : shp n b = true := hb
                    have hq : q + sz n b ≤ (xs.map fun x => sz n (snd0 x)).sum := hq
                    show ∃ m2, E.tup [(.loc 6), (.meth (.loc 0) 11 [(.loc 7)])] (cx N) [.ref k, .tup [.str w, .tup xs, t], .str w, .und, .und, .und, .str sl, b] m' = .ok (.tup [.str sl, (ren n L' b).1]) m2 ∧ CS m2 k d (ren n L' b).2 (many + 1 + ((q + sz n b : Nat) : Int)) ∧ Gr m1 m2 [k, d] ∧ ((ren n L' b).2.length : Int) ≤ many + 1 + ((q + sz n b : Nat) : Int)
                    obtain ⟨m4, d1, d2, d3⟩ := told_ok n j m' k d D L' (many + 1 + (q : Nat)) b i2.wf i1 pb hb (by omega) i3
                    have r3 := ren_len n L' b hb
                    refine ⟨m4, ?_, ?_, i2.tr d3, by omega⟩
                    · rw [e_tup, l_cons, e_loc _ _ _ _ (.str sl) rfl (by simp), b_ok, l_cons, meth1 (g := 14) i1.o rfl rfl (e_loc _ _ _ _ b rfl (Pl.nu pb))]
                      rw [show (cx N).call 14 [.ref k, b] m' = R.ok (ren n L' b).1 m4 from by rw [eN]; exact d1, b_ok, l_nil, b_ok, b_ok, b_ok]
                    · rw [show many + 1 + ((q + sz n b : Nat) : Int) = many + 1 + (q : Nat) + (sz n b : Nat) by omega]
                      exact d2)
                obtain ⟨i1, i2, i3⟩ := a3
                have gl := Gr.allo (S := []) i2.wf (.lst (renL (ren n) L xs).1)
                have i1' := i1.gr i2.wf gl
                have g2 : Gr m1 m2' [k, d] := by rw [a2]; exact i2.tr (gl.mono (by simp))
                rw [← a2] at gl i1'
                rw [bl_asg, tuple_of a1 (by rw [a2]; exact lst_allo i2.wf _), b_ok, t_loc, b_ok]
                show ∃ m', endOf (goOn (cx N) _ (block (cx N) _ [.ref k, .tup [.str w, .tup xs, t], .str w, .und, .und, .tup (renL (ren n) L xs).1, .und, .und] m2')) = _ ∧ _
                obtain ⟨m3, b1, b2, b3⟩ := ctail_ok (n + 1 + j) (t := t) g2.wf i1' (by omega) s4
                rw [bl_ret, e_tup, l_cons, e_cst, b_ok, l_cons, e_loc _ _ _ _ (.tup (renL (ren n) L xs).1) rfl (by simp), b_ok, l_cons]
                rw [meth1 (g := 13) i1'.o rfl rfl (idx_t (i := 2) (k := 2) (xs := [.str w, .tup xs, t]) rfl (l1 _ _ _ _ _ _) (by simp))]
                rw [show (cx N).call 13 [.ref k, [Val.str w, .tup xs, t][2]] m2' = R.ok (renT (renL (ren n) L xs).2 t).1 m3 from by rw [eN, show n + 3 + j = n + 1 + j + 2 by omega]; exact b1, b_ok, l_nil, b_ok, b_ok, b_ok, b_ok, b_ok]
                refine ⟨m3, rfl, ?_, gp.tr (g2.tr b3)⟩
                rw [show many + (((xs.map fun x => sz n (snd0 x)).sum + 1 : Nat) : Int) = many + 1 + (((xs.map fun x => sz n (snd0 x)).sum : Nat) : Int) by omega]
                exact b2
              | _ => cases hs
            · cases hs
          · rw [if_neg c5] at hs; cases hs
        | _ => cases hs
    | _ => cases hs
end K02
set_option Elab.async false
set_option linter.all false
set_option maxRecDepth 100000
set_option maxHeartbeats 4000000
/-! PK7: counted, and the law's own counting. -/
namespace K02
open MP Snd PL
theorem check_ok {n : Nat} (hn : 190 ≤ n) {m : M} {D : Nat} {v : Val} (hf : Full m.t m.n) (hp : Pl m D v = true) (hD : D ≤ 100) : ∃ m', (cx (n + 2)).call 10 [v] m = (if isSortP v then .ok .none m' else .ex (.exn 1 []) m') ∧ Gr m m' [] := by
  obtain ⟨m', a1, g⟩ := is_sort_ok hn hf hp hD
  refine ⟨m', ?_, g⟩
  show runFn f10 (cx (n + 1)) [v] m = _
  rw [run_fn _ _ _ _ rfl]
  show endOf (block (cx (n + 1)) [.ite (.not (.call 9 [(.loc 0)])) [(.rais (.mk 1 [.cst (.str _)]))] []] [v] m) = _
  rw [bl_ite, e_not, e_call, l_cons, e_loc _ _ _ _ v rfl (Pl.nu hp), b_ok, l_nil, b_ok, b_ok, a1, b_ok, t_b, b_ok, t_b]
  cases isSortP v with
  | true => rfl
  | false =>
    rw [Bool.not_false, if_pos rfl, bl_rais _ _ _ _ _ 1 [] (by cases n <;> rfl)]
    rfl
theorem counted_new (n : Nat) {m : M} (hf : Full m.t m.n) : ∃ m', make (cx (n + 1)) 4 [] m = .ok (.ref m.n) m' ∧ (∃ d, m.n ≤ d ∧ CS m' m.n d [] 0) ∧ Gr m m' [] := by
  have g1 := Gr.allo (S := []) hf (.ins 4 [])
  have g2 := Gr.allo (S := []) g1.wf (.dct [])
  have hlt : m.n < (allo (allo m (.ins 4 [])) (.dct [])).n := by show m.n < m.n + 1 + 1; omega
  have p0 : (allo (allo m (.ins 4 [])) (.dct [])).t.get m.n = some (.ins 4 []) := by
    rw [g2.same m.n (Nat.lt_succ_self _) (by simp), allo_get hf, if_pos rfl]
  have h3 := Gr.put g2.wf hlt (.ins 4 [(9, .ref (m.n + 1))])
  have p1 : (putObj (allo (allo m (.ins 4 [])) (.dct [])) m.n (.ins 4 [(9, .ref (m.n + 1))])).t.get m.n = some (.ins 4 [(9, .ref (m.n + 1))]) := by rw [put_get g2.wf hlt, if_pos rfl]
  have h4 := Gr.put h3.wf (show m.n < (putObj (allo (allo m (.ins 4 [])) (.dct [])) m.n (.ins 4 [(9, .ref (m.n + 1))])).n from hlt) (.ins 4 [(9, .ref (m.n + 1)), (1, .int 0)])
  refine ⟨putObj (putObj (allo (allo m (.ins 4 [])) (.dct [])) m.n (.ins 4 [(9, .ref (m.n + 1))])) m.n (.ins 4 [(9, .ref (m.n + 1)), (1, .int 0)]), ?_, ⟨m.n + 1, Nat.le_succ _, ?_, ?_⟩, ⟨h4.wf, by show m.n ≤ m.n + 1 + 1; omega, fun i hi _ => ?_⟩⟩
  · have run : (cx (n + 1)).call 11 [.ref m.n] (allo m (.ins 4 [])) = .ok .none (putObj (putObj (allo (allo m (.ins 4 [])) (.dct [])) m.n (.ins 4 [(9, .ref (m.n + 1))])) m.n (.ins 4 [(9, .ref (m.n + 1)), (1, .int 0)])) := by
      show runFn f11 (cx n) [.ref m.n] (allo m (.ins 4 [])) = _
      rw [run_fn _ _ _ _ rfl]
      show endOf (block (cx n) [.asg (.att (.loc 0) 9) (.dic []), .asg (.att (.loc 0) 1) (.cst (.int 0))] [.ref m.n] (allo m (.ins 4 []))) = _
      have att : ∀ (m0 : M) (fl : Nat) (v : Val) (fs : List (Nat × Val)), m0.t.get m.n = some (.ins 4 fs) → Tg.hasF prog.classes 4 fl = true → fs.length < 900 → Tg.att (.loc 0) fl (cx n) v [.ref m.n] m0 = .ok [.ref m.n] (putObj m0 m.n (.ins 4 (fldPut fl v fs))) := fun m0 fl v fs h1 h2 h3 => by
        unfold Tg.att
        rw [e_loc _ _ _ _ (.ref m.n) rfl (by simp), b_ok]
        show Tg.attP (cx n).p m0 m.n fl v _ = _
        unfold Tg.attP
        simp only [h1, hasF_ok n 4 fl h2, show Nat.blt fs.length 900 = true from Nat.ble_eq_true_of_le h3, Bool.and_self]
      rw [bl_asg]
      show endOf ((R.ok (Val.ref (m.n + 1)) (allo (allo m (.ins 4 [])) (.dct []))).bind _) = _
      rw [b_ok, att _ 9 _ [] p0 rfl (by simp), b_ok, bl_asg, e_cst, b_ok]
      show endOf ((Tg.att (.loc 0) 1 (cx n) (.int 0) [.ref m.n] (putObj (allo (allo m (.ins 4 [])) (.dct [])) m.n (.ins 4 [(9, .ref (m.n + 1))]))).bind _) = _
      rw [att _ 1 _ [(9, .ref (m.n + 1))] p1 rfl (by simp), b_ok]
      rfl
    show (match (cx (n + 1)).call 11 [.ref m.n] (allo m (.ins 4 [])) with | .ok v m' => (match v with | .none => R.ok (Val.ref m.n) m' | _ => .bad 117) | .ex v m' => .ex v m' | .bad n => .bad n) = _
    rw [run]
  · rw [put_get h3.wf hlt, if_pos rfl]
  · rw [put_get h3.wf hlt, if_neg (by omega), put_get g2.wf hlt, if_neg (by omega), allo_get g1.wf]
    exact if_pos rfl
  · rw [h4.same i (by show i < m.n + 1 + 1; omega) (by simp; omega), h3.same i (by show i < m.n + 1 + 1; omega) (by simp; omega), g2.same i (by show i < m.n + 1; omega) (by simp), g1.same i hi (by simp)]
theorem sortP_shape {v : Val} (h : isSortP v = true) : shp 61 v = true ∧ sz 61 v ≤ 400 := by
  have a := sort_shape 61 ⟨[], 0, 0⟩ v h
  have b := (sort_inv 61 ⟨[], 0, 0⟩ v).many h
  have c := a.many
  refine ⟨a.shp, ?_⟩
  have c : (pSort 61 ⟨[], 0, 0⟩ v).2.many = 0 + (sz 61 v : Nat) := c
  omega
theorem counted_ok {n : Nat} (hn : 200 ≤ n) {m : M} {D : Nat} {v : Val} (hf : Full m.t m.n) (hp : Pl m D v = true) (hD : D ≤ 100) :
    ∃ m', (cx (n + 1)).call 15 [v] m = (if isSortP v then .ok (ren 61 [] v).1 m' else .ex (.exn 1 []) m') ∧ Gr m m' [] := by
  obtain ⟨j, rfl⟩ : ∃ j, n = 61 + 3 + (j + 136) := ⟨n - 200, by omega⟩
  obtain ⟨N, eN⟩ : ∃ N, N = 61 + 3 + (j + 136) := ⟨_, rfl⟩
  rw [← eN]
  show ∃ m', runFn f15 (cx N) [v] m = _ ∧ _
  rw [run_fn _ _ _ _ rfl]
  show ∃ m', endOf (block (cx N) [.expr (.call 10 [(.loc 0)]), .ret (.meth (.mk 4 []) 11 [(.loc 0)])] [v] m) = _ ∧ _
  obtain ⟨m1, a1, g1⟩ := check_ok (n := N - 2) (by omega) hf hp hD
  rw [show N - 2 + 2 = N by omega] at a1
  rw [bl_expr, e_call, l_cons, e_loc _ _ _ _ v rfl (Pl.nu hp), b_ok, l_nil, b_ok, b_ok, a1]
  by_cases h : isSortP v = true
  · rw [if_pos h, b_ok]
    obtain ⟨m2, c1, ⟨d, hdm, ks⟩, g2⟩ := counted_new (N - 1) g1.wf
    rw [show N - 1 + 1 = N by omega] at c1
    have g12 := g1.tr g2
    obtain ⟨s1, s2⟩ := sortP_shape h
    obtain ⟨m3, b1, b2, b3⟩ := told_ok 61 (j + 136) m2 m1.n d D [] 0 v g12.wf ks (Pl.mono (g12.ls hf (by simp)) hp) s1 (by omega) (by simp)
    have mk : E.mk 4 [] (cx N) [v] m1 = .ok (.ref m1.n) m2 := c1
    rw [bl_ret, e_meth, mk, b_ok, methOf_ok ks.o (g := 14) rfl, op_some, l_cons, e_loc _ _ _ _ v rfl (Pl.nu hp), b_ok, l_nil, b_ok, b_ok]
    rw [show (cx N).call 14 [.ref m1.n, v] m2 = R.ok (ren 61 [] v).1 m3 from by rw [eN]; exact b1, b_ok, o_ret]
    refine ⟨m3, by rw [if_pos h], ⟨b3.wf, Nat.le_trans g12.le b3.le, fun i hi _ => ?_⟩⟩
    have := g1.le
    rw [b3.same i (Nat.lt_of_lt_of_le hi g12.le) (by simp; omega), g12.same i hi (by simp)]
  · rw [if_neg h]
    exact ⟨m1, by rw [if_neg h]; rfl, g1⟩
/-! ### the law's own -/
theorem DC.ls {m m' : M} {d : Nat} {kvs : List (Val × Val)} (h : m.t.get d = some (.dct kvs)) (hf : Full m.t m.n) (g : Gr m m' [d]) : Ls m m' := g.ls hf fun j hj => by
  rw [List.mem_singleton.mp hj]; unfold lstAt; rw [h]
theorem sd_ok {f : Cx} {σ : List Val} {m : M} {i d : Nat} {L : List Int} {c : Int} {e : E} (hf : Full m.t m.n) (h1 : nth σ i = some (.ref d)) (he : e f σ m = .ok (.int c) m) (hd : m.t.get d = some (.dct (kvC 0 L))) (hl : L.length < 16777216) :
    ∃ m', E.mSetdefault (.loc i) e (.bLen (.loc i)) f σ m = .ok (.int (cnt L c).1) m' ∧ m'.t.get d = some (.dct (kvC 0 (cnt L c).2)) ∧ Gr m m' [d] := by
  have ho : E.loc i f σ m = .ok (.ref d) m := e_loc _ _ _ _ _ h1 (by simp)
  obtain ⟨m', a1, a2, a3⟩ := setdef_cnt (c := c) hf hd hl
  exact ⟨m', by rw [e_setdef _ _ _ _ _ _ ho he (len_dct ho hd) hd, kvC_len, a1], a2, a3⟩
theorem td_ok {f : Cx} {σ : List Val} {m : M} {i d : Nat} {L : List Int} {t : Val} {e : E} (hf : Full m.t m.n) (h1 : nth σ i = some (.ref d)) (he : e f σ m = .ok t m) (hd : m.t.get d = some (.dct (kvC 0 L))) (hl : L.length < 16777216) (ht : tailOk t = true) :
    ∃ m', E.ite (.cmp .is e (.cst .none)) (.cst .none) (.mSetdefault (.loc i) e (.bLen (.loc i))) f σ m = .ok (renT L t).1 m' ∧ m'.t.get d = some (.dct (kvC 0 (renT L t).2)) ∧ Gr m m' [d] := by
  rw [e_ite, e_cmp, he, b_ok, e_cst, b_ok]
  cases t with
  | none =>
    rw [isNone_none, tri_b, b_ok, t_b, if_pos rfl]
    exact ⟨m, rfl, hd, Gr.refl hf⟩
  | int c =>
    rw [isNone_int, tri_b, b_ok, t_b, if_neg Bool.false_ne_true]
    exact sd_ok hf h1 he hd hl
  | _ => cases ht
def LawW (n N : Nat) : Prop := ∀ (m : M) (d D : Nat) (L : List Int) (v : Val), Full m.t m.n → m.t.get d = some (.dct (kvC 0 L)) → Pl m D v = true → shp n v = true → L.length + sz n v ≤ 1000 →
  ∃ m', (cx N).call 24 [v, .ref d] m = .ok (ren n L v).1 m' ∧ m'.t.get d = some (.dct (kvC 0 (ren n L v).2)) ∧ Gr m m' [d]
theorem ren_nu (n : Nat) (L : List Int) (v : Val) (hv : shp n v = true) : (ren n L v).1 ≠ .und := by
  cases n with
  | zero => cases hv
  | succ n =>
    cases v with
    | tup xs =>
      cases xs with
      | nil => cases hv
      | cons x rest =>
        cases x with
        | str w =>
          show (renW (ren n) L w rest).1 ≠ .und
          unfold renW
          repeat' split
          all_goals (intro z; cases z)
        | _ => cases hv
    | _ => cases hv
theorem lawc_ok : ∀ (n j : Nat), LawW n (n + 1 + j)
  | 0, j => fun m d D L v hf hd hp hs hz => by cases hs
  | n + 1, j => fun m d D L v hf hd hp hs hz => by
    obtain ⟨N, eN⟩ : ∃ N, N = n + 1 + j := ⟨_, rfl⟩
    rw [show n + 1 + 1 + j = N + 1 by omega]
    cases D with
    | zero => cases hp
    | succ D =>
    cases v with
    | tup xs =>
      cases xs with
      | nil => cases hs
      | cons x rest =>
        cases x with
        | str w =>
          have hs : shpW (shp n) w rest = true := hs
          have hz : L.length + szW (sz n) w rest ≤ 1000 := hz
          show ∃ m', runFn f24 (cx N) [.tup (.str w :: rest), .ref d] m = .ok (renW (ren n) L w rest).1 m' ∧ m'.t.get d = some (.dct (kvC 0 (renW (ren n) L w rest).2)) ∧ _
          obtain ⟨px, hlen⟩ := Pl.tup hp
          rw [run_fn _ _ _ _ rfl]
          unfold f24
          simp only
          show ∃ m', endOf (block (cx N) _ [.tup (.str w :: rest), .ref d, .und, .und, .und, .und, .und, .und] m) = _ ∧ _
          have prest : ∀ x ∈ rest, Pl m D x = true := fun x hx => px x (List.mem_cons_of_mem _ hx)
          have hls : ∀ {m'}, Gr m m' [d] → ∀ x ∈ rest, Pl m' D x = true := fun g x hx => Pl.mono (DC.ls hd hf g) (prest x hx)
          have l0 : ∀ (m : M) (a b c d' e g : Val), E.loc 0 (cx N) [.tup (.str w :: rest), .ref d, a, b, c, d', e, g] m = .ok (.tup (.str w :: rest)) m := fun m a b c d' e g => rfl
          have i0 : ∀ (m : M) (a b c d' e g : Val), E.idx (.loc 0) (.cst (.int 0)) (cx N) [.tup (.str w :: rest), .ref d, a, b, c, d', e, g] m = .ok (.str w) m := fun m a b c d' e g => idx_t (i := 0) (k := 0) (xs := .str w :: rest) rfl (l0 _ _ _ _ _ _ _) (by simp)
          have l1 : ∀ (m : M) (a b c d' e g : Val), E.loc 1 (cx N) [.tup (.str w :: rest), .ref d, a, b, c, d', e, g] m = .ok (.ref d) m := fun m a b c d' e g => rfl
          clear hp px
          unfold shpW at hs
          unfold renW
          rw [bl_ite, e_cmp, i0, b_ok, e_cst, b_ok, eq_str, tri_b, b_ok, t_b, show ([97,110,121] : List Nat) = wANY from rfl]
          by_cases c1 : (w = wNUM ∨ w = wFLAG) ∧ rest = []
          · have n2 : ¬ w = wANY := by rcases c1.1 with z | z <;> rw [z] <;> decide
            have n3 : ¬ w = wLIST := by rcases c1.1 with z | z <;> rw [z] <;> decide
            have n4 : ¬ w = wTO := by rcases c1.1 with z | z <;> rw [z] <;> decide
            have n5 : ¬ w = wROW := by rcases c1.1 with z | z <;> rw [z] <;> decide
            rw [decide_eq_false n2, if_neg Bool.false_ne_true, bl_nil, go_next, bl_ite, e_cmp, i0, b_ok, e_cst, b_ok, eq_str, tri_b, b_ok, t_b, show ([108,105,115,116] : List Nat) = wLIST from rfl, decide_eq_false n3, if_neg Bool.false_ne_true, bl_nil, go_next, bl_ite, e_cmp, i0, b_ok, e_cst, b_ok, eq_str, tri_b, b_ok, t_b, show ([116,111] : List Nat) = wTO from rfl, decide_eq_false n4, if_neg Bool.false_ne_true, bl_nil, go_next,
              bl_ite, e_cmp, i0, b_ok, e_cst, b_ok, ne_str, tri_b, b_ok, t_b, show ([114,111,119] : List Nat) = wROW from rfl, decide_eq_false n5, Bool.not_false, if_pos rfl, bl_ret, l0, b_ok, if_neg n2, if_neg n3, if_neg n4, if_neg n5]
            exact ⟨m, rfl, hd, Gr.refl hf⟩
          rw [if_neg c1] at hs
          by_cases c2 : w = wANY
          · rw [if_pos c2] at hs
            rw [decide_eq_true c2, if_pos rfl, if_pos c2, bl_ret, e_tup, l_cons, e_cst, b_ok, l_cons]
            rcases rest with _ | ⟨c, _ | ⟨z9, q9⟩⟩
            · cases hs
            · cases c with
              | int i =>
                obtain ⟨m2, a1, a2, a3⟩ := sd_ok (f := cx N) (σ := [.tup [.str w, .int i], .ref d, .und, .und, .und, .und, .und, .und]) (i := 1) (c := i) (e := .idx (.loc 0) (.cst (.int 1))) hf rfl (idx_t (i := 1) (k := 1) (xs := [.str w, .int i]) rfl (l0 _ _ _ _ _ _ _) (by simp)) hd (by omega)
                rw [a1, b_ok, l_nil, b_ok, b_ok, b_ok]
                exact ⟨m2, rfl, a2, a3⟩
              | _ => cases hs
            · cases hs
          rw [decide_eq_false c2, if_neg Bool.false_ne_true, if_neg c2, bl_nil, go_next, bl_ite, e_cmp, i0, b_ok, e_cst, b_ok, eq_str, tri_b, b_ok, t_b, show ([108,105,115,116] : List Nat) = wLIST from rfl]
          rw [if_neg c2] at hs
          by_cases c3 : w = wLIST
          · rw [if_pos c3] at hs
            rw [decide_eq_true c3, if_pos rfl, if_pos c3, bl_ret, e_tup, l_cons, e_cst, b_ok, l_cons]
            rcases rest with _ | ⟨x, _ | ⟨z9, q9⟩⟩
            · cases hs
            · have e1 : szW (sz n) w [x] = sz n x + 1 := by unfold szW; rw [if_neg c1, if_pos c3]
              rw [e1] at hz
              obtain ⟨m2, a1, a2, a3⟩ := lawc_ok n j m d D L x hf hd (prest x (by simp)) hs (by omega)
              rw [e_call, l_cons, idx_t (i := 1) (k := 1) (xs := [.str w, x]) rfl (l0 _ _ _ _ _ _ _) (by simp), b_ok, l_cons, l1, b_ok, l_nil, b_ok, b_ok, b_ok]
              rw [show (cx N).call 24 [[Val.str w, x][1], .ref d] m = R.ok (ren n L x).1 m2 from by rw [eN]; exact a1, b_ok, l_nil, b_ok, b_ok, b_ok]
              exact ⟨m2, rfl, a2, a3⟩
            · cases hs
          rw [decide_eq_false c3, if_neg Bool.false_ne_true, if_neg c3, bl_nil, go_next, bl_ite, e_cmp, i0, b_ok, e_cst, b_ok, eq_str, tri_b, b_ok, t_b, show ([116,111] : List Nat) = wTO from rfl]
          rw [if_neg c3] at hs
          by_cases c4 : w = wTO
          · rw [if_pos c4] at hs
            rw [decide_eq_true c4, if_pos rfl, if_pos c4]
            rcases rest with _ | ⟨x, _ | ⟨e, _ | ⟨y, _ | ⟨z9, q9⟩⟩⟩⟩
            · cases hs
            · cases hs
            · cases hs
            · obtain ⟨s1, hs⟩ := Bool.and_eq_true_iff.mp (show (shp n x && (effOk e && shp n y)) = true from hs)
              obtain ⟨s2, s3⟩ := Bool.and_eq_true_iff.mp hs
              obtain ⟨ns, t, rfl, ht, _, _⟩ := effOk_inv s2
              have e1 : szW (sz n) w [x, .tup [.tup ns, t], y] = sz n x + sz n y + 1 := by unfold szW; rw [if_neg c1, if_neg c3, if_pos c4]
              rw [e1] at hz
              have pt : t ≠ .und := by rintro rfl; cases ht
              obtain ⟨m2, a1, a2, a3⟩ := lawc_ok n j m d D L x hf hd (prest x (by simp)) s1 (by omega)
              have r1 := ren_len n L x s1
              have nu1 := ren_nu n L x s1
              rw [bl_asg, e_tup, l_cons, e_call, l_cons, idx_t (i := 1) (k := 1) (xs := [.str w, x, .tup [.tup ns, t], y]) rfl (l0 _ _ _ _ _ _ _) (by simp), b_ok, l_cons, l1, b_ok, l_nil, b_ok, b_ok, b_ok]
              rw [show (cx N).call 24 [[Val.str w, x, .tup [.tup ns, t], y][1], .ref d] m = R.ok (ren n L x).1 m2 from by rw [eN]; exact a1, b_ok, l_cons, idx_t (i := 2) (k := 2) (xs := [.str w, x, .tup [.tup ns, t], y]) rfl (l0 _ _ _ _ _ _ _) (by simp), b_ok, l_nil, b_ok, b_ok, b_ok, b_ok]
              rw [show Tg.tup [.loc 2, .tup [.loc 3, .loc 4]] (cx N) (.tup [(ren n L x).1, [Val.str w, x, .tup [.tup ns, t], y][2]]) [.tup [.str w, x, .tup [.tup ns, t], y], .ref d, .und, .und, .und, .und, .und, .und] m2 = R.ok [.tup [.str w, x, .tup [.tup ns, t], y], .ref d, (ren n L x).1, .tup ns, t, .und, .und, .und] m2 from rfl, b_ok]
              obtain ⟨m3, b1, b2, b3⟩ := td_ok (f := cx N) (σ := [.tup [.str w, x, .tup [.tup ns, t], y], .ref d, (ren n L x).1, .tup ns, t, .und, .und, .und]) (i := 1) (t := t) (e := .loc 4) a3.wf rfl (e_loc _ _ _ _ t rfl pt) a2 (by omega) ht
              have nt : (renT (ren n L x).2 t).1 ≠ .und := by
                unfold renT
                split
                · intro z; cases z
                · exact pt
              rw [bl_asg, b1, b_ok, t_loc, b_ok]
              show ∃ m', endOf (goOn (cx N) _ (block (cx N) _ [.tup [.str w, x, .tup [.tup ns, t], y], .ref d, (ren n L x).1, .tup ns, (renT (ren n L x).2 t).1, .und, .und, .und] m3)) = _ ∧ _
              have g3 := a3.tr b3
              have r2 := renT_len (ren n L x).2 t
              obtain ⟨m4, d1, d2, d3⟩ := lawc_ok n j m3 d D (renT (ren n L x).2 t).2 y b3.wf b2 (hls g3 y (by simp)) s3 (by omega)
              rw [bl_ret, e_tup, l_cons, e_cst, b_ok, l_cons, e_loc _ _ _ _ (ren n L x).1 rfl nu1, b_ok, l_cons, e_tup, l_cons, e_loc _ _ _ _ (.tup ns) rfl (by simp), b_ok, l_cons, e_loc _ _ _ _ (renT (ren n L x).2 t).1 rfl nt, b_ok, l_nil, b_ok, b_ok, b_ok, b_ok, l_cons, e_call, l_cons, idx_t (i := 3) (k := 3) (xs := [.str w, x, .tup [.tup ns, t], y]) rfl (l0 _ _ _ _ _ _ _) (by simp), b_ok, l_cons, l1, b_ok, l_nil, b_ok, b_ok, b_ok]
              rw [show (cx N).call 24 [[Val.str w, x, .tup [.tup ns, t], y][3], .ref d] m3 = R.ok (ren n (renT (ren n L x).2 t).2 y).1 m4 from by rw [eN]; exact d1, b_ok, l_nil, b_ok, b_ok, b_ok, b_ok, b_ok, b_ok]
              exact ⟨m4, rfl, d2, g3.tr d3⟩
            · cases hs
          rw [decide_eq_false c4, if_neg Bool.false_ne_true, if_neg c4, bl_nil, go_next, bl_ite, e_cmp, i0, b_ok, e_cst, b_ok, ne_str, tri_b, b_ok, t_b, show ([114,111,119] : List Nat) = wROW from rfl]
          rw [if_neg c4] at hs
          by_cases c5 : w = wROW
          · rw [if_pos c5] at hs
            rw [decide_eq_true c5, Bool.not_true, if_neg Bool.false_ne_true, if_pos c5, bl_nil, go_next]
            rcases rest with _ | ⟨ps, _ | ⟨t, _ | ⟨z9, q9⟩⟩⟩
            · cases hs
            · cases hs
            · cases ps with
              | tup xs =>
                obtain ⟨s1, hs⟩ := Bool.and_eq_true_iff.mp (show (xs.all okPair && (asc2 xs && (xs.all (fun x => shp n (snd0 x)) && tailOk t))) = true from hs)
                obtain ⟨s2, hs⟩ := Bool.and_eq_true_iff.mp hs
                obtain ⟨s3, s4⟩ := Bool.and_eq_true_iff.mp hs
                have e1 : szW (sz n) w [.tup xs, t] = (xs.map fun x => sz n (snd0 x)).sum + 1 := by unfold szW; rw [if_neg c1, if_neg c3, if_neg c4, if_pos c5]
                rw [e1] at hz
                have hpair := List.all_eq_true.mp s1
                have hshp := List.all_eq_true.mp s3
                have pxs := prest (.tup xs) (by simp)
                cases D with
                | zero => cases pxs
                | succ D =>
                obtain ⟨pxe, hxl⟩ := Pl.tup pxs
                obtain ⟨m2, m2', a1, a2, a3⟩ := pairs_fold (f := cx N) (σ := [.tup [.str w, .tup xs, t], .ref d, .und, .und, .und, .und, .und, .und]) (m := m) (it := .val (.idx (.loc 0) (.cst (.int 1)))) (e := .tup [(.loc 6), (.call 24 [(.loc 7), (.loc 1)])]) (i := 6) (j := 7) (xs := xs) (n := n) (L := L)
                  (I := fun L' q m' => m'.t.get d = some (.dct (kvC 0 L')) ∧ Gr m m' [d] ∧ L'.length ≤ L.length + q) (S := [d]) hf (val_it (idx_t (i := 1) (k := 1) (xs := [.str w, .tup xs, t]) rfl (l0 _ _ _ _ _ _ _) (by simp))) (by omega) hpair
                  ⟨hd, Gr.refl hf, by omega⟩ (fun L k m' h => ⟨h.2.1, trivial⟩)
                  (fun x hx q L' m' ⟨i1, i2, i3⟩ hq => by
                    obtain ⟨sl, b, ex, _⟩ := okPair_inv (hpair x hx)
                    have hb := hshp x hx
                    have pb : Pl m' D b = true := by
                      have := Pl.mono (DC.ls hd hf i2) (pxe x hx)
                      rw [ex] at this
                      cases D with
                      | zero => cases this
                      | succ D => exact Pl.up (Nat.le_succ _) ((Pl.tup this).1 b (by simp))
                    rw [ex] at hb hq ⊢
                    have hb : shp n b = true := hb
                    have hq : q + sz n b ≤ (xs.map fun x => sz n (snd0 x)).sum := hq
                    show ∃ m2, E.tup [(.loc 6), (.call 24 [(.loc 7), (.loc 1)])] (cx N) [.tup [.str w, .tup xs, t], .ref d, .und, .und, .und, .und, .str sl, b] m' = .ok (.tup [.str sl, (ren n L' b).1]) m2 ∧ m2.t.get d = some (.dct (kvC 0 (ren n L' b).2)) ∧ Gr m m2 [d] ∧ (ren n L' b).2.length ≤ L.length + (q + sz n b)
                    obtain ⟨m4, d1, d2, d3⟩ := lawc_ok n j m' d D L' b i2.wf i1 pb hb (by omega)
                    have r3 := ren_len n L' b hb
                    refine ⟨m4, ?_, d2, i2.tr d3, by omega⟩
                    rw [e_tup, l_cons, e_loc _ _ _ _ (.str sl) rfl (by simp), b_ok, l_cons, e_call, l_cons, e_loc _ _ _ _ b rfl (Pl.nu pb), b_ok, l_cons, l1, b_ok, l_nil, b_ok, b_ok, b_ok]
                    rw [show (cx N).call 24 [b, .ref d] m' = R.ok (ren n L' b).1 m4 from by rw [eN]; exact d1, b_ok, l_nil, b_ok, b_ok, b_ok])
                obtain ⟨i1, i2, i3⟩ := a3
                have gl := Gr.allo (S := []) i2.wf (.lst (renL (ren n) L xs).1)
                have i1' : (allo m2 (.lst (renL (ren n) L xs).1)).t.get d = some (.dct (kvC 0 (renL (ren n) L xs).2)) := by rw [gl.same d (get_lt i2.wf i1) (by simp)]; exact i1
                have g2 : Gr m m2' [d] := by rw [a2]; exact i2.tr (gl.mono (by simp))
                rw [← a2] at gl i1'
                rw [bl_asg, tuple_of a1 (by rw [a2]; exact lst_allo i2.wf _), b_ok, t_loc, b_ok]
                show ∃ m', endOf (block (cx N) _ [.tup [.str w, .tup xs, t], .ref d, .und, .und, .und, .tup (renL (ren n) L xs).1, .und, .und] m2') = _ ∧ _
                obtain ⟨m3, b1, b2, b3⟩ := td_ok (f := cx N) (σ := [.tup [.str w, .tup xs, t], .ref d, .und, .und, .und, .tup (renL (ren n) L xs).1, .und, .und]) (i := 1) (t := t) (e := .idx (.loc 0) (.cst (.int 2))) g2.wf rfl (idx_t (i := 2) (k := 2) (xs := [.str w, .tup xs, t]) rfl (l0 _ _ _ _ _ _ _) (by simp)) i1' (by omega) s4
                rw [bl_ret, e_tup, l_cons, e_cst, b_ok, l_cons, e_loc _ _ _ _ (.tup (renL (ren n) L xs).1) rfl (by simp), b_ok, l_cons, b1, b_ok, l_nil, b_ok, b_ok, b_ok, b_ok, b_ok]
                exact ⟨m3, rfl, b2, g2.tr b3⟩
              | _ => cases hs
            · cases hs
          · rw [if_neg c5] at hs; cases hs
        | _ => cases hs
    | _ => cases hs
end K02
set_option linter.all false
set_option maxHeartbeats 4000000
/-! PE: a sort by Kinds is a sort by the law's own look. -/
namespace K02
open MP
/-! ### the law's own look -/
def qLoop (rec : KSt → Val → Bool × KSt) : KSt → List Val → Bool × KSt
  | s, [] => (true, s)
  | s, x :: r => if okPair x then andT (rec s (snd0 x)) fun s => qLoop rec s r else (false, s)
def qLab (xs : List Val) : Bool := decide (xs.map lab0 = sortS (E.dedupS (xs.map lab0)))
def qTo2 (rec : KSt → Val → Bool × KSt) (s : KSt) (x a t y : Val) : Bool × KSt := match a with
  | .tup ns => if ns.all isLab && srt ns then andT (pTail s t wBAG) fun s => andT (rec s x) fun s => rec s y else (false, s)
  | _ => (false, s)
def qTo (rec : KSt → Val → Bool × KSt) (s : KSt) (x e y : Val) : Bool × KSt := match e with
  | .tup es => (match es with
    | [a, t] => qTo2 rec s x a t y
    | _ => (false, s))
  | _ => (false, s)
def qRow (rec : KSt → Val → Bool × KSt) (s : KSt) (ps t : Val) : Bool × KSt := match ps with
  | .tup xs => andT (qLoop rec s xs) fun s => if qLab xs then pTail s t wROW else (false, s)
  | _ => (false, s)
def qWord (rec : KSt → Val → Bool × KSt) (s : KSt) (w : List Nat) (rest : List Val) : Bool × KSt :=
  if w = wNUM ∨ w = wFLAG then (decide (rest = []), s)
  else if w = wANY then (match rest with
    | [c] => pTakes s c wANY
    | _ => (false, s))
  else if w = wLIST then (match rest with
    | [x] => rec s x
    | _ => (false, s))
  else if w = wTO then (match rest with
    | [x, e, y] => qTo rec s x e y
    | _ => (false, s))
  else if w = wROW then (match rest with
    | [ps, t] => qRow rec s ps t
    | _ => (false, s))
  else (false, s)
def qFine : Nat → Int → KSt → Val → Bool × KSt
  | 0, _, s, _ => (false, s)
  | n + 1, dp, s, v => if 400 < s.many + 1 ∨ 60 < dp then (false, { s with many := s.many + 1 }) else onTup v (false, { s with many := s.many + 1 }) (qWord (qFine n (dp + 1)) { s with many := s.many + 1 })
/-! ### variables, depth -/
def vaT (W : Nat → List Nat) (k : Nat) (t : Val) : List (Int × List Nat) := match t with
  | .int i => [(i, W k)]
  | _ => []
def vaE (W : Nat → List Nat) (e : Val) : List (Int × List Nat) := match e with
  | .tup es => (match es with
    | [_, t] => vaT W 1 t
    | _ => [])
  | _ => []
def vaW (W : Nat → List Nat) (rec : Val → List (Int × List Nat)) (w : List Nat) (rest : List Val) : List (Int × List Nat) :=
  if w = wANY then (match rest with
    | [c] => vaT W 0 c
    | _ => [])
  else if w = wLIST then (match rest with
    | [x] => rec x
    | _ => [])
  else if w = wTO then (match rest with
    | [x, e, y] => rec x ++ (vaE W e ++ rec y)
    | _ => [])
  else if w = wROW then (match rest with
    | [ps, t] => (match ps with
      | .tup xs => xs.flatMap (fun x => rec (snd0 x)) ++ vaT W 2 t
      | _ => [])
    | _ => [])
  else []
def va (W : Nat → List Nat) : Nat → Val → List (Int × List Nat)
  | 0, _ => []
  | n + 1, v => onTup v [] (vaW W (va W n))
def dW (rec : Val → Bool) (w : List Nat) (rest : List Val) : Bool :=
  if w = wLIST then (match rest with
    | [x] => rec x
    | _ => true)
  else if w = wTO then (match rest with
    | [x, _, y] => rec x && rec y
    | _ => true)
  else if w = wROW then (match rest with
    | [ps, _] => (match ps with
      | .tup xs => xs.all fun x => rec (snd0 x)
      | _ => true)
    | _ => true)
  else true
def dpOk : Nat → Int → Val → Bool
  | 0, _, _ => true
  | n + 1, b, v => decide (1 ≤ b) && onTup v true (dW (dpOk n (b - 1)))
def WP : Nat → List Nat
  | 0 => wSORT
  | 1 => wEFF
  | _ => wROW
def WQ : Nat → List Nat
  | 0 => wANY
  | 1 => wBAG
  | _ => wROW
def Sat (φ : Int → List Nat) (l : List (Int × List Nat)) : Prop := ∀ q ∈ l, φ q.1 = q.2
theorem Sat.app {φ : Int → List Nat} {a b : List (Int × List Nat)} : Sat φ (a ++ b) ↔ Sat φ a ∧ Sat φ b := by
  unfold Sat
  simp only [List.mem_append]
  exact ⟨fun h => ⟨fun q z => h q (.inl z), fun q z => h q (.inr z)⟩, fun h q z => z.elim (h.1 q) (h.2 q)⟩
theorem Sat.nil {φ : Int → List Nat} : Sat φ [] := fun _ z => nomatch z
theorem Sat.one {φ : Int → List Nat} {i : Int} {w : List Nat} : Sat φ [(i, w)] ↔ φ i = w := by
  unfold Sat
  simp
theorem lookup_mem : ∀ {l : KL} {i : Int} {w : List Nat}, l.lookup i = some w → (i, w) ∈ l
  | (j, x) :: r, i, w, h => by
    rw [List.lookup_cons] at h
    by_cases e : i = j
    · subst e
      simp at h
      subst h
      exact List.mem_cons_self
    · rw [show (i == j) = false by simpa using e] at h
      exact List.mem_cons_of_mem _ (lookup_mem h)
/-- what a look does: true just if the variables go together, and then they are told -/
structure Spec (s : KSt) (r : Bool × KSt) (ok : Prop) (vs : List (Int × List Nat)) : Prop where
  t : r.1 = true → ok ∧ (∀ φ, Sat φ r.2.l ↔ Sat φ s.l ∧ Sat φ vs) ∧ ∃ φ, Sat φ r.2.l
  f : ok → (∃ φ, Sat φ s.l ∧ Sat φ vs) → r.1 = true
def Con (s : KSt) : Prop := ∃ φ, Sat φ s.l
theorem takes_spec {s : KSt} (hc : Con s) (c : Val) (w : List Nat) : Spec s (pTakes s c w) (∃ i, c = .int i ∧ inCnt i = true) (match c with | .int i => [(i, w)] | _ => []) := by
  unfold pTakes
  cases c with
  | int i =>
    simp only
    by_cases hi : inCnt i = true
    · rw [if_pos hi]
      cases hl : s.l.lookup i with
      | some x =>
        have hm := lookup_mem hl
        refine ⟨fun h => ?_, fun _ ⟨φ, h1, h2⟩ => ?_⟩
        · have h : strEq x w = true := h
          have e : x = w := by
            have : ∀ (a b : List Nat), strEq a b = true → a = b := by
              intro a
              induction a with
              | nil => intro b h; cases b with
                | nil => rfl
                | cons _ _ => cases h
              | cons p a ih =>
                intro b h
                cases b with
                | nil => cases h
                | cons q b =>
                  have h : (match Nat.beq p q with | true => strEq a b | false => false) = true := h
                  cases e : Nat.beq p q with
                  | true => rw [e] at h; rw [Nat.eq_of_beq_eq_true e, ih b h]
                  | false => rw [e] at h; cases h
            exact this x w h
          subst e
          exact ⟨⟨i, rfl, hi⟩, fun φ => ⟨fun z => ⟨z, Sat.one.mpr (z _ hm)⟩, fun z => z.1⟩, hc⟩
        · show strEq x w = true
          have e : x = w := (h1 _ hm).symm.trans (Sat.one.mp h2)
          subst e
          have : ∀ a : List Nat, strEq a a = true := by
            intro a
            induction a with
            | nil => rfl
            | cons p a ih => show (match Nat.beq p p with | true => strEq a a | false => false) = true; rw [Nat.beq_refl]; exact ih
          exact this x
      | none =>
        refine ⟨fun _ => ⟨⟨i, rfl, hi⟩, fun φ => Sat.app, ?_⟩, fun _ _ => rfl⟩
        obtain ⟨φ, h⟩ := hc
        refine ⟨fun j => if j = i then w else φ j, Sat.app.mpr ⟨fun q hq => ?_, Sat.one.mpr (if_pos rfl)⟩⟩
        show (if q.1 = i then w else φ q.1) = q.2
        rw [if_neg ?_]
        · exact h q hq
        · intro e
          obtain ⟨j, x⟩ := q
          have e : j = i := e
          subst e
          have : ∀ {l : KL} {j : Int} {x : List Nat}, (j, x) ∈ l → l.lookup j ≠ none := by
            intro l
            induction l with
            | nil => intro j x z; cases z
            | cons a r ih =>
              intro j x z
              obtain ⟨a1, a2⟩ := a
              rw [List.lookup_cons]
              by_cases e : j = a1
              · subst e; simp
              · rw [show (j == a1) = false by simpa using e]
                rcases List.mem_cons.mp z with z | z
                · cases z; exact absurd rfl e
                · exact ih z
          exact this hq hl
    · rw [if_neg hi]
      exact ⟨fun h => (by cases h), fun ⟨j, e, h⟩ _ => (by cases e; exact absurd h hi)⟩
  | _ => exact ⟨fun h => (by cases h), fun ⟨j, e, h⟩ _ => (by cases e)⟩
theorem tail_spec {s : KSt} (hc : Con s) (t : Val) (W : Nat → List Nat) (k : Nat) : Spec s (pTail s t (W k)) (tailOk t = true) (vaT W k t) := by
  unfold pTail
  cases t with
  | none => exact ⟨fun _ => ⟨rfl, fun φ => ⟨fun z => ⟨z, Sat.nil⟩, fun z => z.1⟩, hc⟩, fun _ _ => rfl⟩
  | int i =>
    have q := takes_spec hc (.int i) (W k)
    refine ⟨fun h => ?_, fun h1 h2 => q.f ⟨i, rfl, h1⟩ h2⟩
    obtain ⟨⟨j, e, hj⟩, a, b⟩ := q.t h
    cases e
    exact ⟨hj, a, b⟩
  | _ => exact ⟨fun h => (by cases h), fun h _ => (by cases h)⟩
theorem Spec.and {s : KSt} {r : Bool × KSt} {k : KSt → Bool × KSt} {ok ok2 : Prop} {vs vs2 : List (Int × List Nat)} (h : Spec s r ok vs) (h2 : r.1 = true → Spec r.2 (k r.2) ok2 vs2) : Spec s (andT r k) (ok ∧ ok2) (vs ++ vs2) := by
  unfold andT
  by_cases q : r.1 = true
  · rw [if_pos q]
    obtain ⟨a1, a2, a3⟩ := h.t q
    have b := h2 q
    refine ⟨fun z => ?_, fun ⟨o1, o2⟩ ⟨φ, z1, z2⟩ => ?_⟩
    · obtain ⟨b1, b2, b3⟩ := b.t z
      exact ⟨⟨a1, b1⟩, fun φ => by rw [b2, a2, Sat.app, and_assoc], b3⟩
    · obtain ⟨z3, z4⟩ := Sat.app.mp z2
      exact b.f o2 ⟨φ, (a2 φ).mpr ⟨z1, z3⟩, z4⟩
  · rw [if_neg q]
    exact ⟨fun z => (by cases z), fun ⟨o1, o2⟩ ⟨φ, z1, z2⟩ => absurd (h.f o1 ⟨φ, z1, (Sat.app.mp z2).1⟩) q⟩
theorem Spec.con {s : KSt} {r : Bool × KSt} {ok : Prop} {vs : List (Int × List Nat)} (h : Spec s r ok vs) (q : r.1 = true) : Con r.2 := (h.t q).2.2
theorem Spec.imp {s : KSt} {r : Bool × KSt} {ok ok' : Prop} {vs vs' : List (Int × List Nat)} (h : Spec s r ok vs) (e : ok ↔ ok') (ev : ∀ φ, Sat φ vs ↔ Sat φ vs') : Spec s r ok' vs' :=
  ⟨fun q => ⟨e.mp (h.t q).1, fun φ => by rw [(h.t q).2.1, ev], (h.t q).2.2⟩, fun o ⟨φ, z1, z2⟩ => h.f (e.mpr o) ⟨φ, z1, (ev φ).mpr z2⟩⟩
theorem Spec.no {s : KSt} {s' : KSt} {ok : Prop} {vs : List (Int × List Nat)} (h : ¬ ok) : Spec s (false, s') ok vs := ⟨fun q => (by cases q), fun o => absurd o h⟩
/-- the first state's own counts aside -/
theorem Spec.st {s s1 : KSt} {r : Bool × KSt} {ok : Prop} {vs : List (Int × List Nat)} (h : Spec s1 r ok vs) (e : s1.l = s.l) : Spec s r ok vs := ⟨fun q => by rw [← e]; exact h.t q, fun o z => h.f o (by rw [e]; exact z)⟩
theorem eff_spec {s : KSt} (hc : Con s) (e : Val) : Spec s (pEff s e) (effOk e = true) (vaE WP e) := by
  unfold pEff
  cases e with
  | tup es =>
    show Spec s (pEff1 s es) (effOk1 es = true) _
    rcases es with _ | ⟨a, _ | ⟨t, _ | ⟨z, q⟩⟩⟩
    · exact Spec.no (by simp [effOk1])
    · exact Spec.no (by simp [effOk1])
    · show Spec s (pEff2 s a t) _ (vaT WP 1 t)
      cases a with
      | tup ns =>
        show Spec s (if (ns.all isLab && srt ns) = true then pTail s t wEFF else (false, s)) ((ns.all isLab && (srt ns && tailOk t)) = true) _
        by_cases h : (ns.all isLab && srt ns) = true
        · rw [if_pos h]
          obtain ⟨h1, h2⟩ := Bool.and_eq_true_iff.mp h
          exact (tail_spec hc t WP 1).imp (by rw [h1, h2]; simp) fun _ => Iff.rfl
        · rw [if_neg h]
          refine Spec.no fun z => h ?_
          obtain ⟨z1, z2⟩ := Bool.and_eq_true_iff.mp z
          rw [z1, (Bool.and_eq_true_iff.mp z2).1]
          rfl
      | _ => exact Spec.no (by simp [effOk1])
    · exact Spec.no (by simp [effOk1])
  | _ => exact Spec.no (by simp [effOk])
/-- what a walk over pairs is worth -/
def sumS (n : Nat) (xs : List Val) : Nat := (xs.map fun x => sz n (snd0 x)).sum
theorem pL_spec {n : Nat} {b : Int} {rec : KSt → Val → Bool × KSt} (hr : ∀ s v, Con s → s.within = b → Spec s (rec s v) (shp n v = true ∧ dpOk n (60 - b) v = true ∧ s.many + sz n v ≤ 400) (va WP n v)) (hi : ∀ s v, Inv s (rec s v)) (hs : ∀ s v, (rec s v).1 = true → Sh n s v (rec s v)) :
    ∀ (xs : List Val) (s : KSt), Con s → s.many ≤ 400 → s.within = b → Spec s (pAll rec s xs) (xs.all (fun x => shp n (snd0 x)) = true ∧ xs.all (fun x => dpOk n (60 - b) (snd0 x)) = true ∧ s.many + (sumS n xs : Nat) ≤ 400) (xs.flatMap fun x => va WP n (snd0 x))
  | [], s, hc, h4, _ => ⟨fun _ => ⟨⟨rfl, rfl, by simpa [sumS] using h4⟩, fun φ => ⟨fun z => ⟨z, Sat.nil⟩, fun z => z.1⟩, hc⟩, fun _ _ => rfl⟩
  | x :: r, s, hc, h4, hb => by
    have a := hr s (snd0 x) hc hb
    have e : pAll rec s (x :: r) = ((rec s (snd0 x)).1 && (pAll rec (rec s (snd0 x)).2 r).1, (pAll rec (rec s (snd0 x)).2 r).2) := rfl
    have es : sumS n (x :: r) = sz n (snd0 x) + sumS n r := by simp [sumS]
    rw [e]
    have goal : Spec s (andT (rec s (snd0 x)) fun s => pAll rec s r) ((shp n (snd0 x) = true ∧ dpOk n (60 - b) (snd0 x) = true ∧ s.many + sz n (snd0 x) ≤ 400) ∧ (r.all (fun x => shp n (snd0 x)) = true ∧ r.all (fun x => dpOk n (60 - b) (snd0 x)) = true ∧ s.many + (sz n (snd0 x) : Nat) + (sumS n r : Nat) ≤ 400)) (va WP n (snd0 x) ++ r.flatMap fun x => va WP n (snd0 x)) := a.and fun q => by
      have c := pL_spec hr hi hs r (rec s (snd0 x)).2 (a.con q) ((hi s (snd0 x)).many q) ((hi s (snd0 x)).wi.trans hb)
      rw [(hs s (snd0 x) q).many] at c
      exact c
    have goal2 : Spec s ((rec s (snd0 x)).1 && (pAll rec (rec s (snd0 x)).2 r).1, (pAll rec (rec s (snd0 x)).2 r).2) ((shp n (snd0 x) = true ∧ dpOk n (60 - b) (snd0 x) = true ∧ s.many + sz n (snd0 x) ≤ 400) ∧ (r.all (fun x => shp n (snd0 x)) = true ∧ r.all (fun x => dpOk n (60 - b) (snd0 x)) = true ∧ s.many + (sz n (snd0 x) : Nat) + (sumS n r : Nat) ≤ 400)) (va WP n (snd0 x) ++ r.flatMap fun x => va WP n (snd0 x)) := by
      unfold andT at goal
      by_cases q : (rec s (snd0 x)).1 = true
      · rw [if_pos q] at goal
        refine ⟨fun z => goal.t (Bool.and_eq_true_iff.mp z).2, fun o z => Bool.and_eq_true_iff.mpr ⟨q, goal.f o z⟩⟩
      · rw [if_neg q] at goal
        exact ⟨fun z => absurd (Bool.and_eq_true_iff.mp z).1 q, fun o z => absurd (goal.f o z) (by simp)⟩
    refine goal2.imp ⟨fun ⟨⟨a1, a2, a3⟩, b1, b2, b3⟩ => ?_, fun ⟨a1, a2, a3⟩ => ?_⟩ fun _ => Iff.rfl
    · refine ⟨?_, ?_, ?_⟩
      · show (shp n (snd0 x) && r.all fun x => shp n (snd0 x)) = true
        rw [a1, b1]; rfl
      · show (dpOk n (60 - b) (snd0 x) && r.all fun x => dpOk n (60 - b) (snd0 x)) = true
        rw [a2, b2]; rfl
      · rw [es]; omega
    · obtain ⟨c1, c2⟩ := Bool.and_eq_true_iff.mp (show (shp n (snd0 x) && r.all fun x => shp n (snd0 x)) = true from a1)
      obtain ⟨d1, d2⟩ := Bool.and_eq_true_iff.mp (show (dpOk n (60 - b) (snd0 x) && r.all fun x => dpOk n (60 - b) (snd0 x)) = true from a2)
      rw [es] at a3
      exact ⟨⟨c1, d1, by omega⟩, c2, d2, by omega⟩
theorem word_cases {w : List Nat} {P : Prop} (h1 : (w = wNUM ∨ w = wFLAG) → w ≠ wANY → w ≠ wLIST → w ≠ wTO → w ≠ wROW → P) (h2 : w = wANY → ¬ (w = wNUM ∨ w = wFLAG) → w ≠ wLIST → w ≠ wTO → w ≠ wROW → P) (h3 : w = wLIST → ¬ (w = wNUM ∨ w = wFLAG) → w ≠ wANY → w ≠ wTO → w ≠ wROW → P) (h4 : w = wTO → ¬ (w = wNUM ∨ w = wFLAG) → w ≠ wANY → w ≠ wLIST → w ≠ wROW → P)
    (h5 : w = wROW → ¬ (w = wNUM ∨ w = wFLAG) → w ≠ wANY → w ≠ wLIST → w ≠ wTO → P) (h6 : ¬ (w = wNUM ∨ w = wFLAG) → w ≠ wANY → w ≠ wLIST → w ≠ wTO → w ≠ wROW → P) : P := by
  by_cases c1 : w = wNUM ∨ w = wFLAG
  · refine h1 c1 ?_ ?_ ?_ ?_ <;> rcases c1 with z | z <;> rw [z] <;> decide
  · by_cases c2 : w = wANY
    · refine h2 c2 c1 ?_ ?_ ?_ <;> rw [c2] <;> decide
    · by_cases c3 : w = wLIST
      · refine h3 c3 c1 c2 ?_ ?_ <;> rw [c3] <;> decide
      · by_cases c4 : w = wTO
        · refine h4 c4 c1 c2 c3 ?_ ; rw [c4]; decide
        · by_cases c5 : w = wROW
          · exact h5 c5 c1 c2 c3 c4
          · exact h6 c1 c2 c3 c4 c5
theorem sort_spec : ∀ (n : Nat) (s : KSt) (v : Val), Con s → Spec s (pSort n s v) (shp n v = true ∧ dpOk n (60 - s.within) v = true ∧ s.many + sz n v ≤ 400) (va WP n v)
  | 0, s, v, hc => Spec.no fun z => by cases z.1
  | n + 1, s, v, hc => by
    unfold pSort
    by_cases h60 : s.within + 1 ≤ 60
    · rw [if_pos h60]
      have goal : Spec s (pFormed (pSort n) { s with within := s.within + 1 } v) (shp (n + 1) v = true ∧ dpOk (n + 1) (60 - s.within) v = true ∧ s.many + sz (n + 1) v ≤ 400) (va WP (n + 1) v) := by
        unfold pFormed
        by_cases h4 : 400 < s.many + 1
        · rw [if_pos (show 400 < ({ s with within := s.within + 1 } : KSt).many + 1 from h4)]
          refine Spec.no fun z => ?_
          have z3 := z.2.2
          have : 1 ≤ sz (n + 1) v := by
            have z1 := z.1
            cases v with
            | tup xs =>
              cases xs with
              | nil => cases z1
              | cons x rest =>
                cases x with
                | str w =>
                  show 1 ≤ szW (sz n) w rest
                  unfold szW
                  repeat' split
                  all_goals omega
                | _ => cases z1
            | _ => cases z1
          omega
        · rw [if_neg (show ¬ 400 < ({ s with within := s.within + 1 } : KSt).many + 1 from h4)]
          cases v with
          | tup xs =>
            cases xs with
            | nil => exact Spec.no fun z => by cases z.1
            | cons x rest =>
              cases x with
              | str w =>
                obtain ⟨s1, es1⟩ : ∃ s1 : KSt, s1 = { s with within := s.within + 1, many := s.many + 1 } := ⟨_, rfl⟩
                show Spec s (pWord (pSort n) { s with within := s.within + 1, many := s.many + 1 } w rest) (shpW (shp n) w rest = true ∧ (decide (1 ≤ 60 - s.within) && dW (dpOk n (60 - s.within - 1)) w rest) = true ∧ s.many + (szW (sz n) w rest : Nat) ≤ 400) (vaW WP (va WP n) w rest)
                rw [← es1, decide_eq_true (show 1 ≤ 60 - s.within by omega), Bool.true_and]
                have m1 : s1.many = s.many + 1 := by rw [es1]
                have w1 : s1.within = s.within + 1 := by rw [es1]
                have l1 : s1.l = s.l := by rw [es1]
                have c1 : Con s1 := by obtain ⟨φ, z⟩ := hc; exact ⟨φ, by rw [l1]; exact z⟩
                have eb : 60 - s.within - 1 = 60 - s1.within := by rw [w1]; omega
                rw [eb]
                refine Spec.st ?_ l1
                have h41 : s1.many ≤ 400 := by omega
                clear es1 hc
                have ih := sort_spec n
                refine word_cases (w := w) (fun a b c d e => ?_) (fun a b c d e => ?_) (fun a b c d e => ?_) (fun a b c d e => ?_) (fun a b c d e => ?_) (fun a b c d e => ?_)
                · unfold pWord shpW dW szW vaW
                  simp only [if_neg b, if_neg c, if_neg d, if_neg e]
                  by_cases hr : rest = []
                  · simp only [if_pos (show (w = wNUM ∨ w = wFLAG) ∧ rest = [] from ⟨a, hr⟩)]
                    exact ⟨fun _ => ⟨⟨by trivial, by trivial, by omega⟩, fun φ => ⟨fun z => ⟨z, Sat.nil⟩, fun z => z.1⟩, c1⟩, fun _ _ => rfl⟩
                  · simp only [if_neg (show ¬ ((w = wNUM ∨ w = wFLAG) ∧ rest = []) from fun z => hr z.2)]
                    exact Spec.no fun z => by cases z.1
                · unfold pWord shpW dW szW vaW
                  simp only [if_pos a, if_neg c, if_neg d, if_neg e, if_neg (show ¬ ((w = wNUM ∨ w = wFLAG) ∧ rest = []) from fun z => b z.1)]
                  rcases rest with _ | ⟨c0, _ | ⟨z9, q9⟩⟩
                  · exact Spec.no fun z => by cases z.1
                  · have t := takes_spec c1 c0 wSORT
                    refine t.imp ⟨fun ⟨i, e1, e2⟩ => ?_, fun ⟨z1, z2, z3⟩ => ?_⟩ fun φ => ?_
                    · subst e1; exact ⟨e2, by trivial, by simp; omega⟩
                    · cases c0 with
                      | int i => exact ⟨i, rfl, z1⟩
                      | _ => cases z1
                    · cases c0 <;> exact Iff.rfl
                  · exact Spec.no fun z => by cases z.1
                · unfold pWord shpW dW szW vaW
                  simp only [if_pos a, if_neg c, if_neg d, if_neg e, if_neg (show ¬ ((w = wNUM ∨ w = wFLAG) ∧ rest = []) from fun z => b z.1)]
                  rcases rest with _ | ⟨x, _ | ⟨z9, q9⟩⟩
                  · exact Spec.no fun z => by cases z.1
                  · refine (ih s1 x c1).imp ⟨fun ⟨z1, z2, z3⟩ => ⟨z1, z2, by simp; omega⟩, fun ⟨z1, z2, z3⟩ => ⟨z1, z2, by simp at z3; omega⟩⟩ fun φ => Iff.rfl
                  · exact Spec.no fun z => by cases z.1
                · unfold pWord shpW dW szW vaW
                  simp only [if_pos a, if_neg c, if_neg d, if_neg e, if_neg (show ¬ ((w = wNUM ∨ w = wFLAG) ∧ rest = []) from fun z => b z.1)]
                  rcases rest with _ | ⟨x, _ | ⟨ef, _ | ⟨y, _ | ⟨z9, q9⟩⟩⟩⟩
                  · exact Spec.no fun z => by cases z.1
                  · exact Spec.no fun z => by cases z.1
                  · exact Spec.no fun z => by cases z.1
                  · have A := ih s1 x c1
                    refine (A.and (ok2 := effOk ef = true ∧ (shp n y = true ∧ dpOk n (60 - s1.within) y = true ∧ s1.many + (sz n x : Nat) + (sz n y : Nat) ≤ 400)) (vs2 := vaE WP ef ++ va WP n y) fun q => ?_).imp ⟨fun ⟨⟨z1, z2, z3⟩, z4, z5, z6, z7⟩ => ?_, fun ⟨z1, z2, z3⟩ => ?_⟩ fun φ => Iff.rfl
                    · refine (eff_spec (A.con q) ef).and fun q2 => ?_
                      have sm := eff_sml (pSort n s1 x).2 ef
                      have B := ih (pEff (pSort n s1 x).2 ef).2 y ((eff_spec (A.con q) ef).con q2)
                      rw [sm.wi, (sort_inv n s1 x).wi, sm.many, (sort_shape n s1 x q).many] at B
                      exact B
                    · refine ⟨by show (shp n x && (effOk ef && shp n y)) = true; rw [z1, z4, z5]; rfl, by show (dpOk n (60 - s1.within) x && dpOk n (60 - s1.within) y) = true; rw [z2, z6]; rfl, ?_⟩
                      show s.many + ((sz n x + sz n y + 1 : Nat) : Int) ≤ 400
                      omega
                    · obtain ⟨z4, z5⟩ := Bool.and_eq_true_iff.mp (show (shp n x && (effOk ef && shp n y)) = true from z1)
                      obtain ⟨z6, z7⟩ := Bool.and_eq_true_iff.mp z5
                      obtain ⟨z8, z9⟩ := Bool.and_eq_true_iff.mp (show (dpOk n (60 - s1.within) x && dpOk n (60 - s1.within) y) = true from z2)
                      have z3 : s.many + ((sz n x + sz n y + 1 : Nat) : Int) ≤ 400 := z3
                      exact ⟨⟨z4, z8, by omega⟩, z6, z7, z9, by omega⟩
                  · exact Spec.no fun z => by cases z.1
                · unfold pWord shpW dW szW vaW
                  simp only [if_pos a, if_neg c, if_neg d, if_neg e, if_neg (show ¬ ((w = wNUM ∨ w = wFLAG) ∧ rest = []) from fun z => b z.1)]
                  rcases rest with _ | ⟨ps, _ | ⟨t, _ | ⟨z9, q9⟩⟩⟩
                  · exact Spec.no fun z => by cases z.1
                  · exact Spec.no fun z => by cases z.1
                  · cases ps with
                    | tup xs =>
                      show Spec s1 (andT (pPairs (pSort n) s1 (.tup xs)) fun s => pTail s t wROW) ((xs.all okPair && (asc2 xs && (xs.all (fun x => shp n (snd0 x)) && tailOk t))) = true ∧ xs.all (fun x => dpOk n (60 - s1.within) (snd0 x)) = true ∧ s.many + ((sumS n xs + 1 : Nat) : Int) ≤ 400) (xs.flatMap (fun x => va WP n (snd0 x)) ++ vaT WP 2 t)
                      have P : Spec s1 (pPairs (pSort n) s1 (.tup xs)) ((xs.all okPair && asc2 xs) = true ∧ (xs.all (fun x => shp n (snd0 x)) = true ∧ xs.all (fun x => dpOk n (60 - s1.within) (snd0 x)) = true ∧ s1.many + (sumS n xs : Nat) ≤ 400)) (xs.flatMap fun x => va WP n (snd0 x)) := by
                        show Spec s1 (if (xs.all okPair && asc2 xs) = true then pAll (pSort n) s1 xs else (false, s1)) _ _
                        by_cases h : (xs.all okPair && asc2 xs) = true
                        · rw [if_pos h]
                          refine (pL_spec (b := s1.within) (fun s v z1 z2 => ?_) (sort_inv n) (sort_shape n) xs s1 c1 h41 rfl).imp ⟨fun z => ⟨h, z⟩, fun z => z.2⟩ fun _ => Iff.rfl
                          have := ih s v z1
                          rw [z2] at this
                          exact this
                        · rw [if_neg h]
                          exact Spec.no fun z => h z.1
                      refine (P.and (ok2 := tailOk t = true) (vs2 := vaT WP 2 t) fun q => tail_spec (P.con q) t WP 2).imp ⟨fun ⟨⟨z1, z2, z3, z4⟩, z5⟩ => ?_, fun ⟨z1, z2, z3⟩ => ?_⟩ fun φ => Iff.rfl
                      · obtain ⟨z6, z7⟩ := Bool.and_eq_true_iff.mp z1
                        exact ⟨by rw [z6, z7, z2, z5]; rfl, z3, by omega⟩
                      · obtain ⟨z4, z5⟩ := Bool.and_eq_true_iff.mp z1
                        obtain ⟨z6, z7⟩ := Bool.and_eq_true_iff.mp z5
                        obtain ⟨z8, z9⟩ := Bool.and_eq_true_iff.mp z7
                        exact ⟨⟨by rw [z4, z6]; rfl, z8, z2, by omega⟩, z9⟩
                    | _ => exact Spec.no fun z => by cases z.1
                  · exact Spec.no fun z => by cases z.1
                · unfold pWord shpW
                  simp only [if_neg b, if_neg c, if_neg d, if_neg e, if_neg (show ¬ ((w = wNUM ∨ w = wFLAG) ∧ rest = []) from fun z => a z.1)]
                  exact Spec.no fun z => by cases z.1
              | _ => exact Spec.no fun z => by cases z.1
          | _ => exact Spec.no fun z => by cases z.1
      exact ⟨fun z => goal.t z, fun o z => goal.f o z⟩
    · rw [if_neg h60]
      refine Spec.no fun z => ?_
      obtain ⟨z1, _⟩ := Bool.and_eq_true_iff.mp (show (decide (1 ≤ 60 - s.within) && _) = true from z.2.1)
      have := of_decide_eq_true z1
      omega
end K02
set_option linter.all false
set_option maxHeartbeats 4000000
/-! PE2: .. and by the law's own look. -/
namespace K02
open MP
def ascL : List (List Nat) → Bool
  | [] => true
  | x :: r => match r with
    | [] => true
    | y :: _ => strLt x y && ascL r
theorem asc2_L : ∀ xs : List Val, asc2 xs = ascL (xs.map lab0)
  | [] => rfl
  | x :: r => by
    cases r with
    | nil => rfl
    | cons y r =>
      show (strLt (lab0 x) (lab0 y) && asc2 (y :: r)) = (strLt (lab0 x) (lab0 y) && ascL ((y :: r).map lab0))
      rw [asc2_L (y :: r)]
theorem ascL_pw : ∀ l : List (List Nat), ascL l = true ↔ l.Pairwise (· < ·)
  | [] => by simp [ascL]
  | x :: r => by
    cases r with
    | nil => simp [ascL]
    | cons y r =>
      have ih := ascL_pw (y :: r)
      show (strLt x y && ascL (y :: r)) = true ↔ _
      rw [Bool.and_eq_true, Snd.strLt_iff, decide_eq_true_eq, ih]
      constructor
      · rintro ⟨h1, h2⟩
        refine List.pairwise_cons.mpr ⟨fun a ha => ?_, h2⟩
        rcases List.mem_cons.mp ha with rfl | ha
        · exact h1
        · exact List.lt_trans h1 ((List.pairwise_cons.mp h2).1 a ha)
      · intro h
        obtain ⟨h1, h2⟩ := List.pairwise_cons.mp h
        exact ⟨h1 y List.mem_cons_self, h2⟩
theorem hasS_mem (x : List Nat) : ∀ l : List (List Nat), E.hasS x l = true ↔ x ∈ l
  | [] => by simp [E.hasS]
  | y :: r => by
    show (match strEq x y with | true => true | false => E.hasS x r) = true ↔ _
    have e : strEq x y = decide (x = y) := by
      have : ∀ (s t : List Nat), strEq s t = decide (s = t) := by
        intro s
        induction s with
        | nil => intro t; cases t <;> simp [strEq]
        | cons a s ih =>
          intro t
          cases t with
          | nil => simp [strEq]
          | cons b t =>
            show (match Nat.beq a b with | true => strEq s t | false => false) = _
            cases e : Nat.beq a b with
            | true =>
              have := Nat.eq_of_beq_eq_true e
              subst this
              simp [ih t]
            | false =>
              have : a ≠ b := by rintro rfl; simp at e
              simp [this]
      exact this x y
    rw [e]
    by_cases h : x = y
    · simp [h]
    · simp [h, hasS_mem x r]
theorem dedup_mem (x : List Nat) : ∀ l : List (List Nat), x ∈ E.dedupS l ↔ x ∈ l
  | [] => Iff.rfl
  | y :: r => by
    show x ∈ (match E.hasS y r with | true => E.dedupS r | false => y :: E.dedupS r) ↔ _
    cases h : E.hasS y r with
    | true =>
      have hy := (hasS_mem y r).mp h
      simp only [dedup_mem x r, List.mem_cons]
      constructor
      · exact .inr
      · rintro (rfl | z)
        · exact hy
        · exact z
    | false => simp only [List.mem_cons, dedup_mem x r]
theorem dedup_nodup : ∀ l : List (List Nat), (E.dedupS l).Nodup
  | [] => List.nodup_nil
  | y :: r => by
    show (match E.hasS y r with | true => E.dedupS r | false => y :: E.dedupS r).Nodup
    cases h : E.hasS y r with
    | true => exact dedup_nodup r
    | false =>
      refine List.nodup_cons.mpr ⟨fun z => ?_, dedup_nodup r⟩
      have := (hasS_mem y r).mpr ((dedup_mem y r).mp z)
      rw [h] at this; cases this
theorem dedup_id : ∀ l : List (List Nat), l.Nodup → E.dedupS l = l
  | [], _ => rfl
  | y :: r, h => by
    obtain ⟨h1, h2⟩ := List.nodup_cons.mp h
    show (match E.hasS y r with | true => E.dedupS r | false => y :: E.dedupS r) = _
    cases q : E.hasS y r with
    | true => exact absurd ((hasS_mem y r).mp q) h1
    | false => simp only [dedup_id r h2]
theorem sort_id : ∀ l : List (List Nat), l.Pairwise (· < ·) → sortS l = l
  | [], _ => rfl
  | x :: r, h => by
    obtain ⟨h1, h2⟩ := List.pairwise_cons.mp h
    show insS x (sortS r) = _
    rw [sort_id r h2]
    cases r with
    | nil => rfl
    | cons y r =>
      show (match strLt x y with | true => x :: y :: r | false => y :: insS x r) = _
      rw [Snd.strLt_iff, decide_eq_true (h1 y List.mem_cons_self)]
theorem lab_asc (xs : List Val) : qLab xs = asc2 xs := by
  rw [asc2_L]
  unfold qLab
  generalize xs.map lab0 = l
  by_cases h : l.Pairwise (· < ·)
  · have hn : l.Nodup := h.imp fun {a b} z => by
      rintro rfl
      exact List.lt_irrefl a z
    rw [(ascL_pw l).mpr h, dedup_id l hn, sort_id l h]
    exact decide_eq_true rfl
  · have h2 : ascL l = false := by
      cases q : ascL l with
      | false => rfl
      | true => exact absurd ((ascL_pw l).mp q) h
    rw [h2]
    refine decide_eq_false fun e => h ?_
    have s1 := Snd.sortS_sorted (E.dedupS l)
    have n1 : (sortS (E.dedupS l)).Nodup := (Snd.sortS_perm _).nodup_iff.mpr (dedup_nodup l)
    rw [← e] at s1 n1
    refine (List.pairwise_and_iff.mpr ⟨s1, n1⟩).imp fun {a b} ⟨z1, z2⟩ => ?_
    rcases Classical.em (a < b) with q | q
    · exact q
    · exact absurd (List.le_antisymm z1 q) z2
/-! ### the spec -/
theorem loop_spec {n : Nat} {b : Int} {rec : KSt → Val → Bool × KSt} (hr : ∀ s v, Con s → Spec s (rec s v) (shp n v = true ∧ dpOk n b v = true ∧ s.many + sz n v ≤ 400) (va WQ n v)) (hm : ∀ s v, (rec s v).1 = true → (rec s v).2.many = s.many + sz n v) :
    ∀ (xs : List Val) (s : KSt), Con s → s.many ≤ 400 → Spec s (qLoop rec s xs) (xs.all okPair = true ∧ xs.all (fun x => shp n (snd0 x)) = true ∧ xs.all (fun x => dpOk n b (snd0 x)) = true ∧ s.many + (sumS n xs : Nat) ≤ 400) (xs.flatMap fun x => va WQ n (snd0 x))
  | [], s, hc, h4 => ⟨fun _ => ⟨⟨rfl, rfl, rfl, by simpa [sumS] using h4⟩, fun φ => ⟨fun z => ⟨z, Sat.nil⟩, fun z => z.1⟩, hc⟩, fun _ _ => rfl⟩
  | x :: r, s, hc, h4 => by
    have es : sumS n (x :: r) = sz n (snd0 x) + sumS n r := by simp [sumS]
    show Spec s (if okPair x = true then andT (rec s (snd0 x)) fun s => qLoop rec s r else (false, s)) _ (va WQ n (snd0 x) ++ r.flatMap fun x => va WQ n (snd0 x))
    by_cases ho : okPair x = true
    · rw [if_pos ho]
      have a := hr s (snd0 x) hc
      refine (a.and (ok2 := r.all okPair = true ∧ r.all (fun x => shp n (snd0 x)) = true ∧ r.all (fun x => dpOk n b (snd0 x)) = true ∧ s.many + (sz n (snd0 x) : Nat) + (sumS n r : Nat) ≤ 400) fun q => ?_).imp ⟨fun ⟨⟨a1, a2, a3⟩, b0, b1, b2, b3⟩ => ?_, fun ⟨a0, a1, a2, a3⟩ => ?_⟩ fun _ => Iff.rfl
      · have t := (a.t q).1.2.2
        have e := hm s (snd0 x) q
        have c := loop_spec hr hm r (rec s (snd0 x)).2 (a.con q) (by omega)
        rw [e] at c
        exact c
      · refine ⟨?_, ?_, ?_, by rw [es]; omega⟩
        · show (okPair x && r.all okPair) = true; rw [ho, b0]; rfl
        · show (shp n (snd0 x) && r.all fun x => shp n (snd0 x)) = true; rw [a1, b1]; rfl
        · show (dpOk n b (snd0 x) && r.all fun x => dpOk n b (snd0 x)) = true; rw [a2, b2]; rfl
      · obtain ⟨p1, p2⟩ := Bool.and_eq_true_iff.mp (show (okPair x && r.all okPair) = true from a0)
        obtain ⟨c1, c2⟩ := Bool.and_eq_true_iff.mp (show (shp n (snd0 x) && r.all fun x => shp n (snd0 x)) = true from a1)
        obtain ⟨d1, d2⟩ := Bool.and_eq_true_iff.mp (show (dpOk n b (snd0 x) && r.all fun x => dpOk n b (snd0 x)) = true from a2)
        rw [es] at a3
        exact ⟨⟨c1, d1, by omega⟩, p2, c2, d2, by omega⟩
    · rw [if_neg ho]
      exact Spec.no fun z => ho (Bool.and_eq_true_iff.mp (show (okPair x && r.all okPair) = true from z.1)).1
theorem loop_many {n : Nat} {rec : KSt → Val → Bool × KSt} (hm : ∀ s v, (rec s v).1 = true → (rec s v).2.many = s.many + sz n v) : ∀ (xs : List Val) (s : KSt), (qLoop rec s xs).1 = true → (qLoop rec s xs).2.many = s.many + (sumS n xs : Nat)
  | [], s, _ => by simp [qLoop, sumS]
  | x :: r, s, h => by
    have es : sumS n (x :: r) = sz n (snd0 x) + sumS n r := by simp [sumS]
    have h : (if okPair x = true then andT (rec s (snd0 x)) fun s => qLoop rec s r else (false, s)).1 = true := h
    show (if okPair x = true then andT (rec s (snd0 x)) fun s => qLoop rec s r else (false, s)).2.many = _
    by_cases ho : okPair x = true
    · rw [if_pos ho] at h ⊢
      unfold andT at h ⊢
      by_cases q : (rec s (snd0 x)).1 = true
      · rw [if_pos q] at h ⊢
        have := loop_many hm r (rec s (snd0 x)).2 h
        rw [this, hm s _ q, es]
        omega
      · rw [if_neg q] at h; cases h
    · rw [if_neg ho] at h; cases h
theorem fine_many : ∀ (n : Nat) (dp : Int) (s : KSt) (v : Val), (qFine n dp s v).1 = true → (qFine n dp s v).2.many = s.many + sz n v
  | 0, dp, s, v, h => by cases h
  | n + 1, dp, s, v, h => by
    unfold qFine at h ⊢
    by_cases h4 : 400 < s.many + 1 ∨ 60 < dp
    · rw [if_pos h4] at h; cases h
    · rw [if_neg h4] at h ⊢
      cases v with
      | tup xs =>
        cases xs with
        | nil => cases h
        | cons x rest =>
          cases x with
          | str w =>
            obtain ⟨s1, es1⟩ : ∃ s1 : KSt, s1 = { s with many := s.many + 1 } := ⟨_, rfl⟩
            have h : (qWord (qFine n (dp + 1)) { s with many := s.many + 1 } w rest).1 = true := h
            show (qWord (qFine n (dp + 1)) { s with many := s.many + 1 } w rest).2.many = s.many + (szW (sz n) w rest : Nat)
            rw [← es1] at h ⊢
            have m1 : s1.many = s.many + 1 := by rw [es1]
            clear es1
            have ih := fine_many n (dp + 1)
            refine word_cases (w := w) (fun a b c d e => ?_) (fun a b c d e => ?_) (fun a b c d e => ?_) (fun a b c d e => ?_) (fun a b c d e => ?_) (fun a b c d e => ?_)
            · unfold qWord at h ⊢
              rw [if_pos a] at h ⊢
              have hr : rest = [] := of_decide_eq_true h
              unfold szW
              rw [if_pos ⟨a, hr⟩]
              show s1.many = _
              omega
            · unfold qWord at h ⊢
              unfold szW
              simp only [if_pos a, if_neg b, if_neg c, if_neg d, if_neg e, if_neg (show ¬ ((w = wNUM ∨ w = wFLAG) ∧ rest = []) from fun z => b z.1)] at h ⊢
              rcases rest with _ | ⟨c0, _ | ⟨z9, q9⟩⟩
              · cases h
              · show (pTakes s1 c0 wANY).2.many = _
                rw [(takes_sml s1 c0 wANY).many, m1]
                rfl
              · cases h
            · unfold qWord at h ⊢
              unfold szW
              simp only [if_pos a, if_neg b, if_neg c, if_neg d, if_neg e, if_neg (show ¬ ((w = wNUM ∨ w = wFLAG) ∧ rest = []) from fun z => b z.1)] at h ⊢
              rcases rest with _ | ⟨x, _ | ⟨z9, q9⟩⟩
              · cases h
              · show (qFine n (dp + 1) s1 x).2.many = s.many + ((sz n x + 1 : Nat) : Int)
                rw [ih s1 x h, m1]
                omega
              · cases h
            · unfold qWord at h ⊢
              unfold szW
              simp only [if_pos a, if_neg b, if_neg c, if_neg d, if_neg e, if_neg (show ¬ ((w = wNUM ∨ w = wFLAG) ∧ rest = []) from fun z => b z.1)] at h ⊢
              rcases rest with _ | ⟨x, _ | ⟨ef, _ | ⟨y, _ | ⟨z9, q9⟩⟩⟩⟩
              · cases h
              · cases h
              · cases h
              · have h : (qTo (qFine n (dp + 1)) s1 x ef y).1 = true := h
                show (qTo (qFine n (dp + 1)) s1 x ef y).2.many = s.many + ((sz n x + sz n y + 1 : Nat) : Int)
                unfold qTo at h ⊢
                cases ef with
                | tup es =>
                  rcases es with _ | ⟨a0, _ | ⟨t, _ | ⟨z9, q9⟩⟩⟩
                  · cases h
                  · cases h
                  · have h : (qTo2 (qFine n (dp + 1)) s1 x a0 t y).1 = true := h
                    show (qTo2 (qFine n (dp + 1)) s1 x a0 t y).2.many = _
                    unfold qTo2 at h ⊢
                    cases a0 with
                    | tup ns =>
                      simp only at h ⊢
                      by_cases g : (ns.all isLab && srt ns) = true
                      · rw [if_pos g] at h ⊢
                        unfold andT at h ⊢
                        by_cases q1 : (pTail s1 t wBAG).1 = true
                        · rw [if_pos q1] at h ⊢
                          have h : (if (qFine n (dp + 1) (pTail s1 t wBAG).2 x).1 = true then qFine n (dp + 1) (qFine n (dp + 1) (pTail s1 t wBAG).2 x).2 y else (false, (qFine n (dp + 1) (pTail s1 t wBAG).2 x).2)).1 = true := h
                          show (if (qFine n (dp + 1) (pTail s1 t wBAG).2 x).1 = true then qFine n (dp + 1) (qFine n (dp + 1) (pTail s1 t wBAG).2 x).2 y else (false, (qFine n (dp + 1) (pTail s1 t wBAG).2 x).2)).2.many = _
                          by_cases q2 : (qFine n (dp + 1) (pTail s1 t wBAG).2 x).1 = true
                          · rw [if_pos q2] at h ⊢
                            rw [ih _ y h, ih _ x q2, (tail_sml s1 t wBAG).many, m1]
                            omega
                          · rw [if_neg q2] at h; cases h
                        · rw [if_neg q1] at h; cases h
                      · rw [if_neg g] at h; cases h
                    | _ => cases h
                  · cases h
                | _ => cases h
              · cases h
            · unfold qWord at h ⊢
              unfold szW
              simp only [if_pos a, if_neg b, if_neg c, if_neg d, if_neg e, if_neg (show ¬ ((w = wNUM ∨ w = wFLAG) ∧ rest = []) from fun z => b z.1)] at h ⊢
              rcases rest with _ | ⟨ps, _ | ⟨t, _ | ⟨z9, q9⟩⟩⟩
              · cases h
              · cases h
              · cases ps with
                | tup xs =>
                  have h : (andT (qLoop (qFine n (dp + 1)) s1 xs) fun s => if qLab xs then pTail s t wROW else (false, s)).1 = true := h
                  show (andT (qLoop (qFine n (dp + 1)) s1 xs) fun s => if qLab xs then pTail s t wROW else (false, s)).2.many = s.many + ((sumS n xs + 1 : Nat) : Int)
                  unfold andT at h ⊢
                  by_cases q1 : (qLoop (qFine n (dp + 1)) s1 xs).1 = true
                  · rw [if_pos q1] at h ⊢
                    have h : (if qLab xs = true then pTail (qLoop (qFine n (dp + 1)) s1 xs).2 t wROW else (false, (qLoop (qFine n (dp + 1)) s1 xs).2)).1 = true := h
                    show (if qLab xs = true then pTail (qLoop (qFine n (dp + 1)) s1 xs).2 t wROW else (false, (qLoop (qFine n (dp + 1)) s1 xs).2)).2.many = _
                    by_cases q2 : qLab xs = true
                    · rw [if_pos q2] at h ⊢
                      rw [(tail_sml _ t wROW).many, loop_many ih xs s1 q1, m1]
                      omega
                    · rw [if_neg q2] at h; cases h
                  · rw [if_neg q1] at h; cases h
                | _ => cases h
              · cases h
            · unfold qWord at h
              simp only [if_neg a, if_neg b, if_neg c, if_neg d, if_neg e] at h
              cases h
          | _ => cases h
      | _ => cases h
theorem fine_spec : ∀ (n : Nat) (dp : Int) (s : KSt) (v : Val), Con s → Spec s (qFine n dp s v) (shp n v = true ∧ dpOk n (61 - dp) v = true ∧ s.many + sz n v ≤ 400) (va WQ n v)
  | 0, dp, s, v, hc => Spec.no fun z => by cases z.1
  | n + 1, dp, s, v, hc => by
    unfold qFine
    by_cases h4 : 400 < s.many + 1 ∨ 60 < dp
    · rw [if_pos h4]
      refine Spec.no fun z => ?_
      rcases h4 with h4 | h4
      · have z3 := z.2.2
        have : 1 ≤ sz (n + 1) v := by
          have z1 := z.1
          cases v with
          | tup xs =>
            cases xs with
            | nil => cases z1
            | cons x rest =>
              cases x with
              | str w =>
                show 1 ≤ szW (sz n) w rest
                unfold szW
                repeat' split
                all_goals omega
              | _ => cases z1
          | _ => cases z1
        omega
      · obtain ⟨z1, _⟩ := Bool.and_eq_true_iff.mp (show (decide (1 ≤ 61 - dp) && _) = true from z.2.1)
        have := of_decide_eq_true z1
        omega
    · rw [if_neg h4]
      have h41 : ¬ 400 < s.many + 1 := fun z => h4 (.inl z)
      have h42 : ¬ 60 < dp := fun z => h4 (.inr z)
      cases v with
      | tup xs =>
        cases xs with
        | nil => exact Spec.no fun z => by cases z.1
        | cons x rest =>
          cases x with
          | str w =>
            obtain ⟨s1, es1⟩ : ∃ s1 : KSt, s1 = { s with many := s.many + 1 } := ⟨_, rfl⟩
            show Spec s (qWord (qFine n (dp + 1)) { s with many := s.many + 1 } w rest) (shpW (shp n) w rest = true ∧ (decide (1 ≤ 61 - dp) && dW (dpOk n (61 - dp - 1)) w rest) = true ∧ s.many + (szW (sz n) w rest : Nat) ≤ 400) (vaW WQ (va WQ n) w rest)
            rw [← es1, decide_eq_true (show 1 ≤ 61 - dp by omega), Bool.true_and]
            have m1 : s1.many = s.many + 1 := by rw [es1]
            have l1 : s1.l = s.l := by rw [es1]
            have c1 : Con s1 := by obtain ⟨φ, z⟩ := hc; exact ⟨φ, by rw [l1]; exact z⟩
            rw [show 61 - dp - 1 = 61 - (dp + 1) by omega]
            refine Spec.st ?_ l1
            have h43 : s1.many ≤ 400 := by omega
            clear es1 hc
            have ih := fine_spec n (dp + 1)
            have im := fine_many n (dp + 1)
            refine word_cases (w := w) (fun a b c d e => ?_) (fun a b c d e => ?_) (fun a b c d e => ?_) (fun a b c d e => ?_) (fun a b c d e => ?_) (fun a b c d e => ?_)
            · unfold qWord shpW dW szW vaW
              simp only [if_pos a, if_neg b, if_neg c, if_neg d, if_neg e]
              by_cases hr : rest = []
              · simp only [if_pos (show (w = wNUM ∨ w = wFLAG) ∧ rest = [] from ⟨a, hr⟩)]
                exact ⟨fun _ => ⟨⟨by trivial, by trivial, by omega⟩, fun φ => ⟨fun z => ⟨z, Sat.nil⟩, fun z => z.1⟩, c1⟩, fun _ _ => decide_eq_true hr⟩
              · simp only [if_neg (show ¬ ((w = wNUM ∨ w = wFLAG) ∧ rest = []) from fun z => hr z.2), decide_eq_false hr]
                exact Spec.no fun z => by cases z.1
            · unfold qWord shpW dW szW vaW
              simp only [if_pos a, if_neg b, if_neg c, if_neg d, if_neg e, if_neg (show ¬ ((w = wNUM ∨ w = wFLAG) ∧ rest = []) from fun z => b z.1)]
              rcases rest with _ | ⟨c0, _ | ⟨z9, q9⟩⟩
              · exact Spec.no fun z => by cases z.1
              · have t := takes_spec c1 c0 wANY
                refine t.imp ⟨fun ⟨i, e1, e2⟩ => ?_, fun ⟨z1, z2, z3⟩ => ?_⟩ fun φ => ?_
                · subst e1; exact ⟨e2, by trivial, by simp; omega⟩
                · cases c0 with
                  | int i => exact ⟨i, rfl, z1⟩
                  | _ => cases z1
                · cases c0 <;> exact Iff.rfl
              · exact Spec.no fun z => by cases z.1
            · unfold qWord shpW dW szW vaW
              simp only [if_pos a, if_neg b, if_neg c, if_neg d, if_neg e, if_neg (show ¬ ((w = wNUM ∨ w = wFLAG) ∧ rest = []) from fun z => b z.1)]
              rcases rest with _ | ⟨x, _ | ⟨z9, q9⟩⟩
              · exact Spec.no fun z => by cases z.1
              · refine (ih s1 x c1).imp ⟨fun ⟨z1, z2, z3⟩ => ⟨z1, z2, by simp; omega⟩, fun ⟨z1, z2, z3⟩ => ⟨z1, z2, by simp at z3; omega⟩⟩ fun φ => Iff.rfl
              · exact Spec.no fun z => by cases z.1
            · unfold qWord shpW dW szW vaW
              simp only [if_pos a, if_neg b, if_neg c, if_neg d, if_neg e, if_neg (show ¬ ((w = wNUM ∨ w = wFLAG) ∧ rest = []) from fun z => b z.1)]
              rcases rest with _ | ⟨x, _ | ⟨ef, _ | ⟨y, _ | ⟨z9, q9⟩⟩⟩⟩
              · exact Spec.no fun z => by cases z.1
              · exact Spec.no fun z => by cases z.1
              · exact Spec.no fun z => by cases z.1
              · show Spec s1 (qTo (qFine n (dp + 1)) s1 x ef y) ((shp n x && (effOk ef && shp n y)) = true ∧ (dpOk n (61 - (dp + 1)) x && dpOk n (61 - (dp + 1)) y) = true ∧ s.many + ((sz n x + sz n y + 1 : Nat) : Int) ≤ 400) (va WQ n x ++ (vaE WQ ef ++ va WQ n y))
                by_cases he : effOk ef = true
                · obtain ⟨ns, t, rfl, ht, hl, hs⟩ := effOk_inv he
                  show Spec s1 (if (ns.all isLab && srt ns) = true then andT (pTail s1 t wBAG) fun s => andT (qFine n (dp + 1) s x) fun s => qFine n (dp + 1) s y else (false, s1)) _ (va WQ n x ++ (vaT WQ 1 t ++ va WQ n y))
                  rw [hl, hs, Bool.true_and, if_pos rfl]
                  refine ((tail_spec c1 t WQ 1).and (ok2 := (shp n x = true ∧ dpOk n (61 - (dp + 1)) x = true ∧ s1.many + sz n x ≤ 400) ∧ (shp n y = true ∧ dpOk n (61 - (dp + 1)) y = true ∧ s1.many + (sz n x : Nat) + (sz n y : Nat) ≤ 400)) (vs2 := va WQ n x ++ va WQ n y) fun q => ?_).imp ⟨fun ⟨z1, ⟨z2, z3, z4⟩, z5, z6, z7⟩ => ?_, fun ⟨z1, z2, z3⟩ => ?_⟩ fun φ => ?_
                  · have ct := (tail_spec c1 t WQ 1).con q
                    have A := ih (pTail s1 t (WQ 1)).2 x ct
                    have tm := (tail_sml s1 t (WQ 1)).many
                    rw [tm] at A
                    refine A.and fun q2 => ?_
                    have B := ih (qFine n (dp + 1) (pTail s1 t (WQ 1)).2 x).2 y (A.con q2)
                    rw [im _ x q2, tm] at B
                    exact B
                  · rw [z2, he, z5, z3, z6]
                    exact ⟨rfl, rfl, by omega⟩
                  · obtain ⟨z4, z5⟩ := Bool.and_eq_true_iff.mp z1
                    obtain ⟨z6, z7⟩ := Bool.and_eq_true_iff.mp z5
                    obtain ⟨z8, z9⟩ := Bool.and_eq_true_iff.mp z2
                    exact ⟨ht, ⟨z4, z8, by omega⟩, z7, z9, by omega⟩
                  · simp only [Sat.app]
                    constructor
                    · rintro ⟨a1, a2, a3⟩; exact ⟨a2, a1, a3⟩
                    · rintro ⟨a1, a2, a3⟩; exact ⟨a2, a1, a3⟩
                · have e0 : ∃ s', qTo (qFine n (dp + 1)) s1 x ef y = (false, s') := by
                    unfold qTo
                    cases ef with
                    | tup es =>
                      rcases es with _ | ⟨a0, _ | ⟨t, _ | ⟨z9, q9⟩⟩⟩
                      · exact ⟨_, rfl⟩
                      · exact ⟨_, rfl⟩
                      · show ∃ s', qTo2 (qFine n (dp + 1)) s1 x a0 t y = _
                        unfold qTo2
                        cases a0 with
                        | tup ns =>
                          simp only
                          by_cases g : (ns.all isLab && srt ns) = true
                          · rw [if_pos g]
                            have ht : ¬ tailOk t = true := fun z => he (by
                              obtain ⟨g1, g2⟩ := Bool.and_eq_true_iff.mp g
                              show (ns.all isLab && (srt ns && tailOk t)) = true
                              rw [g1, g2, z]; rfl)
                            have : ¬ (pTail s1 t wBAG).1 = true := fun z => ht (tail_true z)
                            unfold andT
                            rw [if_neg this]
                            exact ⟨_, rfl⟩
                          · rw [if_neg g]; exact ⟨_, rfl⟩
                        | _ => exact ⟨_, rfl⟩
                      · exact ⟨_, rfl⟩
                    | _ => exact ⟨_, rfl⟩
                  obtain ⟨s', e0⟩ := e0
                  rw [e0]
                  exact Spec.no fun z => he (Bool.and_eq_true_iff.mp (Bool.and_eq_true_iff.mp z.1).2).1
              · exact Spec.no fun z => by cases z.1
            · unfold qWord shpW dW szW vaW
              simp only [if_pos a, if_neg b, if_neg c, if_neg d, if_neg e, if_neg (show ¬ ((w = wNUM ∨ w = wFLAG) ∧ rest = []) from fun z => b z.1)]
              rcases rest with _ | ⟨ps, _ | ⟨t, _ | ⟨z9, q9⟩⟩⟩
              · exact Spec.no fun z => by cases z.1
              · exact Spec.no fun z => by cases z.1
              · cases ps with
                | tup xs =>
                  show Spec s1 (andT (qLoop (qFine n (dp + 1)) s1 xs) fun s => if qLab xs = true then pTail s t wROW else (false, s)) ((xs.all okPair && (asc2 xs && (xs.all (fun x => shp n (snd0 x)) && tailOk t))) = true ∧ xs.all (fun x => dpOk n (61 - (dp + 1)) (snd0 x)) = true ∧ s.many + ((sumS n xs + 1 : Nat) : Int) ≤ 400) (xs.flatMap (fun x => va WQ n (snd0 x)) ++ vaT WQ 2 t)
                  have P := loop_spec ih im xs s1 c1 h43
                  refine (P.and (ok2 := asc2 xs = true ∧ tailOk t = true) (vs2 := vaT WQ 2 t) fun q => ?_).imp ⟨fun ⟨⟨z1, z2, z3, z4⟩, z5, z6⟩ => ?_, fun ⟨z1, z2, z3⟩ => ?_⟩ fun φ => Iff.rfl
                  · rw [lab_asc]
                    by_cases g : asc2 xs = true
                    · rw [if_pos g]
                      exact (tail_spec (P.con q) t WQ 2).imp ⟨fun z => ⟨g, z⟩, fun z => z.2⟩ fun _ => Iff.rfl
                    · rw [if_neg g]
                      exact Spec.no fun z => g z.1
                  · exact ⟨by rw [z1, z5, z2, z6]; rfl, z3, by omega⟩
                  · obtain ⟨z4, z5⟩ := Bool.and_eq_true_iff.mp z1
                    obtain ⟨z6, z7⟩ := Bool.and_eq_true_iff.mp z5
                    obtain ⟨z8, z9⟩ := Bool.and_eq_true_iff.mp z7
                    exact ⟨⟨z4, z8, z2, by omega⟩, z6, z9⟩
                | _ => exact Spec.no fun z => by cases z.1
              · exact Spec.no fun z => by cases z.1
            · unfold qWord shpW
              simp only [if_neg a, if_neg b, if_neg c, if_neg d, if_neg e, if_neg (show ¬ ((w = wNUM ∨ w = wFLAG) ∧ rest = []) from fun z => a z.1)]
              exact Spec.no fun z => by cases z.1
          | _ => exact Spec.no fun z => by cases z.1
      | _ => exact Spec.no fun z => by cases z.1
/-! ### both are one -/
def ren2 (a b : Nat → List Nat) (w : List Nat) : List Nat := if w = a 0 then b 0 else if w = a 1 then b 1 else b 2
theorem vaT_ren {a b : Nat → List Nat} (h : ∀ k, k < 3 → ren2 a b (a k) = b k) {φ : Int → List Nat} {k : Nat} (hk : k < 3) {t : Val} (s : Sat φ (vaT a k t)) : Sat (fun i => ren2 a b (φ i)) (vaT b k t) := by
  unfold vaT at s ⊢
  cases t with
  | int i => exact Sat.one.mpr (by rw [Sat.one.mp s]; exact h k hk)
  | _ => exact Sat.nil
theorem va_ren {a b : Nat → List Nat} (h : ∀ k, k < 3 → ren2 a b (a k) = b k) {φ : Int → List Nat} : ∀ (n : Nat) (v : Val), Sat φ (va a n v) → Sat (fun i => ren2 a b (φ i)) (va b n v)
  | 0, _, _ => Sat.nil
  | n + 1, v, s => by
    cases v with
    | tup xs =>
      cases xs with
      | nil => exact Sat.nil
      | cons x rest =>
        cases x with
        | str w =>
          have s : Sat φ (vaW a (va a n) w rest) := s
          show Sat _ (vaW b (va b n) w rest)
          unfold vaW at s ⊢
          by_cases c2 : w = wANY
          · rw [if_pos c2] at s ⊢
            rcases rest with _ | ⟨c0, _ | ⟨z9, q9⟩⟩
            · exact Sat.nil
            · exact vaT_ren h (by omega) s
            · exact Sat.nil
          · rw [if_neg c2] at s ⊢
            by_cases c3 : w = wLIST
            · rw [if_pos c3] at s ⊢
              rcases rest with _ | ⟨c0, _ | ⟨z9, q9⟩⟩
              · exact Sat.nil
              · exact va_ren h n c0 s
              · exact Sat.nil
            · rw [if_neg c3] at s ⊢
              by_cases c4 : w = wTO
              · rw [if_pos c4] at s ⊢
                rcases rest with _ | ⟨x, _ | ⟨ef, _ | ⟨y, _ | ⟨z9, q9⟩⟩⟩⟩
                · exact Sat.nil
                · exact Sat.nil
                · exact Sat.nil
                · have s : Sat φ (va a n x ++ (vaE a ef ++ va a n y)) := s
                  show Sat _ (va b n x ++ (vaE b ef ++ va b n y))
                  obtain ⟨s1, s2⟩ := Sat.app.mp s
                  obtain ⟨s2, s3⟩ := Sat.app.mp s2
                  refine Sat.app.mpr ⟨va_ren h n x s1, Sat.app.mpr ⟨?_, va_ren h n y s3⟩⟩
                  unfold vaE at s2 ⊢
                  cases ef with
                  | tup es =>
                    rcases es with _ | ⟨a0, _ | ⟨t, _ | ⟨z9, q9⟩⟩⟩
                    · exact Sat.nil
                    · exact Sat.nil
                    · exact vaT_ren h (by omega) s2
                    · exact Sat.nil
                  | _ => exact Sat.nil
                · exact Sat.nil
              · rw [if_neg c4] at s ⊢
                by_cases c5 : w = wROW
                · rw [if_pos c5] at s ⊢
                  rcases rest with _ | ⟨ps, _ | ⟨t, _ | ⟨z9, q9⟩⟩⟩
                  · exact Sat.nil
                  · exact Sat.nil
                  · cases ps with
                    | tup xs =>
                      have s : Sat φ (xs.flatMap (fun x => va a n (snd0 x)) ++ vaT a 2 t) := s
                      show Sat _ (xs.flatMap (fun x => va b n (snd0 x)) ++ vaT b 2 t)
                      obtain ⟨s1, s2⟩ := Sat.app.mp s
                      refine Sat.app.mpr ⟨fun q hq => ?_, vaT_ren h (by omega) s2⟩
                      obtain ⟨x, hx, hq⟩ := List.mem_flatMap.mp hq
                      exact va_ren h n (snd0 x) (fun q z => s1 q (List.mem_flatMap.mpr ⟨x, hx, z⟩)) q hq
                    | _ => exact Sat.nil
                  · exact Sat.nil
                · rw [if_neg c5]; exact Sat.nil
        | _ => exact Sat.nil
    | _ => exact Sat.nil
/-- a sort is a sort -/
theorem sort_fine (v : Val) : (pSort 61 ⟨[], 0, 0⟩ v).1 = (qFine 61 1 ⟨[], 0, 0⟩ v).1 := by
  have c0 : Con ⟨[], 0, 0⟩ := ⟨fun _ => [], Sat.nil⟩
  have A := sort_spec 61 ⟨[], 0, 0⟩ v c0
  have B := fine_spec 61 1 ⟨[], 0, 0⟩ v c0
  have hPQ : ∀ k, k < 3 → ren2 WP WQ (WP k) = WQ k := by intro k hk; match k, hk with | 0, _ => rfl | 1, _ => rfl | 2, _ => rfl
  have hQP : ∀ k, k < 3 → ren2 WQ WP (WQ k) = WP k := by intro k hk; match k, hk with | 0, _ => rfl | 1, _ => rfl | 2, _ => rfl
  by_cases h : (pSort 61 ⟨[], 0, 0⟩ v).1 = true
  · obtain ⟨a1, a2, φ, a3⟩ := A.t h
    have := B.f a1 ⟨_, Sat.nil, va_ren hPQ 61 v ((a2 φ).mp a3).2⟩
    rw [h, this]
  · have h2 : ¬ (qFine 61 1 ⟨[], 0, 0⟩ v).1 = true := fun q => by
      obtain ⟨a1, a2, φ, a3⟩ := B.t q
      exact h (A.f a1 ⟨_, Sat.nil, va_ren hQP 61 v ((a2 φ).mp a3).2⟩)
    rw [show (pSort 61 ⟨[], 0, 0⟩ v).1 = false by simpa using h, show (qFine 61 1 ⟨[], 0, 0⟩ v).1 = false by simpa using h2]
end K02
set_option linter.all false
set_option maxHeartbeats 4000000
/-! PE3: few variables. -/
namespace K02
open MP
theorem loop_len {n : Nat} {rec : KSt → Val → Bool × KSt} (hm : ∀ s v, (rec s v).1 = true → (rec s v).2.l.length ≤ s.l.length + sz n v) : ∀ (xs : List Val) (s : KSt), (qLoop rec s xs).1 = true → (qLoop rec s xs).2.l.length ≤ s.l.length + sumS n xs
  | [], s, _ => by simp [qLoop, sumS]
  | x :: r, s, h => by
    have es : sumS n (x :: r) = sz n (snd0 x) + sumS n r := by simp [sumS]
    have h : (if okPair x = true then andT (rec s (snd0 x)) fun s => qLoop rec s r else (false, s)).1 = true := h
    show (if okPair x = true then andT (rec s (snd0 x)) fun s => qLoop rec s r else (false, s)).2.l.length ≤ _
    by_cases ho : okPair x = true
    · rw [if_pos ho] at h ⊢
      unfold andT at h ⊢
      by_cases q : (rec s (snd0 x)).1 = true
      · rw [if_pos q] at h ⊢
        have h1 := loop_len hm r (rec s (snd0 x)).2 h
        have h2 := hm s _ q
        rw [es]
        show (qLoop rec (rec s (snd0 x)).2 r).2.l.length ≤ _
        omega
      · rw [if_neg q] at h; cases h
    · rw [if_neg ho] at h; cases h
theorem fine_len : ∀ (n : Nat) (dp : Int) (s : KSt) (v : Val), (qFine n dp s v).1 = true → (qFine n dp s v).2.l.length ≤ s.l.length + sz n v
  | 0, dp, s, v, h => by cases h
  | n + 1, dp, s, v, h => by
    unfold qFine at h ⊢
    by_cases h4 : 400 < s.many + 1 ∨ 60 < dp
    · rw [if_pos h4] at h; cases h
    · rw [if_neg h4] at h ⊢
      cases v with
      | tup xs =>
        cases xs with
        | nil => cases h
        | cons x rest =>
          cases x with
          | str w =>
            obtain ⟨s1, es1⟩ : ∃ s1 : KSt, s1 = { s with many := s.many + 1 } := ⟨_, rfl⟩
            have h : (qWord (qFine n (dp + 1)) { s with many := s.many + 1 } w rest).1 = true := h
            show (qWord (qFine n (dp + 1)) { s with many := s.many + 1 } w rest).2.l.length ≤ s.l.length + szW (sz n) w rest
            rw [← es1] at h ⊢
            have m1 : s1.l = s.l := by rw [es1]
            clear es1
            have ih := fine_len n (dp + 1)
            refine word_cases (w := w) (fun a b c d e => ?_) (fun a b c d e => ?_) (fun a b c d e => ?_) (fun a b c d e => ?_) (fun a b c d e => ?_) (fun a b c d e => ?_)
            · unfold qWord at h ⊢
              rw [if_pos a] at h ⊢
              have hr : rest = [] := of_decide_eq_true h
              unfold szW
              rw [if_pos ⟨a, hr⟩]
              show s1.l.length ≤ _
              rw [m1]
              omega
            · unfold qWord at h ⊢
              unfold szW
              simp only [if_pos a, if_neg b, if_neg c, if_neg d, if_neg e, if_neg (show ¬ ((w = wNUM ∨ w = wFLAG) ∧ rest = []) from fun z => b z.1)] at h ⊢
              rcases rest with _ | ⟨c0, _ | ⟨z9, q9⟩⟩
              · cases h
              · show (pTakes s1 c0 wANY).2.l.length ≤ s.l.length + 1
                have := (takes_sml s1 c0 wANY).len
                rw [m1] at this
                exact this
              · cases h
            · unfold qWord at h ⊢
              unfold szW
              simp only [if_pos a, if_neg b, if_neg c, if_neg d, if_neg e, if_neg (show ¬ ((w = wNUM ∨ w = wFLAG) ∧ rest = []) from fun z => b z.1)] at h ⊢
              rcases rest with _ | ⟨x, _ | ⟨z9, q9⟩⟩
              · cases h
              · show (qFine n (dp + 1) s1 x).2.l.length ≤ s.l.length + (sz n x + 1)
                have := ih s1 x h
                rw [m1] at this
                omega
              · cases h
            · unfold qWord at h ⊢
              unfold szW
              simp only [if_pos a, if_neg b, if_neg c, if_neg d, if_neg e, if_neg (show ¬ ((w = wNUM ∨ w = wFLAG) ∧ rest = []) from fun z => b z.1)] at h ⊢
              rcases rest with _ | ⟨x, _ | ⟨ef, _ | ⟨y, _ | ⟨z9, q9⟩⟩⟩⟩
              · cases h
              · cases h
              · cases h
              · have h : (qTo (qFine n (dp + 1)) s1 x ef y).1 = true := h
                show (qTo (qFine n (dp + 1)) s1 x ef y).2.l.length ≤ s.l.length + (sz n x + sz n y + 1)
                unfold qTo at h ⊢
                cases ef with
                | tup es =>
                  rcases es with _ | ⟨a0, _ | ⟨t, _ | ⟨z9, q9⟩⟩⟩
                  · cases h
                  · cases h
                  · have h : (qTo2 (qFine n (dp + 1)) s1 x a0 t y).1 = true := h
                    show (qTo2 (qFine n (dp + 1)) s1 x a0 t y).2.l.length ≤ _
                    unfold qTo2 at h ⊢
                    cases a0 with
                    | tup ns =>
                      simp only at h ⊢
                      by_cases g : (ns.all isLab && srt ns) = true
                      · rw [if_pos g] at h ⊢
                        unfold andT at h ⊢
                        by_cases q1 : (pTail s1 t wBAG).1 = true
                        · rw [if_pos q1] at h ⊢
                          have h : (if (qFine n (dp + 1) (pTail s1 t wBAG).2 x).1 = true then qFine n (dp + 1) (qFine n (dp + 1) (pTail s1 t wBAG).2 x).2 y else (false, (qFine n (dp + 1) (pTail s1 t wBAG).2 x).2)).1 = true := h
                          show (if (qFine n (dp + 1) (pTail s1 t wBAG).2 x).1 = true then qFine n (dp + 1) (qFine n (dp + 1) (pTail s1 t wBAG).2 x).2 y else (false, (qFine n (dp + 1) (pTail s1 t wBAG).2 x).2)).2.l.length ≤ _
                          by_cases q2 : (qFine n (dp + 1) (pTail s1 t wBAG).2 x).1 = true
                          · rw [if_pos q2] at h ⊢
                            have h1 := ih _ y h
                            have h2 := ih _ x q2
                            have h3 := (tail_sml s1 t wBAG).len
                            rw [m1] at h3
                            omega
                          · rw [if_neg q2] at h; cases h
                        · rw [if_neg q1] at h; cases h
                      · rw [if_neg g] at h; cases h
                    | _ => cases h
                  · cases h
                | _ => cases h
              · cases h
            · unfold qWord at h ⊢
              unfold szW
              simp only [if_pos a, if_neg b, if_neg c, if_neg d, if_neg e, if_neg (show ¬ ((w = wNUM ∨ w = wFLAG) ∧ rest = []) from fun z => b z.1)] at h ⊢
              rcases rest with _ | ⟨ps, _ | ⟨t, _ | ⟨z9, q9⟩⟩⟩
              · cases h
              · cases h
              · cases ps with
                | tup xs =>
                  have h : (andT (qLoop (qFine n (dp + 1)) s1 xs) fun s => if qLab xs then pTail s t wROW else (false, s)).1 = true := h
                  show (andT (qLoop (qFine n (dp + 1)) s1 xs) fun s => if qLab xs then pTail s t wROW else (false, s)).2.l.length ≤ s.l.length + (sumS n xs + 1)
                  unfold andT at h ⊢
                  by_cases q1 : (qLoop (qFine n (dp + 1)) s1 xs).1 = true
                  · rw [if_pos q1] at h ⊢
                    have h : (if qLab xs = true then pTail (qLoop (qFine n (dp + 1)) s1 xs).2 t wROW else (false, (qLoop (qFine n (dp + 1)) s1 xs).2)).1 = true := h
                    show (if qLab xs = true then pTail (qLoop (qFine n (dp + 1)) s1 xs).2 t wROW else (false, (qLoop (qFine n (dp + 1)) s1 xs).2)).2.l.length ≤ _
                    by_cases q2 : qLab xs = true
                    · rw [if_pos q2] at h ⊢
                      have h1 := (tail_sml (qLoop (qFine n (dp + 1)) s1 xs).2 t wROW).len
                      have h2 := loop_len ih xs s1 q1
                      rw [m1] at h2
                      omega
                    · rw [if_neg q2] at h; cases h
                  · rw [if_neg q1] at h; cases h
                | _ => cases h
              · cases h
            · unfold qWord at h
              simp only [if_neg a, if_neg b, if_neg c, if_neg d, if_neg e] at h
              cases h
          | _ => cases h
      | _ => cases h
end K02
set_option Elab.async false
set_option linter.all false
set_option maxRecDepth 100000
set_option maxHeartbeats 4000000
/-! PK8: the law's own look. -/
namespace K02
open MP Snd PL
theorem name_fine_ok (n : Nat) {m : M} {d : Nat} {v : Val} (hf : Full m.t m.n) (hp : Pl m d v = true) : ∃ m', (cx (n + 1)).call 21 [v] m = .ok (.bool (isLab v)) m' ∧ Gr m m' [] := by
  cases d with
  | zero => cases hp
  | succ d =>
    show ∃ m', runFn f21 (cx n) [v] m = _ ∧ _
    rw [run_fn _ _ _ _ rfl]
    show ∃ m', endOf (block (cx n) [.asg (.loc 1) (.cst (.str LET)), .ret (.and (.isi (.loc 0) [.str]) (.and (.chain .le .le (.cst (.int 1)) (.bLen (.loc 0)) (.cst (.int 8))) (.bAll (.lc (.loc 2) (.val (.loc 0)) [2] none (.cmp .isin (.loc 2) (.loc 1))))))] [v, .und, .und] m) = _ ∧ _
    rw [bl_asg, e_cst, b_ok, t_loc, b_ok]
    show ∃ m', endOf (block (cx n) _ [v, .str LET, .und] m) = _ ∧ _
    rw [bl_ret, e_and]
    cases v with
    | str s =>
      have hs : s.length ≤ 1000 := Nat.le_of_ble_eq_true hp
      have hlen : E.bLen (.loc 0) (cx n) [.str s, .str LET, .und] m = .ok (.int s.length) m := by
        rw [e_len, e_loc _ _ _ _ _ rfl (by simp), b_ok]
        show fits s _ = _
        unfold fits
        rw [show Nat.ble s.length SIZE = true from Nat.ble_eq_true_of_le (by unfold SIZE; omega)]
        rfl
      have hisi : E.isi (.loc 0) [.str] (cx n) [.str s, .str LET, .und] m = .ok (.bool true) m := rfl
      rw [hisi, b_ok, t_b, if_pos rfl, e_and, e_chain _ _ _ _ _ _ _ _ _ _ _ (e_cst _ _ _ _) hlen (le_int _ _ _)]
      by_cases h1 : (1 : Int) ≤ s.length
      · rw [if_pos (decide_eq_true h1), e_cst, b_ok, le_int, tri_b, b_ok, t_b]
        by_cases h2 : (s.length : Int) ≤ 8
        · rw [if_pos (decide_eq_true h2)]
          obtain ⟨m', e1, g⟩ := allin (f := cx n) (σ := [.str s, .str LET, .und]) (m := m) (i := 2) (a := 0) (c := .loc 1) (s := s) (T := LET) hf hs rfl (by simp) (fun x => rfl)
          refine ⟨m', ?_, g⟩
          rw [e1, b_ok, o_ret]
          show _ = R.ok (Val.bool (labS s)) m'
          unfold labS
          rw [decide_eq_true (show 1 ≤ s.length by omega), decide_eq_true (show s.length ≤ 8 by omega)]
          rfl
        · rw [if_neg (by simpa using h2)]
          refine ⟨m, ?_, Gr.refl hf⟩
          show R.ok (Val.bool false) m = R.ok (Val.bool (labS s)) m
          unfold labS
          rw [decide_eq_false (show ¬ s.length ≤ 8 by omega)]
          simp
      · rw [if_neg (by simpa using h1)]
        refine ⟨m, ?_, Gr.refl hf⟩
        show R.ok (Val.bool false) m = R.ok (Val.bool (labS s)) m
        unfold labS
        rw [decide_eq_false (show ¬ 1 ≤ s.length by omega)]
        simp
    | none => exact ⟨m, rfl, Gr.refl hf⟩
    | bool b => exact ⟨m, rfl, Gr.refl hf⟩
    | int i => exact ⟨m, rfl, Gr.refl hf⟩
    | tup xs => exact ⟨m, rfl, Gr.refl hf⟩
    | ref a =>
      have h : (match lstAt m a with | some xs => xs.all (Pl m d) | none => false) = true := hp
      cases e : lstAt m a with
      | none => rw [e] at h; cases h
      | some xs =>
        refine ⟨m, ?_, Gr.refl hf⟩
        have hisi : E.isi (.loc 0) [.str] (cx n) [.ref a, .str LET, .und] m = .ok (.bool false) m := by
          show opt 47 (hasTys prog.classes m (.ref a) [.str]) _ = _
          simp [hasTys, hasTy, isBlt, tyN, tyRef, e, TyN.is, opt]
        rw [hisi]
        rfl
    | _ => cases hp
def kvQ (s : KSt) : List (Val × Val) := (.str wPARTS, .int s.many) :: kvV s.l
def QS (m : M) (d : Nat) (s : KSt) : Prop := m.t.get d = some (.dct (kvQ s))
def Q0 (m : M) (d : Nat) (s : KSt) : Prop := QS m d s ∨ (m.t.get d = some (.dct []) ∧ s.l = [] ∧ s.many = 0)
theorem kvQ_len (s : KSt) : (kvQ s).length = s.l.length + 1 := by unfold kvQ kvV; simp
theorem lookK_kvQ (i : Int) (s : KSt) : lookK (.int i) (kvQ s) = (s.l.lookup i).map .str := lookK_kvV i s.l
theorem putK_kvQ {i : Int} {w : List Nat} {s : KSt} (h : s.l.lookup i = none) : putK (.int i) (.str w) (kvQ s) = kvQ { s with l := s.l ++ [(i, w)] } := by
  unfold putK
  rw [lookK_kvQ, h]
  show kvQ s ++ _ = _
  unfold kvQ kvV
  rw [List.map_append]
  rfl
theorem setdefQ_some {m : M} {d : Nat} {s : KSt} {i : Int} {y : Val} {x : List Nat} (hd : QS m d s) (hl : s.l.length < 1000000) (h : s.l.lookup i = some x) : E.setdef (.ref d) (.int i) y m = .ok (.str x) m := by
  unfold E.setdef dctW
  unfold QS at hd
  simp only [hd]
  rw [show Nat.blt (kvQ s).length SIZE = true from Nat.ble_eq_true_of_le (by show (kvQ s).length + 1 ≤ _; rw [kvQ_len]; unfold SIZE; omega)]
  simp only [look, isKey, opt, lookK_kvQ, h, Option.map_some]
theorem setdefQ_none {m : M} {d : Nat} {s : KSt} {i : Int} {w : List Nat} (hd : QS m d s) (hl : s.l.length < 1000000) (h : s.l.lookup i = none) : E.setdef (.ref d) (.int i) (.str w) m = .ok (.str w) (putObj m d (.dct (kvQ { s with l := s.l ++ [(i, w)] }))) := by
  unfold E.setdef dctW
  unfold QS at hd
  simp only [hd]
  rw [show Nat.blt (kvQ s).length SIZE = true from Nat.ble_eq_true_of_le (by show (kvQ s).length + 1 ≤ _; rw [kvQ_len]; unfold SIZE; omega)]
  simp only [look, isKey, opt, lookK_kvQ, h, Option.map_none, putK_kvQ h]
theorem QS.ls {m m' : M} {d : Nat} {s : KSt} (h : QS m d s) (hf : Full m.t m.n) (g : Gr m m' [d]) : Ls m m' := DC.ls h hf g
theorem cnt_fine_ok (n : Nat) {m : M} {d D : Nat} {s : KSt} {v : Val} {w : List Nat} (hf : Full m.t m.n) (hk : QS m d s) (hp : Pl m D v = true) (hl : s.l.length < 1000000) :
    ∃ m', (cx (n + 1)).call 22 [.ref d, v, .str w] m = .ok (.bool (pTakes s v w).1) m' ∧ QS m' d (pTakes s v w).2 ∧ Gr m m' [d] := by
  have hu : v ≠ .und := Pl.nu hp
  cases D with
  | zero => cases hp
  | succ D =>
  show ∃ m', runFn f22 (cx n) [.ref d, v, .str w] m = _ ∧ _
  rw [run_fn _ _ _ _ rfl]
  unfold f22
  simp only
  show ∃ m', endOf (block (cx n) _ [.ref d, v, .str w] m) = _ ∧ _
  rw [bl_ite, e_or]
  cases v with
  | int i =>
    have h1 : E.isi (.loc 1) [.int] (cx n) [.ref d, .int i, .str w] m = .ok (.bool true) m := rfl
    have h2 : E.isi (.loc 1) [.bool] (cx n) [.ref d, .int i, .str w] m = .ok (.bool false) m := rfl
    have lc : ∀ m, E.loc 1 (cx n) [.ref d, .int i, .str w] m = .ok (.int i) m := fun m => rfl
    have ho : E.loc 0 (cx n) [.ref d, .int i, .str w] m = .ok (.ref d) m := rfl
    have l2 : ∀ m, E.loc 2 (cx n) [.ref d, .int i, .str w] m = .ok (.str w) m := fun m => rfl
    show ∃ m', _ = R.ok (Val.bool (if inCnt i then _ else _ : Bool × KSt).1) m' ∧ QS m' d (if inCnt i then _ else _ : Bool × KSt).2 ∧ _
    have ch : E.chain .le .le (.cst (.int 0)) (.loc 1) (.cst (.int 9999)) (cx n) [.ref d, .int i, .str w] m = .ok (.bool (inCnt i)) m := by
      rw [e_chain _ _ _ _ _ _ _ _ _ _ _ (e_cst _ _ _ _) (lc m) (le_int _ _ _), e_cst, b_ok, le_int, tri_b]
      unfold inCnt
      by_cases h : (0 : Int) ≤ i
      · rw [if_pos (decide_eq_true h), decide_eq_true h]; rfl
      · rw [if_neg (by simpa using h), decide_eq_false h]; rfl
    rw [h2, b_ok, t_b, if_neg Bool.false_ne_true, e_or, e_not, h1, b_ok, t_b, b_ok, t_b, Bool.not_true, if_neg Bool.false_ne_true, e_not, ch, b_ok, t_b, b_ok, t_b]
    by_cases hc : inCnt i = true
    · rw [hc, Bool.not_true, if_neg Bool.false_ne_true, if_pos rfl, bl_nil, go_next, bl_ret, e_cmp, e_setdef _ _ _ _ _ _ ho (lc m) (l2 m) hk]
      cases hlk : s.l.lookup i with
      | some x =>
        rw [setdefQ_some hk hl hlk, b_ok, l2, b_ok, eq_str, tri_b, b_ok, o_ret]
        refine ⟨m, ?_, hk, Gr.refl hf⟩
        show _ = R.ok (Val.bool (strEq x w)) m
        rw [strEq_eq]
      | none =>
        rw [setdefQ_none hk hl hlk, b_ok, l2, b_ok, eq_str, tri_b, b_ok, o_ret]
        have hd := get_lt hf hk
        refine ⟨putObj m d (.dct (kvQ { s with l := s.l ++ [(i, w)] })), ?_, ?_, Gr.put hf hd _⟩
        · rw [decide_eq_true rfl]
        · show (putObj m d _).t.get d = _
          rw [put_get hf hd, if_pos rfl]
    · rw [show inCnt i = false by simpa using hc, Bool.not_false, if_pos rfl, if_neg Bool.false_ne_true]
      exact ⟨m, rfl, hk, Gr.refl hf⟩
  | none => exact ⟨m, rfl, hk, Gr.refl hf⟩
  | bool b => exact ⟨m, rfl, hk, Gr.refl hf⟩
  | str i => exact ⟨m, rfl, hk, Gr.refl hf⟩
  | tup xs => exact ⟨m, rfl, hk, Gr.refl hf⟩
  | ref a =>
    have h : (match lstAt m a with | some xs => xs.all (Pl m D) | none => false) = true := hp
    cases e : lstAt m a with
    | none => rw [e] at h; cases h
    | some xs =>
      have h2 : E.isi (.loc 1) [.bool] (cx n) [.ref d, .ref a, .str w] m = .ok (.bool false) m := by
        show opt 47 (hasTys prog.classes m (.ref a) [.bool]) _ = _
        simp [hasTys, hasTy, isBlt, tyN, tyRef, e, TyN.is, opt]
      have h1 : E.isi (.loc 1) [.int] (cx n) [.ref d, .ref a, .str w] m = .ok (.bool false) m := by
        show opt 47 (hasTys prog.classes m (.ref a) [.int]) _ = _
        simp [hasTys, hasTy, isBlt, tyN, tyRef, e, TyN.is, opt]
      rw [h2, b_ok, t_b, if_neg Bool.false_ne_true, e_or, e_not, h1]
      exact ⟨m, rfl, hk, Gr.refl hf⟩
  | _ => cases hp
/-- a word among two -/
theorem in_words (w a b : List Nat) (m : M) : cmpop .isin m (.str w) (.tup [.str a, .str b]) = .ofB (decide (w = a ∨ w = b)) := by
  show (match Tri.ofB (strEq a w) with | .yes => Tri.yes | .no => (match Tri.ofB (strEq b w) with | .yes => .yes | .no => .no | .odd => .odd) | .odd => .odd) = _
  rw [strEq_eq, strEq_eq]
  by_cases h1 : a = w
  · simp [h1, Tri.ofB]
  · by_cases h2 : b = w
    · simp [h1, h2, Tri.ofB]
    · have e1 : ¬ w = a := fun z => h1 z.symm
      have e2 : ¬ w = b := fun z => h2 z.symm
      simp [h1, h2, e1, e2, Tri.ofB]
/-- list(t) != sorted(t) -/
theorem srt_ok2 {f : Cx} {σ : List Val} {m : M} {e e2 : E} {ns : List Val} {l : List (List Nat)} (hf : Full m.t m.n) (he : e f σ m = .ok (.tup ns) m) (he2 : ∀ m', e2 f σ m' = .ok (.tup ns) m') (hl : MP.txts ns = some l) (hlen : ns.length < 64) :
    ∃ m', E.cmp .ne (.bList e) (.bSortedS e2) f σ m = .ok (.bool (!srt ns)) m' ∧ Gr m m' [] := by
  have hb : Nat.blt l.length 64 = true := by
    rw [strs_of hl, strsV_len] at hlen
    exact Nat.ble_eq_true_of_le hlen
  have g1 := Gr.allo (S := []) hf (.lst ns)
  have g2 := Gr.allo (S := []) g1.wf (.lst (E.strsV (sortS l)))
  have h2 : E.bSortedS e2 f σ (allo m (.lst ns)) = .ok (.ref (m.n + 1)) (allo (allo m (.lst ns)) (.lst (E.strsV (sortS l)))) := by
    show (e2 f σ _).bind E.sortedV = _
    rw [he2, b_ok]
    show opt 56 (some ns) _ = _
    rw [op_some, hl, op_some, hb]
    rfl
  refine ⟨_, ?_, g1.tr g2⟩
  rw [e_cmp]
  show ((e f σ _).bind _).bind _ = _
  rw [he, b_ok]
  show (opt 52 (some ns) _).bind _ = _
  rw [op_some, mkObj_eq, b_ok, h2, b_ok]
  show tri (eqv (allo (allo m (.lst ns)) (.lst (E.strsV (sortS l)))) (.ref m.n) (.ref (m.n + 1))).neg _ = _
  have q1 : lstAt (allo (allo m (.lst ns)) (.lst (E.strsV (sortS l)))) m.n = some (E.strsV l) := by
    rw [lstAt_of_get (g2.same m.n (Nat.lt_succ_self _) (by simp)), ← strs_of hl]
    exact lst_allo hf _
  have q2 : lstAt (allo (allo m (.lst ns)) (.lst (E.strsV (sortS l)))) (m.n + 1) = some (E.strsV (sortS l)) := lst_allo g1.wf _
  rw [eqv_strs q1 q2, neg_b, tri_b]
  have : srt ns = decide (l = sortS l) := by
    unfold srt
    rw [hl]
  rw [this]
/-- a list of texts != sorted(set(it)) -/
theorem lab_ok {f : Cx} {σ : List Val} {m : M} {i a : Nat} {l : List (List Nat)} (hf : Full m.t m.n) (hi : nth σ i = some (.ref a)) (ha : lstAt m a = some (E.strsV l)) (hlen : l.length < 64) :
    ∃ m', E.cmp .ne (.loc i) (.bSortedSet (.loc i)) f σ m = .ok (.bool (!decide (l = sortS (E.dedupS l)))) m' ∧ Gr m m' [] := by
  have ll : ∀ m, E.loc i f σ m = .ok (.ref a) m := fun m => e_loc _ _ _ _ _ hi (by simp)
  have g1 := Gr.allo (S := []) hf (.lst (E.strsV (sortS (E.dedupS l))))
  have st : ∀ l : List (List Nat), MP.txts (E.strsV l) = some l := by
    intro l
    induction l with
    | nil => rfl
    | cons x r ih => show (match MP.txts (E.strsV r) with | some l => some (x :: l) | .none => .none) = _; rw [ih]
  refine ⟨_, ?_, g1⟩
  rw [e_cmp, ll, b_ok]
  show ((E.loc i f σ m).bind E.sortedSetV).bind _ = _
  rw [ll, b_ok]
  show (opt 57 (lstAt m a) _).bind _ = _
  rw [ha, op_some, st, op_some, show Nat.blt l.length 64 = true from Nat.ble_eq_true_of_le hlen]
  show (mkObj m _).bind _ = _
  rw [mkObj_eq, b_ok]
  show tri (eqv (allo m (.lst (E.strsV (sortS (E.dedupS l))))) (.ref a) (.ref m.n)).neg _ = _
  rw [eqv_strs (m := allo m (.lst (E.strsV (sortS (E.dedupS l))))) (g1.ls hf (by simp) a _ ha) (lst_allo hf _), neg_b, tri_b]
/-- the parts, one more -/
theorem part_up {f : Cx} {σ : List Val} {m : M} {d : Nat} {s : KSt} {r : List S} (hf : Full m.t m.n) (hq : Q0 m d s) (h0 : nth σ 0 = some (.ref d)) (hl : s.l.length < 1000000) :
    ∃ m', block f (.asg (.idx (.loc 0) (.cst (.str [112,97,114,116,115]))) (.bin .add (.mGet2 (.loc 0) (.cst (.str [112,97,114,116,115])) (.cst (.int 0))) (.cst (.int 1))) :: r) σ m = block f r σ m' ∧ QS m' d { s with many := s.many + 1 } ∧ Gr m m' [d] := by
  have ll : ∀ m, E.loc 0 f σ m = .ok (.ref d) m := fun m => e_loc _ _ _ _ _ h0 (by simp)
  have key : ∃ kvs, m.t.get d = some (.dct kvs) ∧ kvs.length < 1000002 ∧ (match lookK (.str wPARTS) kvs with | some v => v | none => .int 0) = .int s.many ∧ putK (.str wPARTS) (.int (s.many + 1)) kvs = kvQ { s with many := s.many + 1 } := by
    rcases hq with hq | ⟨h1, h2, h3⟩
    · refine ⟨_, hq, by rw [kvQ_len]; omega, rfl, ?_⟩
      have : mapK (.str wPARTS) (.int (s.many + 1)) (kvV s.l) = kvV s.l := by
        generalize s.l = l
        induction l with
        | nil => rfl
        | cons x r ih =>
          show (Val.int x.1, Val.str x.2) :: mapK (.str wPARTS) (.int (s.many + 1)) (kvV r) = _
          rw [ih]
          rfl
      show (Val.str wPARTS, Val.int (s.many + 1)) :: mapK (.str wPARTS) (.int (s.many + 1)) (kvV s.l) = _
      rw [this]
      rfl
    · refine ⟨[], h1, by simp, by rw [h3]; rfl, ?_⟩
      show [(Val.str wPARTS, Val.int (s.many + 1))] = _
      unfold kvQ
      rw [h2]
      rfl
  obtain ⟨kvs, k1, k2, k3, k4⟩ := key
  have hd := get_lt hf k1
  refine ⟨putObj m d (.dct (kvQ { s with many := s.many + 1 })), ?_, by show (putObj m d _).t.get d = _; rw [put_get hf hd, if_pos rfl], Gr.put hf hd _⟩
  have hg : E.mGet2 (.loc 0) (.cst (.str [112,97,114,116,115])) (.cst (.int 0)) f σ m = .ok (.int s.many) m := by
    show (E.loc 0 f σ m).bind _ = _
    rw [ll, b_ok]
    have : E.isD m (.ref d) = true := by
      show isSome (dctAt m d) = true
      unfold dctAt; rw [k1]; rfl
    simp only [this, e_cst, b_ok]
    show dctR m (.ref d) _ = _
    unfold dctR dctAt
    simp only [k1]
    show opt 70 (some (lookK (.str wPARTS) kvs)) _ = _
    rw [op_some]
    cases q : lookK (.str wPARTS) kvs with
    | some v => rw [q] at k3; simp only at k3 ⊢; rw [k3]
    | none => rw [q] at k3; simp only at k3 ⊢; rw [k3]
  rw [bl_asg, e_bin, hg, b_ok, e_cst, b_ok, show binop .add (.int s.many) (.int 1) m = .ok (.int (s.many + 1)) m from rfl, b_ok]
  have : Tg.idx (.loc 0) (.cst (.str [112,97,114,116,115])) f (.int (s.many + 1)) σ m = .ok σ (putObj m d (.dct (kvQ { s with many := s.many + 1 }))) := by
    show (E.loc 0 f σ m).bind _ = _
    rw [ll, b_ok, e_cst, b_ok]
    show Tg.idxP m d (.str wPARTS) (.int (s.many + 1)) σ = _
    unfold Tg.idxP
    simp only [k1]
    show opt2 97 (dput m (.str wPARTS) (.int (s.many + 1)) kvs) _ = _
    unfold dput
    rw [show Nat.blt kvs.length SIZE = true from Nat.ble_eq_true_of_le (by unfold SIZE; omega), show isKey (.str wPARTS) = true from rfl]
    simp only [k4, opt2]
  rw [this, b_ok]
end K02
set_option Elab.async false
set_option linter.all false
set_option maxRecDepth 100000
set_option maxHeartbeats 4000000
/-! PK9: the law's own look, by its depth. -/
namespace K02
open MP Snd PL
theorem qLoop_snoc (rec : KSt → Val → Bool × KSt) (x : Val) : ∀ (xs : List Val) (s : KSt), qLoop rec s (xs ++ [x]) = andT (qLoop rec s xs) fun s => if okPair x then andT (rec s (snd0 x)) fun s => (true, s) else (false, s)
  | [], s => rfl
  | y :: r, s => by
    show (if okPair y = true then andT (rec s (snd0 y)) fun s => qLoop rec s (r ++ [x]) else (false, s)) = andT (if okPair y = true then andT (rec s (snd0 y)) fun s => qLoop rec s r else (false, s)) _
    by_cases h : okPair y = true
    · rw [if_pos h, if_pos h]
      unfold andT
      by_cases q : (rec s (snd0 y)).1 = true
      · rw [if_pos q, if_pos q]
        exact qLoop_snoc rec x r _
      · rw [if_neg q, if_neg q]
        rfl
    · rw [if_neg h, if_neg h]
      rfl
theorem qLoop_true {rec : KSt → Val → Bool × KSt} : ∀ {xs : List Val} {s : KSt}, (qLoop rec s xs).1 = true → xs.all okPair = true
  | [], s, _ => rfl
  | x :: r, s, h => by
    have h : (if okPair x = true then andT (rec s (snd0 x)) fun s => qLoop rec s r else (false, s)).1 = true := h
    by_cases ho : okPair x = true
    · rw [if_pos ho] at h
      unfold andT at h
      by_cases q : (rec s (snd0 x)).1 = true
      · rw [if_pos q] at h
        show (okPair x && r.all okPair) = true
        rw [ho, qLoop_true h]
        rfl
      · rw [if_neg q] at h; cases h
    · rw [if_neg ho] at h; cases h
/-- a false look at some of the first makes the whole false -/
theorem qLoop_false {rec : KSt → Val → Bool × KSt} : ∀ {xs ys : List Val} {s : KSt}, (qLoop rec s xs).1 = false → (qLoop rec s (xs ++ ys)).1 = false
  | [], ys, s, h => by cases h
  | x :: r, ys, s, h => by
    have h : (if okPair x = true then andT (rec s (snd0 x)) fun s => qLoop rec s r else (false, s)).1 = false := h
    show (if okPair x = true then andT (rec s (snd0 x)) fun s => qLoop rec s (r ++ ys) else (false, s)).1 = false
    by_cases ho : okPair x = true
    · rw [if_pos ho] at h ⊢
      unfold andT at h ⊢
      by_cases q : (rec s (snd0 x)).1 = true
      · rw [if_pos q] at h ⊢
        exact qLoop_false h
      · rw [if_neg q]
    · rw [if_neg ho]
theorem andT_t {r : Bool × KSt} {k : KSt → Bool × KSt} (h : r.1 = true) : andT r k = k r.2 := by unfold andT; rw [if_pos h]
theorem andT_f {r : Bool × KSt} {k : KSt → Bool × KSt} (h : ¬ r.1 = true) : andT r k = (false, r.2) := by unfold andT; rw [if_neg h]
def FineW (n N : Nat) : Prop := ∀ (m : M) (d D : Nat) (dp : Int) (s : KSt) (v : Val), Full m.t m.n → Q0 m d s → Pl m D v = true → D ≤ 100 → 61 ≤ (n : Int) + dp → (s.l.length : Int) ≤ s.many → s.many ≤ 400 →
  ∃ m', (cx N).call 23 [.ref d, v, .int dp] m = .ok (.bool (qFine n dp s v).1) m' ∧ ((qFine n dp s v).1 = true → QS m' d (qFine n dp s v).2 ∧ (qFine n dp s v).2.many ≤ 400) ∧ Gr m m' [d]
theorem idxQ {m : M} {d : Nat} {s : KSt} (h : QS m d s) : item (.ref d) (.str [112,97,114,116,115]) m = .ok (.int s.many) m := by
  unfold item lstAt dctAt
  unfold QS at h
  simp only [h]
  rfl
/-- no pair -/
theorem pairN_ok {n : Nat} {m : M} {D : Nat} {x : Val} {σ : List Val} {i : Nat} (hf : Full m.t m.n) (hp : Pl m D x = true) (hx : nth σ i = some x) :
    ∃ m', E.or (.not (.isi (.loc i) [.tup])) (.or (.cmp .ne (.bLen (.loc i)) (.cst (.int 2))) (.not (.call 21 [(.idx (.loc i) (.cst (.int 0)))]))) (cx (n + 1)) σ m = .ok (.bool (!okPair x)) m' ∧ Gr m m' [] := by
  have hloc : ∀ m, E.loc i (cx (n + 1)) σ m = .ok x m := fun m => e_loc _ _ _ _ _ hx (Pl.nu hp)
  rw [e_or, e_not, isi_tup hp (hloc m), b_ok, t_b, b_ok, t_b]
  cases D with
  | zero => cases hp
  | succ D =>
  cases x with
  | tup xs =>
    obtain ⟨px, hlen⟩ := Pl.tup hp
    rw [show (!isTup (.tup xs)) = false from rfl, if_neg Bool.false_ne_true, e_or, e_cmp, len_ok (hloc m), b_ok, e_cst, b_ok, ne_int, tri_b, b_ok, t_b]
    show ∃ m', _ = R.ok (Val.bool (!okPair1 xs)) m' ∧ _
    by_cases h2 : (xs.length : Int) = 2
    · obtain ⟨a, t, rfl⟩ : ∃ a t, xs = [a, t] := by
        match xs, h2 with
        | [a, t], _ => exact ⟨a, t, rfl⟩
        | [], h => simp at h
        | [_], h => simp at h
        | _ :: _ :: _ :: _, h => simp at h; omega
      obtain ⟨m1, a1, g1⟩ := name_fine_ok n hf (px a (by simp))
      rw [decide_eq_true h2, Bool.not_true, if_neg Bool.false_ne_true, e_not, e_call, l_cons, show E.idx (.loc i) (.cst (.int 0)) (cx (n + 1)) σ m = .ok a m from idx_ok (k := 0) (hloc m) (by simp), b_ok, l_nil, b_ok, b_ok, a1, b_ok, t_b]
      exact ⟨m1, rfl, g1⟩
    · rw [decide_eq_false h2, Bool.not_false, if_pos rfl]
      refine ⟨m, ?_, Gr.refl hf⟩
      match xs, h2 with
      | [a, t], h => exact absurd rfl h
      | [], _ => rfl
      | [_], _ => rfl
      | _ :: _ :: _ :: _, _ => rfl
  | _ => exact ⟨m, rfl, Gr.refl hf⟩
theorem loop_ok {n N : Nat} (hw : FineW n (N + 1)) {m : M} {d D : Nat} {dp : Int} {s : KSt} {xs : List Val} {x1 a b c z0 e : Val} (hf : Full m.t m.n) (hq : QS m d s) (hp : ∀ x ∈ xs, Pl m D x = true) (hxl : xs.length ≤ 60) (hD : D ≤ 100) (hn : 61 ≤ (n : Int) + (dp + 1)) (hl : (s.l.length : Int) ≤ s.many) (hm : s.many ≤ 400) :
    (∃ z m', forN (cx (N + 1)) (.loc 6) (.vals xs) [.ite (.or (.not (.isi (.loc 6) [.tup])) (.or (.cmp .ne (.bLen (.loc 6)) (.cst (.int 2))) (.not (.call 21 [(.idx (.loc 6) (.cst (.int 0)))])))) [(.ret (.cst (.bool false)))] [], .ite (.not (.call 23 [(.loc 0), (.idx (.loc 6) (.cst (.int 1))), (.bin .add (.loc 2) (.cst (.int 1)))])) [(.ret (.cst (.bool false)))] []] TRUE 0 [.ref d, x1, .int dp, a, b, c, z0, e] m = .ok (.next [.ref d, x1, .int dp, a, b, c, z, e]) m' ∧ (qLoop (qFine n (dp + 1)) s xs).1 = true ∧ QS m' d (qLoop (qFine n (dp + 1)) s xs).2 ∧ (qLoop (qFine n (dp + 1)) s xs).2.many ≤ 400 ∧ Gr m m' [d]) ∨
    ∃ m', forN (cx (N + 1)) (.loc 6) (.vals xs) [.ite (.or (.not (.isi (.loc 6) [.tup])) (.or (.cmp .ne (.bLen (.loc 6)) (.cst (.int 2))) (.not (.call 21 [(.idx (.loc 6) (.cst (.int 0)))])))) [(.ret (.cst (.bool false)))] [], .ite (.not (.call 23 [(.loc 0), (.idx (.loc 6) (.cst (.int 1))), (.bin .add (.loc 2) (.cst (.int 1)))])) [(.ret (.cst (.bool false)))] []] TRUE 0 [.ref d, x1, .int dp, a, b, c, z0, e] m = .ok (.ret (.bool false)) m' ∧ (qLoop (qFine n (dp + 1)) s xs).1 = false ∧ Gr m m' [d] := by
  have main := for_fold (f := cx (N + 1)) (t := .loc 6) (w := .vals xs) (b := [.ite (.or (.not (.isi (.loc 6) [.tup])) (.or (.cmp .ne (.bLen (.loc 6)) (.cst (.int 2))) (.not (.call 21 [(.idx (.loc 6) (.cst (.int 0)))])))) [(.ret (.cst (.bool false)))] [], .ite (.not (.call 23 [(.loc 0), (.idx (.loc 6) (.cst (.int 1))), (.bin .add (.loc 2) (.cst (.int 1)))])) [(.ret (.cst (.bool false)))] []]) xs.length (by omega)
    (fun k σ m' => (∃ z, σ = [.ref d, x1, .int dp, a, b, c, z, e]) ∧ (qLoop (qFine n (dp + 1)) s (xs.take k)).1 = true ∧ QS m' d (qLoop (qFine n (dp + 1)) s (xs.take k)).2 ∧ (qLoop (qFine n (dp + 1)) s (xs.take k)).2.many ≤ 400 ∧ Gr m m' [d])
    (fun v m' => v = .bool false ∧ (qLoop (qFine n (dp + 1)) s xs).1 = false ∧ Gr m m' [d])
    (σ0 := [.ref d, x1, .int dp, a, b, c, z0, e]) (m0 := m) ⟨⟨z0, rfl⟩, rfl, hq, hm, Gr.refl hf⟩ (fun σ m' _ => vals_done m')
    (fun k σ m' hk ⟨⟨z, ez⟩, h1, h2, h3, h4⟩ => by
      subst ez
      obtain ⟨x, ex⟩ : ∃ x, x = xs[k] := ⟨_, rfl⟩
      have hx : x ∈ xs := by rw [ex]; exact List.getElem_mem hk
      have px : Pl m' D x = true := Pl.mono (hq.ls hf h4) (hp x hx)
      have et : xs.take (k + 1) = xs.take k ++ [x] := by rw [List.take_succ_eq_append_getElem hk, ex]
      have ed : xs = xs.take (k + 1) ++ xs.drop (k + 1) := (List.take_append_drop _ _).symm
      have sn := qLoop_snoc (qFine n (dp + 1)) x (xs.take k) s
      rw [← et] at sn
      have len : ((qLoop (qFine n (dp + 1)) s (xs.take k)).2.l.length : Int) ≤ (qLoop (qFine n (dp + 1)) s (xs.take k)).2.many := by
        have q1 := loop_len (rec := qFine n (dp + 1)) (fine_len n (dp + 1)) (xs.take k) s h1
        have q2 := loop_many (rec := qFine n (dp + 1)) (fine_many n (dp + 1)) (xs.take k) s h1
        omega
      generalize qLoop (qFine n (dp + 1)) s (xs.take k) = r at h1 h2 h3 sn len
      have sn : qLoop (qFine n (dp + 1)) s (xs.take (k + 1)) = if okPair x = true then andT (qFine n (dp + 1) r.2 (snd0 x)) fun s => (true, s) else (false, r.2) := by
        rw [sn]
        unfold andT
        rw [if_pos h1]
      refine ⟨x, [.ref d, x1, .int dp, a, b, c, x, e], m', by rw [ex]; exact vals_item hk m', rfl, ?_⟩
      obtain ⟨m2, b1, b2⟩ := pairN_ok (n := N) (σ := [.ref d, x1, .int dp, a, b, c, x, e]) (i := 6) h4.wf px rfl
      rw [bl_ite, b1, b_ok, t_b]
      by_cases ho : okPair x = true
      · rw [ho, Bool.not_true, if_neg Bool.false_ne_true, bl_nil, go_next]
        rw [if_pos ho] at sn
        obtain ⟨sl, y, exy, _⟩ := okPair_inv ho
        have py : Pl m2 D y = true := by
          rw [exy] at px
          cases D with
          | zero => cases px
          | succ D => exact Pl.up (Nat.le_succ _) (Pl.mono (b2.ls h4.wf (by simp)) ((Pl.tup px).1 y (by simp)))
        have es : snd0 x = y := by rw [exy]; rfl
        rw [es] at sn
        have hq2 : QS m2 d r.2 := by show m2.t.get d = _; rw [b2.same d (get_lt h4.wf h2) (by simp)]; exact h2
        obtain ⟨m3, c1, c2, c3⟩ := hw m2 d D (dp + 1) r.2 y b2.wf (.inl hq2) py hD hn len h3
        have g3 : Gr m m3 [d] := h4.tr ((b2.mono (by simp)).tr c3)
        rw [bl_ite, e_not, e_call, l_cons, e_loc _ _ _ _ (.ref d) rfl (by simp), b_ok, l_cons, show E.idx (.loc 6) (.cst (.int 1)) (cx (N + 1)) [.ref d, x1, .int dp, a, b, c, x, e] m2 = .ok y m2 from by rw [exy]; rfl, b_ok, l_cons, e_bin, e_loc _ _ _ _ (.int dp) rfl (by simp), b_ok, e_cst, b_ok, show binop .add (.int dp) (.int 1) m2 = .ok (.int (dp + 1)) m2 from rfl, b_ok, l_nil, b_ok, b_ok, b_ok, b_ok, c1, b_ok, t_b, b_ok, t_b]
        unfold andT at sn
        by_cases q : (qFine n (dp + 1) r.2 y).1 = true
        · rw [if_pos q] at sn
          rw [q, Bool.not_true, if_neg Bool.false_ne_true, bl_nil, go_next, bl_nil]
          refine .inl ⟨_, m3, rfl, ⟨x, rfl⟩, ?_⟩
          rw [sn]
          exact ⟨rfl, (c2 q).1, (c2 q).2, g3⟩
        · have q : (qFine n (dp + 1) r.2 y).1 = false := by simpa using q
          rw [q, Bool.not_false, if_pos rfl]
          refine .inr ⟨_, m3, rfl, rfl, ?_, g3⟩
          rw [ed]
          refine qLoop_false ?_
          rw [sn, q]
          rfl
      · have ho' : okPair x = false := by simpa using ho
        rw [ho', Bool.not_false, if_pos rfl]
        rw [if_neg ho] at sn
        refine .inr ⟨_, m2, rfl, rfl, ?_, h4.tr (b2.mono (by simp))⟩
        rw [ed]
        refine qLoop_false ?_
        rw [sn])
  rcases main with ⟨σ, m', h1, ⟨z, ez⟩, h2, h3, h4, h5⟩ | ⟨v, m', h1, h2, h3, h4⟩
  · subst ez
    rw [List.take_of_length_le (Nat.le_refl _)] at h2 h3 h4
    exact .inl ⟨z, m', h1, h2, h3, h4, h5⟩
  · subst h2
    exact .inr ⟨m', h1, h3, h4⟩
/-- the labels of a row -/
theorem labs_ok {f : Cx} {σ : List Val} {m : M} {it : It} {i : Nat} {xs : List Val} (hf : Full m.t m.n) (hit : it f σ m = .ok (.vals xs) m) (hl : xs.length ≤ 1000) (hp : ∀ x ∈ xs, okPair x = true) (hi : i < σ.length) :
    ∃ a m', E.lc (.loc i) it [i] none (.idx (.loc i) (.cst (.int 0))) f σ m = .ok (.ref a) m' ∧ lstAt m' a = some (E.strsV (xs.map lab0)) ∧ Gr m m' [] := by
  obtain ⟨acc, m1, h1, h2, h3⟩ := comp_fold (f := f) (t := .loc i) (w := .vals xs) (c := none) (e := .idx (.loc i) (.cst (.int 0))) (σ := wipe [i] σ) xs.length (by omega) (fun k acc m' => acc = ((xs.take k).map fun x => Val.str (lab0 x)).reverse ∧ m' = m) (m0 := m) ⟨rfl, rfl⟩
    (fun acc m' _ => vals_done m') (fun k acc m' hk ⟨e1, e2⟩ => by
      subst e2
      obtain ⟨sl, b, ex, _⟩ := okPair_inv (hp xs[k] (List.getElem_mem hk))
      refine ⟨_, _, _, vals_item hk m', rfl, .str (lab0 xs[k]), m', ?_, ?_, rfl⟩
      · rw [e_idx, e_loc _ _ _ _ xs[k] (nth_setN _ _ _ (by rw [wipe_len]; exact hi)) (by rw [ex]; simp), b_ok, e_cst, b_ok, ex]
        rfl
      · rw [e1, List.take_succ_eq_append_getElem hk, List.map_append, List.reverse_append]
        rfl)
  subst h2 h3
  rw [List.take_of_length_le (Nat.le_refl _)] at h1
  have hlc := e_lc (.loc i) it [i] none (.idx (.loc i) (.cst (.int 0))) f σ m1 _ _ _ _ hit h1 (by simp; omega)
  refine ⟨_, _, hlc, ?_, Gr.allo hf _⟩
  rw [List.reverse_reverse]
  have : (xs.map fun x => Val.str (lab0 x)) = E.strsV (xs.map lab0) := by
    clear hit hl hp h1 hlc
    induction xs with
    | nil => rfl
    | cons x r ih => show Val.str (lab0 x) :: _ = Val.str (lab0 x) :: E.strsV (r.map lab0); rw [ih]
  rw [this]
  exact lst_allo hf _
theorem fine_ok : ∀ (n j : Nat), FineW n (n + 2 + j)
  | 0, j => fun m d D dp s v hf hq hp hD hn hl hm => by
    obtain ⟨N, eN⟩ : ∃ N, N = 1 + j := ⟨_, rfl⟩
    rw [show 0 + 2 + j = N + 1 by omega]
    show ∃ m', runFn f23 (cx N) [.ref d, v, .int dp] m = .ok (.bool false) m' ∧ (false = true → _) ∧ _
    rw [run_fn _ _ _ _ rfl]
    unfold f23
    simp only
    show ∃ m', endOf (block (cx N) _ [.ref d, v, .int dp, .und, .und, .und, .und, .und] m) = _ ∧ _
    obtain ⟨m1, a1, a2, a3⟩ := part_up (f := cx N) (σ := [.ref d, v, .int dp, .und, .und, .und, .und, .und]) (r := (f23.body).drop 1) hf hq rfl (by omega)
    have a1 := a1
    unfold f23 at a1
    simp only [List.drop_succ_cons, List.drop_zero] at a1
    rw [a1]
    have l2 : E.loc 2 (cx N) [.ref d, v, .int dp, .und, .und, .und, .und, .und] m1 = .ok (.int dp) m1 := rfl
    have hi : E.idx (.loc 0) (.cst (.str [112,97,114,116,115])) (cx N) [.ref d, v, .int dp, .und, .und, .und, .und, .und] m1 = .ok (.int (s.many + 1)) m1 := by
      rw [e_idx, e_loc _ _ _ _ (.ref d) rfl (by simp), b_ok, e_cst, b_ok]
      exact idxQ a2
    rw [bl_ite, e_or, e_cmp, hi, b_ok, e_cst, b_ok, gt_int, tri_b, b_ok, t_b]
    refine ⟨m1, ?_, fun z => (by cases z), a3⟩
    by_cases h4 : (400 : Int) < s.many + 1
    · rw [decide_eq_true h4, if_pos rfl]; rfl
    · rw [decide_eq_false h4, if_neg Bool.false_ne_true, e_or, e_cmp, l2, b_ok, e_cst, b_ok, gt_int, tri_b, b_ok, t_b, decide_eq_true (by omega), if_pos rfl]
      rfl
  | n + 1, j => fun m d D dp s v hf hq hp hD hn hl hm => by
    obtain ⟨N, eN⟩ : ∃ N, N = n + 2 + j := ⟨_, rfl⟩
    rw [show n + 1 + 2 + j = N + 1 by omega]
    have hw : FineW n N := by rw [eN]; exact fine_ok n j
    obtain ⟨N', eN'⟩ : ∃ N', N = N' + 1 := ⟨N - 1, by omega⟩
    have hu : v ≠ .und := Pl.nu hp
    show ∃ m', runFn f23 (cx N) [.ref d, v, .int dp] m = _ ∧ _
    rw [run_fn _ _ _ _ rfl]
    unfold f23
    simp only
    show ∃ m', endOf (block (cx N) _ [.ref d, v, .int dp, .und, .und, .und, .und, .und] m) = _ ∧ _
    obtain ⟨m1, a1, a2, a3⟩ := part_up (f := cx N) (σ := [.ref d, v, .int dp, .und, .und, .und, .und, .und]) (r := (f23.body).drop 1) hf hq rfl (by omega)
    unfold f23 at a1
    simp only [List.drop_succ_cons, List.drop_zero] at a1
    rw [a1]
    clear a1
    obtain ⟨s1, es1⟩ : ∃ s1 : KSt, s1 = { s with many := s.many + 1 } := ⟨_, rfl⟩
    rw [← es1] at a2
    have em : s1.many = s.many + 1 := by rw [es1]
    have hl1 : (s1.l.length : Int) + 1 ≤ s1.many := by rw [es1]; show (s.l.length : Int) + 1 ≤ s.many + 1; omega
    have hi : E.idx (.loc 0) (.cst (.str [112,97,114,116,115])) (cx N) [.ref d, v, .int dp, .und, .und, .und, .und, .und] m1 = .ok (.int (s.many + 1)) m1 := by
      rw [e_idx, e_loc _ _ _ _ (.ref d) rfl (by simp), b_ok, e_cst, b_ok, ← em]
      exact idxQ a2
    have lsx : Ls m m1 := a3.ls hf fun k hk => by
      rw [List.mem_singleton.mp hk]
      rcases hq with hq | ⟨hq, _⟩
      · unfold lstAt; rw [hq]
      · unfold lstAt; rw [hq]
    have hp1 : Pl m1 D v = true := Pl.mono lsx hp
    have hf1 := a3.wf
    clear hp lsx
    have hloc : ∀ m, E.loc 1 (cx N) [.ref d, v, .int dp, .und, .und, .und, .und, .und] m = .ok v m := fun m => e_loc _ _ _ _ _ rfl hu
    have hdp : ∀ m, E.loc 2 (cx N) [.ref d, v, .int dp, .und, .und, .und, .und, .und] m = .ok (.int dp) m := fun m => rfl
    have eq0 : qFine (n + 1) dp s v = if 400 < s.many + 1 ∨ 60 < dp then (false, s1) else onTup v (false, s1) (qWord (qFine n (dp + 1)) s1) := by rw [es1]; rfl
    rw [eq0]
    rw [bl_ite, e_or, e_cmp, hi, b_ok, e_cst, b_ok, gt_int, tri_b, b_ok, t_b]
    by_cases h4 : (400 : Int) < s.many + 1
    · rw [decide_eq_true h4, if_pos rfl, if_pos (Or.inl h4)]
      exact ⟨m1, rfl, fun z => (by cases z), a3⟩
    rw [decide_eq_false h4, if_neg Bool.false_ne_true, e_or, e_cmp, hdp, b_ok, e_cst, b_ok, gt_int, tri_b, b_ok, t_b]
    by_cases h6 : (60 : Int) < dp
    · rw [decide_eq_true h6, if_pos rfl, if_pos (Or.inr h6)]
      exact ⟨m1, rfl, fun z => (by cases z), a3⟩
    have hm1 : s1.many ≤ 400 := by omega
    rw [decide_eq_false h6, if_neg Bool.false_ne_true, if_neg (show ¬ (400 < s.many + 1 ∨ 60 < dp) from fun z => z.elim h4 h6), e_or, e_not, isi_tup hp1 (hloc m1), b_ok, t_b, b_ok, t_b]
    clear hi eq0
    cases D with
    | zero => cases hp1
    | succ D =>
    cases v with
    | tup xs =>
      rw [show (!isTup (.tup xs)) = false from rfl, if_neg Bool.false_ne_true, e_or, e_cmp, hloc, b_ok, e_tup, l_nil, b_ok, b_ok, eqv_nil hp1 hD, tri_b, b_ok, t_b]
      cases xs with
      | nil => exact ⟨m1, rfl, fun z => (by cases z), a3⟩
      | cons x rest =>
        obtain ⟨px, hlen⟩ := Pl.tup hp1
        have px0 := px x (by simp)
        have i0 : ∀ m, E.idx (.loc 1) (.cst (.int 0)) (cx N) [.ref d, .tup (x :: rest), .int dp, .und, .und, .und, .und, .und] m = .ok x m := fun m => idx_t (i := 0) (k := 0) (xs := x :: rest) rfl (hloc m) (by simp)
        rw [decide_eq_false (by simp), if_neg Bool.false_ne_true, e_not, isi_str px0 (i0 m1), b_ok, t_b, b_ok, t_b]
        cases x with
        | str w =>
          rw [show (!isStr (.str w)) = false from rfl, if_neg Bool.false_ne_true, bl_nil, go_next]
          show ∃ m', _ = R.ok (Val.bool (qWord (qFine n (dp + 1)) s1 w rest).1) m' ∧ ((qWord (qFine n (dp + 1)) s1 w rest).1 = true → QS m' d (qWord (qFine n (dp + 1)) s1 w rest).2 ∧ (qWord (qFine n (dp + 1)) s1 w rest).2.many ≤ 400) ∧ _
          have prest : ∀ x ∈ rest, Pl m1 D x = true := fun x hx => px x (List.mem_cons_of_mem _ hx)
          have hls : ∀ {m'}, Gr m1 m' [d] → ∀ x ∈ rest, Pl m' D x = true := fun g x hx => Pl.mono (a2.ls hf1 g) (prest x hx)
          have l1 : ∀ (m : M) (a b c d' e : Val), E.loc 1 (cx N) [.ref d, .tup (.str w :: rest), .int dp, a, b, c, d', e] m = .ok (.tup (.str w :: rest)) m := fun m a b c d' e => rfl
          have l0 : ∀ (m : M) (a b c d' e : Val), E.loc 0 (cx N) [.ref d, .tup (.str w :: rest), .int dp, a, b, c, d', e] m = .ok (.ref d) m := fun m a b c d' e => rfl
          have ld : ∀ (m : M) (a b c d' e : Val), E.bin .add (.loc 2) (.cst (.int 1)) (cx N) [.ref d, .tup (.str w :: rest), .int dp, a, b, c, d', e] m = .ok (.int (dp + 1)) m := fun m a b c d' e => rfl
          have i0 : ∀ (m : M) (a b c d' e : Val), E.idx (.loc 1) (.cst (.int 0)) (cx N) [.ref d, .tup (.str w :: rest), .int dp, a, b, c, d', e] m = .ok (.str w) m := fun m a b c d' e => idx_t (i := 0) (k := 0) (xs := .str w :: rest) rfl (l1 _ _ _ _ _ _) (by simp)
          have len : ∀ (m : M) (a b c d' e : Val), E.bLen (.loc 1) (cx N) [.ref d, .tup (.str w :: rest), .int dp, a, b, c, d', e] m = .ok (.int ((rest.length + 1 : Nat) : Int)) m := fun m a b c d' e => len_ok (xs := .str w :: rest) (l1 _ _ _ _ _ _)
          clear hp1 px px0 hloc hdp hq hf
          have lt1 : s1.l.length < 1000000 := by omega
          unfold qWord
          rw [bl_ite, e_cmp, i0, b_ok, show E.tup [.cst (.str [110,117,109]), .cst (.str [102,108,97,103])] (cx N) [.ref d, .tup (.str w :: rest), .int dp, .und, .und, .und, .und, .und] m1 = .ok (.tup [.str wNUM, .str wFLAG]) m1 from rfl, b_ok, in_words, tri_b, b_ok, t_b]
          by_cases c1 : w = wNUM ∨ w = wFLAG
          · rw [decide_eq_true c1, if_pos rfl, if_pos c1, bl_ret, e_cmp, len, b_ok, e_cst, b_ok, eq_int, tri_b, b_ok]
            refine ⟨m1, ?_, fun _ => ⟨a2, hm1⟩, a3⟩
            show R.ok (Val.bool _) m1 = R.ok (Val.bool (decide (rest = []))) m1
            cases rest with
            | nil => rfl
            | cons _ _ => rw [decide_eq_false (by simp; omega)]; rfl
          rw [decide_eq_false c1, if_neg Bool.false_ne_true, if_neg c1, bl_nil, go_next, bl_ite, e_cmp, i0, b_ok, e_cst, b_ok, eq_str, tri_b, b_ok, t_b, show ([97,110,121] : List Nat) = wANY from rfl]
          by_cases c2 : w = wANY
          · rw [decide_eq_true c2, if_pos rfl, if_pos c2, bl_ret, e_and, e_cmp, len, b_ok, e_cst, b_ok, eq_int, tri_b, b_ok, t_b]
            rcases rest with _ | ⟨c, _ | ⟨z9, q9⟩⟩
            · exact ⟨m1, rfl, fun z => (by cases z), a3⟩
            · rw [if_pos (show decide (((([c] : List Val).length + 1 : Nat) : Int) = 2) = true from rfl)]
              obtain ⟨m2, b1, b2, b3⟩ := cnt_fine_ok N' (w := wANY) hf1 a2 (prest c (by simp)) lt1
              rw [e_call, l_cons, l0, b_ok, l_cons, idx_t (i := 1) (k := 1) (xs := [.str w, c]) rfl (l1 _ _ _ _ _ _) (by simp), b_ok, l_cons, e_cst, b_ok, l_nil, b_ok, b_ok, b_ok, b_ok]
              rw [show (cx N).call 22 [.ref d, [Val.str w, c][1], .str wANY] m1 = R.ok (Val.bool (pTakes s1 c wANY).1) m2 from by rw [eN']; exact b1, b_ok]
              refine ⟨m2, rfl, fun _ => ⟨b2, ?_⟩, a3.tr b3⟩
              show (pTakes s1 c wANY).2.many ≤ 400
              rw [(takes_sml s1 c wANY).many]
              exact hm1
            · rw [if_neg (by simp; omega)]
              exact ⟨m1, rfl, fun z => (by cases z), a3⟩
          rw [decide_eq_false c2, if_neg Bool.false_ne_true, if_neg c2, bl_nil, go_next, bl_ite, e_cmp, i0, b_ok, e_cst, b_ok, eq_str, tri_b, b_ok, t_b, show ([108,105,115,116] : List Nat) = wLIST from rfl]
          by_cases c3 : w = wLIST
          · rw [decide_eq_true c3, if_pos rfl, if_pos c3, bl_ret, e_and, e_cmp, len, b_ok, e_cst, b_ok, eq_int, tri_b, b_ok, t_b]
            rcases rest with _ | ⟨x, _ | ⟨z9, q9⟩⟩
            · exact ⟨m1, rfl, fun z => (by cases z), a3⟩
            · rw [if_pos (show decide (((([x] : List Val).length + 1 : Nat) : Int) = 2) = true from rfl)]
              obtain ⟨m2, b1, b2, b3⟩ := hw m1 d D (dp + 1) s1 x hf1 (.inl a2) (prest x (by simp)) (by omega) (by omega) (by omega) hm1
              rw [e_call, l_cons, l0, b_ok, l_cons, idx_t (i := 1) (k := 1) (xs := [.str w, x]) rfl (l1 _ _ _ _ _ _) (by simp), b_ok, l_cons, ld, b_ok, l_nil, b_ok, b_ok, b_ok, b_ok]
              rw [show (cx N).call 23 [.ref d, [Val.str w, x][1], .int (dp + 1)] m1 = R.ok (Val.bool (qFine n (dp + 1) s1 x).1) m2 from b1, b_ok]
              exact ⟨m2, rfl, b2, a3.tr b3⟩
            · rw [if_neg (by simp; omega)]
              exact ⟨m1, rfl, fun z => (by cases z), a3⟩
          rw [decide_eq_false c3, if_neg Bool.false_ne_true, if_neg c3, bl_nil, go_next, bl_ite, e_cmp, i0, b_ok, e_cst, b_ok, eq_str, tri_b, b_ok, t_b, show ([116,111] : List Nat) = wTO from rfl]
          by_cases c4 : w = wTO
          · rw [decide_eq_true c4, if_pos rfl, if_pos c4, bl_ite, e_or, e_cmp, len, b_ok, e_cst, b_ok, ne_int, tri_b, b_ok, t_b]
            rcases rest with _ | ⟨x, _ | ⟨e, _ | ⟨y, _ | ⟨z9, q9⟩⟩⟩⟩
            · exact ⟨m1, rfl, fun z => (by cases z), a3⟩
            · exact ⟨m1, rfl, fun z => (by cases z), a3⟩
            · exact ⟨m1, rfl, fun z => (by cases z), a3⟩
            · rw [if_neg (show ¬ (!decide (((([x, e, y] : List Val).length + 1 : Nat) : Int) = 4)) = true from by simp)]
              show ∃ m', _ = R.ok (Val.bool (qTo (qFine n (dp + 1)) s1 x e y).1) m' ∧ ((qTo (qFine n (dp + 1)) s1 x e y).1 = true → QS m' d (qTo (qFine n (dp + 1)) s1 x e y).2 ∧ (qTo (qFine n (dp + 1)) s1 x e y).2.many ≤ 400) ∧ _
              have pe := prest e (by simp)
              have i2 : ∀ (m : M) (a b c d' e' : Val), E.idx (.loc 1) (.cst (.int 2)) (cx N) [.ref d, .tup [.str w, x, e, y], .int dp, a, b, c, d', e'] m = .ok e m := fun m a b c d' e' => idx_t (i := 2) (k := 2) (xs := [.str w, x, e, y]) rfl (l1 _ _ _ _ _ _) (by simp)
              rw [e_or, e_not, isi_tup pe (i2 _ _ _ _ _ _), b_ok, t_b, b_ok, t_b]
              cases D with
              | zero => cases pe
              | succ D =>
              cases e with
              | tup es =>
                obtain ⟨pes, hes⟩ := Pl.tup pe
                rw [show (!isTup (.tup es)) = false from rfl, if_neg Bool.false_ne_true, e_or, e_cmp, len_ok (i2 _ _ _ _ _ _), b_ok, e_cst, b_ok, ne_int, tri_b, b_ok, t_b]
                rcases es with _ | ⟨a, _ | ⟨t, _ | ⟨z9, q9⟩⟩⟩
                · exact ⟨m1, rfl, fun z => (by cases z), a3⟩
                · exact ⟨m1, rfl, fun z => (by cases z), a3⟩
                · rw [if_neg (show ¬ (!decide ((([a, t] : List Val).length : Int) = 2)) = true from by simp)]
                  show ∃ m', _ = R.ok (Val.bool (qTo2 (qFine n (dp + 1)) s1 x a t y).1) m' ∧ ((qTo2 (qFine n (dp + 1)) s1 x a t y).1 = true → QS m' d (qTo2 (qFine n (dp + 1)) s1 x a t y).2 ∧ (qTo2 (qFine n (dp + 1)) s1 x a t y).2.many ≤ 400) ∧ _
                  have pa := pes a (by simp)
                  have pt := pes t (by simp)
                  have tu := Pl.nu pt
                  rw [e_not, isi_tup pa (idx_t (i := 0) (k := 0) (xs := [a, t]) rfl (i2 _ _ _ _ _ _) (by simp)), b_ok, t_b, b_ok, t_b]
                  cases D with
                  | zero => cases pa
                  | succ D =>
                  cases a with
                  | tup ns =>
                    obtain ⟨pn, hln⟩ := Pl.tup pa
                    rw [show (!isTup (.tup ns)) = false from rfl, if_neg Bool.false_ne_true, bl_nil, go_next, bl_asg, i2, b_ok, show Tg.tup [.loc 3, .loc 4] (cx N) (.tup [.tup ns, t]) [.ref d, .tup [.str w, x, .tup [.tup ns, t], y], .int dp, .und, .und, .und, .und, .und] m1 = R.ok [.ref d, .tup [.str w, x, .tup [.tup ns, t], y], .int dp, .tup ns, t, .und, .und, .und] m1 from rfl, b_ok]
                    have l3 : ∀ m, E.loc 3 (cx N) [.ref d, .tup [.str w, x, .tup [.tup ns, t], y], .int dp, .tup ns, t, .und, .und, .und] m = .ok (.tup ns) m := fun m => rfl
                    have l4 : ∀ m, E.loc 4 (cx N) [.ref d, .tup [.str w, x, .tup [.tup ns, t], y], .int dp, .tup ns, t, .und, .und, .und] m = .ok t m := fun m => e_loc _ _ _ _ t rfl tu
                    obtain ⟨m2, b1, b2⟩ := allcall (f := cx N) (σ := [.ref d, .tup [.str w, x, .tup [.tup ns, t], y], .int dp, .tup ns, t, .und, .und, .und]) (i := 5) (g := 21) (p := isLab) hf1 (l3 m1) (by omega) (by simp) (fun x hx => Pl.nu (pn x hx)) (fun x hx m' g => by rw [eN']; exact name_fine_ok N' g.wf (Pl.mono (g.ls hf1 (by simp)) (pn x hx)))
                    rw [bl_ite, e_or, e_not, b1, b_ok, t_b, b_ok, t_b]
                    have g2 : Gr m1 m2 [d] := b2.mono (by simp)
                    unfold qTo2
                    simp only
                    by_cases hlab : ns.all isLab = true
                    · rw [hlab, Bool.not_true, if_neg Bool.false_ne_true, Bool.true_and]
                      obtain ⟨l, el⟩ := strs_lab hlab
                      obtain ⟨m3, d1, d2⟩ := srt_ok2 (f := cx N) (σ := [.ref d, .tup [.str w, x, .tup [.tup ns, t], y], .int dp, .tup ns, t, .und, .und, .und]) (e := .loc 3) (e2 := .loc 3) b2.wf (l3 m2) l3 el (by omega)
                      rw [d1, b_ok, t_b]
                      have g3 : Gr m1 m3 [d] := g2.tr (d2.mono (by simp))
                      by_cases hs : srt ns = true
                      · rw [hs, Bool.not_true, if_neg Bool.false_ne_true, if_pos rfl, bl_nil, go_next]
                        have q3 : QS m3 d s1 := by show m3.t.get d = _; rw [(b2.tr d2).same d (get_lt hf1 a2) (by simp)]; exact a2
                        have tl : ∃ m4, E.and (.cmp .isnot (.loc 4) (.cst .none)) (.not (.call 22 [.loc 0, .loc 4, .cst (.str [98,97,103])])) (cx N) [.ref d, .tup [.str w, x, .tup [.tup ns, t], y], .int dp, .tup ns, t, .und, .und, .und] m3 = .ok (.bool (!(pTail s1 t wBAG).1)) m4 ∧ QS m4 d (pTail s1 t wBAG).2 ∧ Gr m1 m4 [d] := by
                          rw [e_and, e_cmp, l4, b_ok, e_cst, b_ok, show cmpop .isnot m3 t .none = (Tri.ofB (isNone t)).neg from rfl, neg_b, tri_b, b_ok, t_b]
                          by_cases ht : t = .none
                          · subst ht
                            exact ⟨m3, rfl, q3, g3⟩
                          · have e1 : isNone t = false := by cases t <;> first | rfl | exact absurd rfl ht
                            have e2 : pTail s1 t wBAG = pTakes s1 t wBAG := by cases t <;> first | rfl | exact absurd rfl ht
                            obtain ⟨m4, k1, k2, k3⟩ := cnt_fine_ok N' (w := wBAG) g3.wf q3 (Pl.mono (a2.ls hf1 g3) pt) lt1
                            rw [e1, Bool.not_false, if_pos rfl, e_not, e_call, l_cons, l0, b_ok, l_cons, l4, b_ok, l_cons, e_cst, b_ok, l_nil, b_ok, b_ok, b_ok, b_ok]
                            rw [show (cx N).call 22 [.ref d, t, .str [98,97,103]] m3 = R.ok (Val.bool (pTakes s1 t wBAG).1) m4 from by rw [eN']; exact k1, b_ok, t_b, e2]
                            exact ⟨m4, rfl, k2, g3.tr k3⟩
                        obtain ⟨m4, t1, t2, t3⟩ := tl
                        have sml := tail_sml s1 t wBAG
                        have sl := sml.len
                        have sm := sml.many
                        rw [bl_ite, t1, b_ok, t_b]
                        generalize pTail s1 t wBAG = r at t2 sl sm ⊢
                        by_cases q1 : r.1 = true
                        · rw [andT_t q1, q1, Bool.not_true, if_neg Bool.false_ne_true, bl_nil, go_next, bl_ret, e_and]
                          obtain ⟨m5, u1, u2, u3⟩ := hw m4 d (D + 1 + 1) (dp + 1) r.2 x t3.wf (.inl t2) (hls t3 x (by simp)) (by omega) (by omega) (by omega) (by omega)
                          rw [e_call, l_cons, l0, b_ok, l_cons, idx_t (i := 1) (k := 1) (xs := [.str w, x, .tup [.tup ns, t], y]) rfl (l1 _ _ _ _ _ _) (by simp), b_ok, l_cons, ld, b_ok, l_nil, b_ok, b_ok, b_ok, b_ok]
                          rw [show (cx N).call 23 [.ref d, [Val.str w, x, .tup [.tup ns, t], y][1], .int (dp + 1)] m4 = R.ok (Val.bool (qFine n (dp + 1) r.2 x).1) m5 from u1, b_ok, t_b]
                          have g5 := t3.tr u3
                          by_cases q2 : (qFine n (dp + 1) r.2 x).1 = true
                          · obtain ⟨v1, v2⟩ := u2 q2
                            have f1 := fine_len n (dp + 1) r.2 x q2
                            have f2 := fine_many n (dp + 1) r.2 x q2
                            rw [andT_t q2, q2, if_pos rfl]
                            obtain ⟨m6, w1, w2, w3⟩ := hw m5 d (D + 1 + 1) (dp + 1) (qFine n (dp + 1) r.2 x).2 y g5.wf (.inl v1) (hls g5 y (by simp)) (by omega) (by omega) (by omega) v2
                            rw [e_call, l_cons, l0, b_ok, l_cons, idx_t (i := 3) (k := 3) (xs := [.str w, x, .tup [.tup ns, t], y]) rfl (l1 _ _ _ _ _ _) (by simp), b_ok, l_cons, ld, b_ok, l_nil, b_ok, b_ok, b_ok, b_ok]
                            rw [show (cx N).call 23 [.ref d, [Val.str w, x, .tup [.tup ns, t], y][3], .int (dp + 1)] m5 = R.ok (Val.bool (qFine n (dp + 1) (qFine n (dp + 1) r.2 x).2 y).1) m6 from w1, b_ok]
                            exact ⟨m6, rfl, w2, a3.tr (g5.tr w3)⟩
                          · rw [andT_f q2, if_neg q2]
                            exact ⟨m5, rfl, fun z => (by cases z), a3.tr g5⟩
                        · have q1' : r.1 = false := by simpa using q1
                          rw [andT_f q1, q1', Bool.not_false, if_pos rfl]
                          exact ⟨m4, rfl, fun z => (by cases z), a3.tr t3⟩
                      · have hs' : srt ns = false := by simpa using hs
                        rw [hs', Bool.not_false, if_pos rfl, if_neg Bool.false_ne_true]
                        exact ⟨m3, rfl, fun z => (by cases z), a3.tr g3⟩
                    · have hlab' : ns.all isLab = false := by simpa using hlab
                      rw [hlab', Bool.not_false, if_pos rfl, Bool.false_and, if_neg Bool.false_ne_true]
                      exact ⟨m2, rfl, fun z => (by cases z), a3.tr g2⟩
                  | und => exact absurd rfl (Pl.nu pa)
                  | _ => exact ⟨m1, rfl, fun z => (by cases z), a3⟩
                · rw [if_pos (show (!decide (((a :: t :: z9 :: q9 : List Val).length : Int) = 2)) = true from by simp; omega)]
                  exact ⟨m1, rfl, fun z => (by cases z), a3⟩
              | und => exact absurd rfl (Pl.nu pe)
              | _ => exact ⟨m1, rfl, fun z => (by cases z), a3⟩
            · rw [if_pos (show (!decide ((((x :: e :: y :: z9 :: q9 : List Val).length + 1 : Nat) : Int) = 4)) = true from by simp; omega)]
              exact ⟨m1, rfl, fun z => (by cases z), a3⟩
          rw [decide_eq_false c4, if_neg Bool.false_ne_true, if_neg c4, bl_nil, go_next, bl_ite, e_or, e_cmp, i0, b_ok, e_cst, b_ok, ne_str, tri_b, b_ok, t_b, show ([114,111,119] : List Nat) = wROW from rfl]
          by_cases c5 : w = wROW
          · rw [decide_eq_true c5, Bool.not_true, if_neg Bool.false_ne_true, if_pos c5, e_or, e_cmp, len, b_ok, e_cst, b_ok, ne_int, tri_b, b_ok, t_b]
            rcases rest with _ | ⟨ps, _ | ⟨t, _ | ⟨z9, q9⟩⟩⟩
            · exact ⟨m1, rfl, fun z => (by cases z), a3⟩
            · exact ⟨m1, rfl, fun z => (by cases z), a3⟩
            · rw [if_neg (show ¬ (!decide (((([ps, t] : List Val).length + 1 : Nat) : Int) = 3)) = true from by simp)]
              show ∃ m', _ = R.ok (Val.bool (qRow (qFine n (dp + 1)) s1 ps t).1) m' ∧ ((qRow (qFine n (dp + 1)) s1 ps t).1 = true → QS m' d (qRow (qFine n (dp + 1)) s1 ps t).2 ∧ (qRow (qFine n (dp + 1)) s1 ps t).2.many ≤ 400) ∧ _
              have pps := prest ps (by simp)
              have i1 : ∀ (m : M) (a b c d' e' : Val), E.idx (.loc 1) (.cst (.int 1)) (cx N) [.ref d, .tup [.str w, ps, t], .int dp, a, b, c, d', e'] m = .ok ps m := fun m a b c d' e' => idx_t (i := 1) (k := 1) (xs := [.str w, ps, t]) rfl (l1 _ _ _ _ _ _) (by simp)
              have i2 : ∀ (m : M) (a b c d' e' : Val), E.idx (.loc 1) (.cst (.int 2)) (cx N) [.ref d, .tup [.str w, ps, t], .int dp, a, b, c, d', e'] m = .ok t m := fun m a b c d' e' => idx_t (i := 2) (k := 2) (xs := [.str w, ps, t]) rfl (l1 _ _ _ _ _ _) (by simp)
              rw [e_not, isi_tup pps (i1 _ _ _ _ _ _), b_ok, t_b, b_ok, t_b]
              cases D with
              | zero => cases pps
              | succ D =>
              cases ps with
              | tup xs =>
                obtain ⟨pxs, hxs⟩ := Pl.tup pps
                rw [show (!isTup (.tup xs)) = false from rfl, if_neg Bool.false_ne_true, bl_nil, go_next, bl_for, val_it (i1 _ _ _ _ _ _), b_ok]
                show ∃ m', _ = R.ok (Val.bool (andT (qLoop (qFine n (dp + 1)) s1 xs) fun s => if qLab xs then pTail s t wROW else (false, s)).1) m' ∧ ((andT (qLoop (qFine n (dp + 1)) s1 xs) fun s => if qLab xs then pTail s t wROW else (false, s)).1 = true → QS m' d (andT (qLoop (qFine n (dp + 1)) s1 xs) fun s => if qLab xs then pTail s t wROW else (false, s)).2 ∧ (andT (qLoop (qFine n (dp + 1)) s1 xs) fun s => if qLab xs then pTail s t wROW else (false, s)).2.many ≤ 400) ∧ _
                rcases loop_ok (n := n) (N := N') (dp := dp) (x1 := .tup [.str w, .tup xs, t]) (a := .und) (b := .und) (c := .und) (z0 := .und) (e := .und) (by rw [← eN']; exact hw) hf1 a2 pxs hxs (by omega) (by omega) (by omega) hm1 with ⟨z, m2, b1, b2, b3, b4, b5⟩ | ⟨m2, b1, b2, b3⟩
                · rw [← eN'] at b1
                  rw [b1, go_next, andT_t b2]
                  have o1 := qLoop_true b2
                  have f1 := loop_len (rec := qFine n (dp + 1)) (fine_len n (dp + 1)) xs s1 b2
                  have f2 := loop_many (rec := qFine n (dp + 1)) (fine_many n (dp + 1)) xs s1 b2
                  generalize qLoop (qFine n (dp + 1)) s1 xs = r at b3 b4 f1 f2 ⊢
                  obtain ⟨ra, m3, c1, c2, c3⟩ := labs_ok (f := cx N) (σ := [.ref d, .tup [.str w, .tup xs, t], .int dp, .und, .und, .und, z, .und]) (m := m2) (it := .val (.idx (.loc 1) (.cst (.int 1)))) (i := 6) (xs := xs) b5.wf (val_it (i1 _ _ _ _ _ _)) (by omega) (List.all_eq_true.mp o1) (by simp)
                  rw [bl_asg, c1, b_ok, t_loc, b_ok]
                  show ∃ m', endOf (block (cx N) _ [.ref d, .tup [.str w, .tup xs, t], .int dp, .und, .und, .und, z, .ref ra] m3) = _ ∧ _
                  obtain ⟨m4, d1, d2⟩ := lab_ok (f := cx N) (σ := [.ref d, .tup [.str w, .tup xs, t], .int dp, .und, .und, .und, z, .ref ra]) (i := 7) c3.wf rfl c2 (by rw [List.length_map]; omega)
                  rw [bl_ite, d1, b_ok, t_b, show decide (xs.map lab0 = sortS (E.dedupS (xs.map lab0))) = qLab xs from rfl]
                  have g4 : Gr m1 m4 [d] := b5.tr ((c3.tr d2).mono (by simp))
                  by_cases hq : qLab xs = true
                  · rw [hq, Bool.not_true, if_neg Bool.false_ne_true, if_pos rfl, bl_nil, go_next, bl_ret, e_or, e_cmp, i2, b_ok, e_cst, b_ok]
                    have q4 : QS m4 d r.2 := by show m4.t.get d = _; rw [(c3.tr d2).same d (get_lt b5.wf b3) (by simp)]; exact b3
                    rw [show cmpop .is m4 t .none = Tri.ofB (isNone t) from rfl, tri_b, b_ok, t_b]
                    by_cases ht : t = .none
                    · subst ht
                      exact ⟨m4, rfl, fun _ => ⟨q4, b4⟩, a3.tr g4⟩
                    · have e1 : isNone t = false := by cases t <;> first | rfl | exact absurd rfl ht
                      have e2 : pTail r.2 t wROW = pTakes r.2 t wROW := by cases t <;> first | rfl | exact absurd rfl ht
                      obtain ⟨m5, k1, k2, k3⟩ := cnt_fine_ok N' (w := wROW) g4.wf q4 (hls g4 t (by simp)) (by omega)
                      rw [e1, if_neg Bool.false_ne_true, e_call, l_cons, l0, b_ok, l_cons, i2, b_ok, l_cons, e_cst, b_ok, l_nil, b_ok, b_ok, b_ok, b_ok]
                      rw [show (cx N).call 22 [.ref d, t, .str wROW] m4 = R.ok (Val.bool (pTakes r.2 t wROW).1) m5 from by rw [eN']; exact k1, b_ok, e2]
                      refine ⟨m5, rfl, fun _ => ⟨k2, ?_⟩, a3.tr (g4.tr k3)⟩
                      rw [(takes_sml r.2 t wROW).many]
                      exact b4
                  · have hq' : qLab xs = false := by simpa using hq
                    rw [hq', Bool.not_false, if_pos rfl, if_neg Bool.false_ne_true]
                    exact ⟨m4, rfl, fun z => (by cases z), a3.tr g4⟩
                · rw [← eN'] at b1
                  rw [b1, andT_f (by rw [b2]; simp)]
                  exact ⟨m2, rfl, fun z => (by cases z), a3.tr b3⟩
              | und => exact absurd rfl (Pl.nu pps)
              | _ => exact ⟨m1, rfl, fun z => (by cases z), a3⟩
            · rw [if_pos (show (!decide ((((ps :: t :: z9 :: q9 : List Val).length + 1 : Nat) : Int) = 3)) = true from by simp; omega)]
              exact ⟨m1, rfl, fun z => (by cases z), a3⟩
          · rw [decide_eq_false c5, Bool.not_false, if_pos rfl, if_neg c5]
            exact ⟨m1, rfl, fun z => (by cases z), a3⟩
        | und => exact absurd rfl (Pl.nu px0)
        | _ => exact ⟨m1, rfl, fun z => (by cases z), a3⟩
    | und => exact absurd rfl hu
    | _ => exact ⟨m1, rfl, fun z => (by cases z), a3⟩
end K02
set_option Elab.async false
set_option linter.all false
set_option maxRecDepth 100000
set_option maxHeartbeats 4000000
/-! PK10: what is judged. -/
namespace K02
open MP Snd PL
theorem eqL_refl {m : M} {n : Nat} : ∀ {xs : List Val}, (∀ x ∈ xs, eqN m n x x = .yes) → eqL (eqN m n) xs xs = .yes
  | [], _ => rfl
  | x :: r, h => by
    show (match eqN m n x x with | .yes => eqL (eqN m n) r r | t => t) = _
    rw [h x (by simp)]
    exact eqL_refl fun y hy => h y (List.mem_cons_of_mem _ hy)
theorem eqN_refl {m : M} : ∀ {D n : Nat} {v : Val}, Pl m D v = true → D ≤ n → eqN m n v v = .yes
  | 0, _, _, h, _ => by cases h
  | D + 1, 0, _, _, h => by omega
  | D + 1, n + 1, v, h, hn => by
    have hn : D ≤ n := by omega
    cases v with
    | none => rfl
    | bool b => cases b <;> rfl
    | int i =>
      show Tri.ofB (decide (i = i)) = _
      rw [decide_eq_true rfl]; rfl
    | str s =>
      show Tri.ofB (strEq s s) = _
      rw [strEq_eq, decide_eq_true rfl]; rfl
    | tup xs =>
      obtain ⟨h1, _⟩ := Pl.tup h
      exact eqL_refl fun x hx => eqN_refl (h1 x hx) hn
    | ref a =>
      have h : (match lstAt m a with | some xs => xs.all (Pl m D) | none => false) = true := h
      show eqRef (eqN m n) m a (.ref a) = _
      unfold eqRef
      cases e : lstAt m a with
      | none => rw [e] at h; cases h
      | some xs =>
        rw [e] at h
        simp only [e]
        exact eqL_refl fun x hx => eqN_refl (List.all_eq_true.mp h x hx) hn
    | _ => cases h
theorem eq_refl {m : M} {D : Nat} {v : Val} (h : Pl m D v = true) (hD : D ≤ 100) : cmpop .eq m v v = .ofB true := by
  have : eqB m 120 v v = .yes := by
    unfold eqB
    rw [Pl.dat (Pl.up (show D ≤ 120 by omega) h)]
    exact eqN_refl h (by omega)
  show eqv m v v = _
  cases v with
  | byt s => cases D <;> cases h
  | _ => exact this
theorem Pl.mk {m : M} {D : Nat} {xs : List Val} (h : ∀ x ∈ xs, Pl m D x = true) (hl : xs.length ≤ 60) : Pl m (D + 1) (.tup xs) = true := by
  show (xs.all (Pl m D) && Nat.ble xs.length 60) = true
  rw [List.all_eq_true.mpr h, Nat.ble_eq_true_of_le hl]
  rfl
theorem renT_pl {m : M} {D : Nat} {L : List Int} {t : Val} (h : Pl m D t = true) : Pl m D (renT L t).1 = true := by
  cases D with
  | zero => cases h
  | succ D =>
    cases t with
    | int i => rfl
    | _ => exact h
theorem renL_pl {m : M} {D n : Nat} (ih : ∀ D L v, shp n v = true → Pl m D v = true → Pl m D (ren n L v).1 = true) : ∀ (xs : List Val) (L : List Int), xs.all okPair = true → xs.all (fun x => shp n (snd0 x)) = true → (∀ x ∈ xs, Pl m D x = true) → ∀ y ∈ (renL (ren n) L xs).1, Pl m D y = true
  | [], L, _, _, _, y, hy => by cases hy
  | x :: r, L, h1, h2, h3, y, hy => by
    obtain ⟨a1, a2⟩ := Bool.and_eq_true_iff.mp (show (okPair x && r.all okPair) = true from h1)
    obtain ⟨b1, b2⟩ := Bool.and_eq_true_iff.mp (show (shp n (snd0 x) && r.all fun x => shp n (snd0 x)) = true from h2)
    rcases List.mem_cons.mp (show y ∈ Val.tup [fst0 x, (ren n L (snd0 x)).1] :: (renL (ren n) (ren n L (snd0 x)).2 r).1 from hy) with rfl | hy
    · obtain ⟨s, b, rfl, _⟩ := okPair_inv a1
      have q := h3 (.tup [.str s, b]) (List.mem_cons_self)
      cases D with
      | zero => cases q
      | succ D =>
        obtain ⟨q1, _⟩ := Pl.tup q
        refine Pl.mk (fun z hz => ?_) (by simp)
        rcases List.mem_cons.mp hz with rfl | hz
        · exact q1 (.str s) (by simp)
        · rw [List.mem_singleton.mp hz]
          exact ih D L b b1 (q1 b (by simp))
    · exact renL_pl ih r _ a2 b2 (fun x hx => h3 x (List.mem_cons_of_mem _ hx)) y hy
theorem ren_pl {m : M} : ∀ (n D : Nat) (L : List Int) (v : Val), shp n v = true → Pl m D v = true → Pl m D (ren n L v).1 = true
  | 0, D, L, v, h, _ => by cases h
  | n + 1, D, L, v, hs, hp => by
    cases D with
    | zero => cases hp
    | succ D =>
    cases v with
    | tup xs =>
      cases xs with
      | nil => cases hs
      | cons x rest =>
        cases x with
        | str w =>
          have hs : shpW (shp n) w rest = true := hs
          show Pl m (D + 1) (renW (ren n) L w rest).1 = true
          obtain ⟨px, hlen⟩ := Pl.tup hp
          have prest : ∀ x ∈ rest, Pl m D x = true := fun x hx => px x (List.mem_cons_of_mem _ hx)
          have pw : ∀ z, z.length ≤ 1000 → Pl m D (.str z) = true := fun z hz => by
            have := px (.str w) (by simp)
            cases D with
            | zero => cases this
            | succ D => exact Nat.ble_eq_true_of_le hz
          unfold shpW at hs
          unfold renW
          by_cases c1 : (w = wNUM ∨ w = wFLAG) ∧ rest = []
          · have n2 : ¬ w = wANY := by rcases c1.1 with z | z <;> rw [z] <;> decide
            have n3 : ¬ w = wLIST := by rcases c1.1 with z | z <;> rw [z] <;> decide
            have n4 : ¬ w = wTO := by rcases c1.1 with z | z <;> rw [z] <;> decide
            have n5 : ¬ w = wROW := by rcases c1.1 with z | z <;> rw [z] <;> decide
            rw [if_neg n2, if_neg n3, if_neg n4, if_neg n5]
            exact hp
          · rw [if_neg c1] at hs
            by_cases c2 : w = wANY
            · rw [if_pos c2] at hs ⊢
              match rest, hs, prest with
              | [c], _, prest =>
                refine Pl.mk (fun z hz => ?_) (by simp)
                rcases List.mem_cons.mp hz with rfl | hz
                · exact pw _ (by decide)
                · rw [List.mem_singleton.mp hz]
                  exact renT_pl (prest c (by simp))
              | [], hs, _ => cases hs
              | _ :: _ :: _, hs, _ => cases hs
            · rw [if_neg c2] at hs ⊢
              by_cases c3 : w = wLIST
              · rw [if_pos c3] at hs ⊢
                match rest, hs, prest with
                | [x], hs, prest =>
                  refine Pl.mk (fun z hz => ?_) (by simp)
                  rcases List.mem_cons.mp hz with rfl | hz
                  · exact pw _ (by decide)
                  · rw [List.mem_singleton.mp hz]
                    exact ren_pl n D L x hs (prest x (by simp))
                | [], hs, _ => cases hs
                | _ :: _ :: _, hs, _ => cases hs
              · rw [if_neg c3] at hs ⊢
                by_cases c4 : w = wTO
                · rw [if_pos c4] at hs ⊢
                  match rest, hs, prest with
                  | [x, e, y], hs, prest =>
                    obtain ⟨h1, hs⟩ := Bool.and_eq_true_iff.mp (show (shp n x && (effOk e && shp n y)) = true from hs)
                    obtain ⟨h2, h3⟩ := Bool.and_eq_true_iff.mp hs
                    obtain ⟨ns, t, rfl, ht, _, _⟩ := effOk_inv h2
                    show Pl m (D + 1) (.tup [.str wTO, (ren n L x).1, .tup [.tup ns, (renT (ren n L x).2 t).1], (ren n (renT (ren n L x).2 t).2 y).1]) = true
                    have pe := prest (.tup [.tup ns, t]) (by simp)
                    refine Pl.mk (fun z hz => ?_) (by simp)
                    simp only [List.mem_cons, List.not_mem_nil, or_false] at hz
                    rcases hz with rfl | rfl | rfl | rfl
                    · exact pw _ (by decide)
                    · exact ren_pl n D L x h1 (prest x (by simp))
                    · cases D with
                      | zero => cases pe
                      | succ D =>
                        obtain ⟨q1, _⟩ := Pl.tup pe
                        refine Pl.mk (fun z hz => ?_) (by simp)
                        simp only [List.mem_cons, List.not_mem_nil, or_false] at hz
                        rcases hz with rfl | rfl
                        · exact q1 _ (by simp)
                        · exact renT_pl (q1 t (by simp))
                    · exact ren_pl n D _ y h3 (prest y (by simp))
                  | [], hs, _ => cases hs
                  | [_], hs, _ => cases hs
                  | [_, _], hs, _ => cases hs
                  | _ :: _ :: _ :: _ :: _, hs, _ => cases hs
                · rw [if_neg c4] at hs ⊢
                  by_cases c5 : w = wROW
                  · rw [if_pos c5] at hs ⊢
                    match rest, hs, prest with
                    | [ps, t], hs, prest =>
                      cases ps with
                      | tup xs =>
                        obtain ⟨h1, hs⟩ := Bool.and_eq_true_iff.mp (show (xs.all okPair && (asc2 xs && (xs.all (fun x => shp n (snd0 x)) && tailOk t))) = true from hs)
                        obtain ⟨h2, hs⟩ := Bool.and_eq_true_iff.mp hs
                        obtain ⟨h3, h4⟩ := Bool.and_eq_true_iff.mp hs
                        have pe := prest (.tup xs) (by simp)
                        refine Pl.mk (fun z hz => ?_) (by simp)
                        simp only [List.mem_cons, List.not_mem_nil, or_false] at hz
                        rcases hz with rfl | rfl | rfl
                        · exact pw _ (by decide)
                        · cases D with
                          | zero => cases pe
                          | succ D =>
                            obtain ⟨q1, q2⟩ := Pl.tup pe
                            refine Pl.mk (renL_pl (fun D L v => ren_pl n D L v) xs L h1 h3 q1) ?_
                            have : ∀ (xs : List Val) (L : List Int), (renL (ren n) L xs).1.length = xs.length := by
                              intro xs
                              induction xs with
                              | nil => intro L; rfl
                              | cons x r ih => intro L; show (renL (ren n) _ r).1.length + 1 = _; rw [ih]; rfl
                            rw [this]
                            exact q2
                        · exact renT_pl (prest t (by simp))
                      | _ => cases hs
                    | [], hs, _ => cases hs
                    | [_], hs, _ => cases hs
                    | _ :: _ :: _ :: _, hs, _ => cases hs
                  · rw [if_neg c5] at hs; cases hs
        | _ => cases hs
    | _ => cases hs
theorem eq_bool (a b : Bool) (m : M) : cmpop .eq m (.bool a) (.bool b) = .ofB (decide (a = b)) := by
  cases a <;> cases b <;> rfl
/-- what is judged is right -/
theorem judged_ok {n : Nat} (hn : 210 ≤ n) {m : M} {D : Nat} {v : Val} (hf : Full m.t m.n) (hp : Pl m D v = true) (hD : D ≤ 100) : ∃ m', (cx (n + 1)).call 28 [v] m = .ok (.bool true) m' ∧ Gr m m' [] := by
  have hu := Pl.nu hp
  show ∃ m', runFn f28 (cx n) [v] m = _ ∧ _
  rw [run_fn _ _ _ _ rfl]
  unfold f28
  simp only
  show ∃ m', endOf (block (cx n) _ [v, .und] m) = _ ∧ _
  have g1 := Gr.allo (S := []) hf (.dct [])
  have d0 : (allo m (.dct [])).t.get m.n = some (.dct []) := by rw [allo_get hf, if_pos rfl]
  have hp1 := Pl.mono (g1.ls hf (by simp)) hp
  obtain ⟨m2, a1, _, a3⟩ := fine_ok 61 (n - 63) (allo m (.dct [])) m.n D 1 ⟨[], 0, 0⟩ v g1.wf (.inr ⟨d0, rfl, rfl⟩) hp1 hD (by omega) (by simp) (by simp)
  rw [show 61 + 2 + (n - 63) = n by omega] at a1
  have g2 : Gr m m2 [] := ⟨a3.wf, Nat.le_trans g1.le a3.le, fun i hi _ => by
    rw [a3.same i (Nat.lt_of_lt_of_le hi g1.le) (by simp; omega), g1.same i hi (by simp)]⟩
  rw [bl_asg, e_call, l_cons]
  show ∃ m', endOf ((((R.ok (Val.ref m.n) (allo m (.dct []))).bind _).bind _).bind _) = _ ∧ _
  rw [b_ok, l_cons, e_loc _ _ _ _ v rfl hu, b_ok, l_cons, e_cst, b_ok, l_nil, b_ok, b_ok, b_ok, b_ok, a1, b_ok, t_loc, b_ok]
  rw [← sort_fine v]
  show ∃ m', endOf (block (cx n) [S.tri [.ret (.and (.cmp .eq (.call 9 [.loc 0]) (.loc 1)) (.and (.cmp .eq (.call 15 [.loc 0]) (.call 24 [.loc 0, .dic []])) (.loc 1)))] (.cls 1) .none [.ret (.not (.loc 1))]] [v, .bool (isSortP v)] m2) = _ ∧ _
  have hp2 := Pl.mono (g2.ls hf (by simp)) hp
  have lv : ∀ m, E.loc 0 (cx n) [v, .bool (isSortP v)] m = .ok v m := fun m => e_loc _ _ _ _ v rfl hu
  have lb : ∀ m, E.loc 1 (cx n) [v, .bool (isSortP v)] m = .ok (.bool (isSortP v)) m := fun m => rfl
  obtain ⟨m3, b1, b2⟩ := is_sort_ok (n := n - 1) (by omega) g2.wf hp2 hD
  rw [show n - 1 + 1 = n by omega] at b1
  have g3 := g2.tr b2
  have hp3 := Pl.mono (g3.ls hf (by simp)) hp
  obtain ⟨m4, c1, c2⟩ := counted_ok (n := n - 1) (by omega) g3.wf hp3 hD
  rw [show n - 1 + 1 = n by omega] at c1
  have g4 := g3.tr c2
  have hp4 := Pl.mono (g4.ls hf (by simp)) hp
  by_cases h : isSortP v = true
  · rw [if_pos h] at c1
    obtain ⟨s1, s2⟩ := sortP_shape h
    have g5 := Gr.allo (S := []) c2.wf (.dct [])
    have d5 : (allo m4 (.dct [])).t.get m4.n = some (.dct (kvC 0 [])) := by rw [allo_get c2.wf, if_pos rfl]; rfl
    have hp5 := Pl.mono (g5.ls c2.wf (by simp)) hp4
    obtain ⟨m6, e1, _, e3⟩ := lawc_ok 61 (n - 62) (allo m4 (.dct [])) m4.n D [] v g5.wf d5 hp5 s1 (by simp; omega)
    rw [show 61 + 1 + (n - 62) = n by omega] at e1
    have g6 : Gr m m6 [] := by
      have g45 := g4.tr g5
      have := g4.le
      exact ⟨e3.wf, Nat.le_trans g45.le e3.le, fun i hi _ => by
        rw [e3.same i (Nat.lt_of_lt_of_le hi g45.le) (by simp; omega), g45.same i hi (by simp)]⟩
    have body : block (cx n) [.ret (.and (.cmp .eq (.call 9 [.loc 0]) (.loc 1)) (.and (.cmp .eq (.call 15 [.loc 0]) (.call 24 [.loc 0, .dic []])) (.loc 1)))] [v, .bool (isSortP v)] m2 = .ok (.ret (.bool true)) m6 := by
      rw [bl_ret, e_and, e_cmp, e_call, l_cons, lv, b_ok, l_nil, b_ok, b_ok, b1, b_ok, lb, b_ok, eq_bool, decide_eq_true rfl, tri_b, b_ok, t_b, if_pos rfl, e_and, e_cmp, e_call, l_cons, lv, b_ok, l_nil, b_ok, b_ok, c1, b_ok, e_call, l_cons, lv, b_ok, l_cons]
      have dn : E.dic [] (cx n) [v, .bool (isSortP v)] m4 = .ok (.ref m4.n) (allo m4 (.dct [])) := rfl
      rw [dn, b_ok, l_nil, b_ok, b_ok, b_ok, e1, b_ok, eq_refl (ren_pl 61 D [] v s1 (Pl.mono (g6.ls hf (by simp)) hp)) hD, tri_b, b_ok, t_b, if_pos rfl, lb, b_ok, h]
    refine ⟨m6, ?_, g6⟩
    show endOf ((S.tri _ _ _ _ (cx n) _ m2).bind _) = _
    unfold S.tri
    rw [body]
    rfl
  · rw [if_neg h] at c1
    have h' : isSortP v = false := by simpa using h
    have body : block (cx n) [.ret (.and (.cmp .eq (.call 9 [.loc 0]) (.loc 1)) (.and (.cmp .eq (.call 15 [.loc 0]) (.call 24 [.loc 0, .dic []])) (.loc 1)))] [v, .bool (isSortP v)] m2 = .ex (.exn 1 []) m4 := by
      rw [bl_ret, e_and, e_cmp, e_call, l_cons, lv, b_ok, l_nil, b_ok, b_ok, b1, b_ok, lb, b_ok, eq_bool, decide_eq_true rfl, tri_b, b_ok, t_b, if_pos rfl, e_and, e_cmp, e_call, l_cons, lv, b_ok, l_nil, b_ok, b_ok, c1]
      rfl
    refine ⟨m4, ?_, g4⟩
    show endOf ((S.tri _ _ _ _ (cx n) _ m2).bind _) = _
    unfold S.tri
    rw [body]
    have ty : hasTy (cx n).p m4 (.exn 1 []) (.cls 1) = some true := by cases n <;> rfl
    simp only [ty, opt2]
    rw [bl_ret, e_not]
    show endOf (((((E.loc 1 (cx n) [v, .bool (isSortP v)] m4).bind _).bind _).bind _).bind _) = _
    rw [lb, h']
    rfl
end K02
set_option Elab.async false
set_option linter.all false
set_option maxRecDepth 100000
set_option maxHeartbeats 4000000
/-! PK11: drawn sorts. -/
namespace K02
open MP Snd PL
abbrev intsV (xs : List Int) : List Val := xs.map .int
theorem dat_ints (m : M) (n : Nat) : ∀ l : List Int, datL (datN m (n + 1)) (intsV l) = true
  | [] => rfl
  | a :: l => dat_ints m n l
theorem lst_at {m : M} {a : Nat} {xs : List Val} (h : m.t.get a = some (.lst xs)) : lstAt m a = some xs := by unfold lstAt; rw [h]
/-- a list of numbers == [] -/
theorem eqv_none {m : M} {a b : Nat} {xs : List Int} (ha : lstAt m a = some (intsV xs)) (hb : lstAt m b = some []) : eqv m (.ref a) (.ref b) = .ofB (decide (xs = [])) := by
  show eqB m 120 (.ref a) (.ref b) = _
  have d1 : datN m 120 (.ref a) = true := by
    show (match lstAt m a with | some xs => datL (datN m 119) xs | .none => false) = true
    rw [ha]
    exact dat_ints m 118 xs
  have d2 : datN m 120 (.ref b) = true := by
    show (match lstAt m b with | some xs => datL (datN m 119) xs | .none => false) = true
    rw [hb]
    rfl
  unfold eqB
  rw [d1, d2]
  show eqRef (eqN m 119) m a (.ref b) = _
  unfold eqRef
  rw [ha]
  simp only [hb]
  cases xs <;> rfl
theorem eq_new {f : Cx} {σ : List Val} {m : M} {a : Nat} {xs : List Int} (hf : Full m.t m.n) (h0 : nth σ 0 = some (.ref a)) (ha : lstAt m a = some (intsV xs)) :
    ∃ m', E.cmp .eq (.loc 0) (.lst []) f σ m = .ok (.bool (decide (xs = []))) m' ∧ Gr m m' [] := by
  have g := Gr.allo (S := []) hf (.lst [])
  refine ⟨allo m (.lst []), ?_, g⟩
  rw [e_cmp, e_loc _ _ _ _ _ h0 (by simp), b_ok, show E.lst [] f σ m = .ok (.ref m.n) (allo m (.lst [])) from rfl, b_ok]
  show tri (eqv (allo m (.lst [])) (.ref a) (.ref m.n)) _ = _
  rw [eqv_none (g.ls hf (by simp) _ _ ha) (lst_allo hf _), tri_b]
theorem ne_new {f : Cx} {σ : List Val} {m : M} {a : Nat} {xs : List Int} (hf : Full m.t m.n) (h0 : nth σ 0 = some (.ref a)) (ha : lstAt m a = some (intsV xs)) :
    ∃ m', E.cmp .ne (.loc 0) (.lst []) f σ m = .ok (.bool (!decide (xs = []))) m' ∧ Gr m m' [] := by
  have g := Gr.allo (S := []) hf (.lst [])
  refine ⟨allo m (.lst []), ?_, g⟩
  rw [e_cmp, e_loc _ _ _ _ _ h0 (by simp), b_ok, show E.lst [] f σ m = .ok (.ref m.n) (allo m (.lst [])) from rfl, b_ok]
  show tri (eqv (allo m (.lst [])) (.ref a) (.ref m.n)).neg _ = _
  rw [eqv_none (g.ls hf (by simp) _ _ ha) (lst_allo hf _), neg_b, tri_b]
theorem mod_nat (x : Int) {k : Nat} (hk : 0 < k) : ∃ i, x % (k : Int) = Int.ofNat i ∧ i < k := by
  have h1 := Int.emod_nonneg x (show (k : Int) ≠ 0 by omega)
  have h2 := Int.emod_lt_of_pos x (show (0 : Int) < k by omega)
  exact ⟨(x % (k : Int)).toNat, by show _ = (((x % (k : Int)).toNat : Nat) : Int); omega, by omega⟩
theorem mod_ok (x : Int) {k : Nat} {K : Int} (hK : K = Int.ofNat k) (hk : 0 < k) (m : M) : ∃ i, binop .mod (.int x) (.int K) m = .ok (.int (Int.ofNat i)) m ∧ i < k := by
  obtain ⟨i, h1, h2⟩ := mod_nat x hk
  refine ⟨i, ?_, h2⟩
  subst hK
  show modI x (k : Int) m = _
  unfold modI
  rw [show decide ((0 : Int) < (k : Int)) = true from decide_eq_true (by omega)]
  simp only [h1]
theorem e_pop0 {o : E} {f : Cx} {σ : List Val} {m : M} {a : Nat} {x : Int} {r : List Int} (h : o f σ m = .ok (.ref a) m) (ha : m.t.get a = some (.lst (intsV (x :: r)))) : E.mPop1 o (.cst (.int 0)) f σ m = .ok (.int x) (putObj m a (.lst (intsV r))) := by
  show (o f σ m).bind _ = _
  rw [h, b_ok]
  have : E.isL m (.ref a) = true := by
    show isSome (lstO m a) = true
    unfold lstO; rw [ha]; rfl
  simp only [this, e_cst, b_ok]
  unfold E.pop1 lstW
  simp only [ha]
  rfl
theorem e_int {o : E} {f : Cx} {σ : List Val} {m m' : M} {x : Int} (h : o f σ m = .ok (.int x) m') : E.bInt o f σ m = .ok (.int x) m' := by
  show (o f σ m).bind _ = _
  rw [h, b_ok]
  rfl
theorem by_ok (n : Nat) {m : M} {a k : Nat} {K : Int} {xs : List Int} (hf : Full m.t m.n) (ha : m.t.get a = some (.lst (intsV xs))) (hK : K = Int.ofNat k) (hk : 0 < k) :
    ∃ m' i xs', (cx (n + 1)).call 18 [.ref a, .int K] m = .ok (.int (Int.ofNat i)) m' ∧ i < k ∧ m'.t.get a = some (.lst (intsV xs')) ∧ Gr m m' [a] := by
  show ∃ m' i xs', runFn f18 (cx n) [.ref a, .int K] m = _ ∧ _
  rw [run_fn _ _ _ _ rfl]
  show ∃ m' i xs', endOf (block (cx n) [.ret (.ite (.cmp .ne (.loc 0) (.lst [])) (.bin .mod (.bInt (.mPop1 (.loc 0) (.cst (.int 0)))) (.loc 1)) (.cst (.int 0)))] [.ref a, .int K] m) = _ ∧ _
  obtain ⟨m1, a1, g1⟩ := ne_new (f := cx n) (σ := [.ref a, .int K]) hf rfl (lst_at ha)
  have ha1 : m1.t.get a = some (.lst (intsV xs)) := by rw [g1.same a (get_lt hf ha) (by simp)]; exact ha
  rw [bl_ret, e_ite, a1, b_ok, t_b]
  cases xs with
  | nil =>
    refine ⟨m1, 0, [], ?_, hk, ha1, g1.mono (by simp)⟩
    rfl
  | cons x r =>
    rw [if_pos (by simp), e_bin]
    have bi := e_int (e_pop0 (o := .loc 0) (f := cx n) (σ := [.ref a, .int K]) (e_loc _ _ _ _ (.ref a) rfl (by simp)) ha1)
    have hlt := get_lt g1.wf ha1
    obtain ⟨i, b1, b2⟩ := mod_ok x hK hk (putObj m1 a (.lst (intsV r)))
    rw [bi, b_ok, e_loc _ _ _ _ (.int K) rfl (by simp), b_ok, b1, b_ok, o_ret]
    exact ⟨_, i, r, rfl, b2, by rw [put_get g1.wf hlt, if_pos rfl], (g1.mono (by simp)).tr (Gr.put g1.wf hlt _)⟩
theorem item_ref {m : M} {r : Nat} {xs : List Val} {k : Nat} (hr : lstAt m r = some xs) (h : k < xs.length) : item (.ref r) (.int (Int.ofNat k)) m = .ok xs[k] m := by
  show (match lstAt m r with | some xs => getAt xs (.int (Int.ofNat k)) fun v => R.ok v m | .none => _) = _
  rw [hr]
  show getAt xs (.int (Int.ofNat k)) _ = _
  unfold getAt ixOf
  simp only [show Nat.blt k xs.length = true from Nat.ble_eq_true_of_le h, nth_get?, List.getElem?_eq_getElem h]
/-- one of three tails -/
theorem pick3 (n : Nat) {m : M} {a : Nat} {xs : List Int} {σ : List Val} (b c : Int) (hf : Full m.t m.n) (ha : m.t.get a = some (.lst (intsV xs))) (h0 : nth σ 0 = some (.ref a)) (h2 : nth σ 2 = some (.bool true)) :
    ∃ m' t xs', E.ite (.loc 2) (.idx (.lst [.cst .none, .cst (.int b), .cst (.int c)]) (.call 18 [.loc 0, .cst (.int 3)])) (.cst .none) (cx (n + 1)) σ m = .ok t m' ∧ (∀ m, Pl m 1 t = true) ∧ m'.t.get a = some (.lst (intsV xs')) ∧ Gr m m' [a] := by
  have g1 := Gr.allo (S := []) hf (.lst [.none, .int b, .int c])
  have ha1 : (allo m (.lst [.none, .int b, .int c])).t.get a = some (.lst (intsV xs)) := by rw [g1.same a (get_lt hf ha) (by simp)]; exact ha
  obtain ⟨m2, i, xs', a1, a2, a3, a4⟩ := by_ok n (k := 3) (K := 3) g1.wf ha1 rfl (by omega)
  have hl : lstAt m2 m.n = some [.none, .int b, .int c] := by
    rw [lstAt_of_get (a4.same m.n (Nat.lt_succ_self _) (by simp; have := get_lt hf ha; omega))]
    exact lst_allo hf _
  rw [e_ite, e_loc _ _ _ _ _ h2 (by simp), b_ok, t_b, if_pos rfl, e_idx, show E.lst [.cst .none, .cst (.int b), .cst (.int c)] (cx (n + 1)) σ m = .ok (.ref m.n) (allo m (.lst [.none, .int b, .int c])) from rfl, b_ok, e_call, l_cons, e_loc _ _ _ _ _ h0 (by simp), b_ok, l_cons, e_cst, b_ok, l_nil, b_ok, b_ok, b_ok, a1, b_ok, item_ref hl a2]
  refine ⟨m2, _, xs', rfl, ?_, a3, (g1.mono (by simp)).tr a4⟩
  match i, a2 with
  | 0, _ => exact fun m => rfl
  | 1, _ => exact fun m => rfl
  | 2, _ => exact fun m => rfl
  | k + 3, h => exact absurd h (by simp)
/-- the names of a drawn function's effects -/
theorem names_ok {f : Cx} {σ : List Val} {m : M} {i : Nat} (hi : i < 8) (h5 : nth σ 5 = some (.int (Int.ofNat i))) :
    ∃ ns, E.bin .add (.bin .add (.bin .mul (.tup [(.cst (.str [111]))]) (.bin .mod (.bInt (.loc 5)) (.cst (.int 2)))) (.bin .mul (.tup [(.cst (.str [112]))]) (.bin .mod (.bInt (.bin .fdiv (.loc 5) (.cst (.int 2)))) (.cst (.int 2))))) (.bin .mul (.tup [(.cst (.str [112]))]) (.bin .fdiv (.loc 5) (.cst (.int 7)))) f σ m = .ok (.tup ns) m ∧ ∀ m, Pl m 2 (.tup ns) = true := by
  have l5 : E.loc 5 f σ m = .ok (.int (Int.ofNat i)) m := e_loc _ _ _ _ _ h5 (by simp)
  have e1 : E.bin .mod (.bInt (.loc 5)) (.cst (.int 2)) f σ m = .ok (.int (Int.ofNat i % 2)) m := by
    rw [e_bin, e_int l5, b_ok, e_cst, b_ok]; rfl
  have e2 : E.bin .mod (.bInt (.bin .fdiv (.loc 5) (.cst (.int 2)))) (.cst (.int 2)) f σ m = .ok (.int (Int.ofNat i / 2 % 2)) m := by
    rw [e_bin, e_int (show E.bin .fdiv (.loc 5) (.cst (.int 2)) f σ m = .ok (.int (Int.ofNat i / 2)) m by rw [e_bin, l5, b_ok, e_cst, b_ok]; rfl), b_ok, e_cst, b_ok]; rfl
  have e3 : E.bin .fdiv (.loc 5) (.cst (.int 7)) f σ m = .ok (.int (Int.ofNat i / 7)) m := by
    rw [e_bin, l5, b_ok, e_cst, b_ok]; rfl
  have t : ∀ s, E.tup [.cst (.str s)] f σ m = .ok (.tup [.str s]) m := fun s => rfl
  have p1 : E.bin .mul (.tup [(.cst (.str [111]))]) (.bin .mod (.bInt (.loc 5)) (.cst (.int 2))) f σ m = mulV (.tup [.str [111]]) (.int (Int.ofNat i % 2)) m := by
    rw [e_bin, t, b_ok, e1, b_ok]; rfl
  have p2 : E.bin .mul (.tup [(.cst (.str [112]))]) (.bin .mod (.bInt (.bin .fdiv (.loc 5) (.cst (.int 2)))) (.cst (.int 2))) f σ m = mulV (.tup [.str [112]]) (.int (Int.ofNat i / 2 % 2)) m := by
    rw [e_bin, t, b_ok, e2, b_ok]; rfl
  have p3 : E.bin .mul (.tup [(.cst (.str [112]))]) (.bin .fdiv (.loc 5) (.cst (.int 7))) f σ m = mulV (.tup [.str [112]]) (.int (Int.ofNat i / 7)) m := by
    rw [e_bin, t, b_ok, e3, b_ok]; rfl
  have mul1 : ∀ (s : List Nat) (x : Int), x = 0 ∨ x = 1 → ∃ a, mulV (.tup [.str s]) (.int x) m = .ok (.tup a) m ∧ (a = [] ∨ a = [.str s]) := by
    intro s x hx
    rcases hx with rfl | rfl
    · exact ⟨[], rfl, .inl rfl⟩
    · exact ⟨[.str s], rfl, .inr rfl⟩
  have hi' : (Int.ofNat i : Int) < 8 := by show (i : Int) < 8; omega
  have hi0 : (0 : Int) ≤ Int.ofNat i := by show (0 : Int) ≤ (i : Int); omega
  generalize (Int.ofNat i : Int) = z at *
  obtain ⟨a, a1, a2⟩ := mul1 [111] (z % 2) (by omega)
  obtain ⟨b, b1, b2⟩ := mul1 [112] (z / 2 % 2) (by omega)
  obtain ⟨c, c1, c2⟩ := mul1 [112] (z / 7) (by omega)
  refine ⟨a ++ b ++ c, ?_, ?_⟩
  · rw [e_bin, e_bin, p1, a1, b_ok, p2, b1, b_ok]
    rcases a2 with rfl | rfl <;> rcases b2 with rfl | rfl <;> (show (R.bind (R.ok _ m) _) = _; rw [b_ok, p3, c1, b_ok]; rcases c2 with rfl | rfl <;> rfl)
  · rcases a2 with rfl | rfl <;> rcases b2 with rfl | rfl <;> rcases c2 with rfl | rfl <;> exact fun m => rfl
end K02
set_option Elab.async false
set_option linter.all false
set_option maxRecDepth 100000
set_option maxHeartbeats 4000000
/-! PK12: drawn sorts, by their depth. -/
namespace K02
open MP Snd PL
theorem kind_ok (n p : Nat) {m : M} {a : Nat} {xs : List Int} {σ : List Val} (hf : Full m.t m.n) (ha : m.t.get a = some (.lst (intsV xs))) (h0 : nth σ 0 = some (.ref a)) (h1 : nth σ 1 = some (.int (Int.ofNat p))) :
    ∃ m' i xs', E.ite (.and (.cmp .gt (.loc 1) (.cst (.int 0))) (.cmp .ne (.loc 0) (.lst []))) (.call 18 [.loc 0, .cst (.int 12)]) (.call 18 [.loc 0, .cst (.int 4)]) (cx (n + 1)) σ m = .ok (.int (Int.ofNat i)) m' ∧ i < 12 ∧ (p = 0 → i < 4) ∧ m'.t.get a = some (.lst (intsV xs')) ∧ Gr m m' [a] := by
  have l0 : ∀ m, E.loc 0 (cx (n + 1)) σ m = .ok (.ref a) m := fun m => e_loc _ _ _ _ _ h0 (by simp)
  have four : ∀ m1, Gr m m1 [] → ∃ m' i xs', E.call 18 [.loc 0, .cst (.int 4)] (cx (n + 1)) σ m1 = .ok (.int (Int.ofNat i)) m' ∧ i < 12 ∧ (p = 0 → i < 4) ∧ m'.t.get a = some (.lst (intsV xs')) ∧ Gr m m' [a] := by
    intro m1 g
    obtain ⟨m2, i, xs', a1, a2, a3, a4⟩ := by_ok n (k := 4) (K := 4) g.wf (by rw [g.same a (get_lt hf ha) (by simp)]; exact ha) rfl (by omega)
    rw [e_call, l_cons, l0, b_ok, l_cons, e_cst, b_ok, l_nil, b_ok, b_ok, b_ok, a1]
    exact ⟨m2, i, xs', rfl, by omega, fun _ => a2, a3, (g.mono (by simp)).tr a4⟩
  rw [e_ite, e_and, e_cmp, e_loc _ _ _ _ _ h1 (by simp), b_ok, e_cst, b_ok, gt_int, tri_b, b_ok, t_b]
  by_cases hp : (0 : Int) < Int.ofNat p
  · rw [decide_eq_true hp, if_pos rfl]
    obtain ⟨m1, b1, b2⟩ := ne_new (f := cx (n + 1)) (σ := σ) hf h0 (lst_at ha)
    rw [b1, b_ok, t_b]
    cases xs with
    | nil =>
      rw [if_neg (by simp)]
      exact four m1 b2
    | cons x r =>
      rw [if_pos (by simp)]
      obtain ⟨m2, i, xs', a1, a2, a3, a4⟩ := by_ok n (k := 12) (K := 12) b2.wf (by rw [b2.same a (get_lt hf ha) (by simp)]; exact ha) rfl (by omega)
      rw [e_call, l_cons, l0, b_ok, l_cons, e_cst, b_ok, l_nil, b_ok, b_ok, b_ok, a1]
      exact ⟨m2, i, xs', rfl, a2, fun z => (by subst z; exact absurd hp (by decide)), a3, (b2.mono (by simp)).tr a4⟩
  · rw [decide_eq_false hp, if_neg Bool.false_ne_true, b_ok, t_b, if_neg Bool.false_ne_true]
    exact four m (Gr.refl hf)
theorem leaf_ok (n : Nat) {m : M} {a i : Nat} {xs : List Int} {σ : List Val} (hf : Full m.t m.n) (ha : m.t.get a = some (.lst (intsV xs))) (h0 : nth σ 0 = some (.ref a)) (h3 : nth σ 3 = some (.int (Int.ofNat i))) (hi : i < 4) :
    ∃ m' ys xs', E.idx (.lst [(.tup [(.cst (.str [110,117,109]))]), (.tup [(.cst (.str [102,108,97,103]))]), (.tup [(.cst (.str [97,110,121])), (.call 18 [(.loc 0), (.cst (.int 3))])]), (.tup [(.cst (.str [97,110,121])), (.cst (.int 0))])]) (.loc 3) (cx (n + 1)) σ m = .ok (.tup ys) m' ∧ (∀ m, Pl m 2 (.tup ys) = true) ∧ m'.t.get a = some (.lst (intsV xs')) ∧ Gr m m' [a] := by
  obtain ⟨m2, q, xs', a1, a2, a3, a4⟩ := by_ok n (k := 3) (K := 3) hf ha rfl (by omega)
  have g2 := Gr.allo (S := [a]) a4.wf (.lst [.tup [.str wNUM], .tup [.str wFLAG], .tup [.str wANY, .int (Int.ofNat q)], .tup [.str wANY, .int 0]])
  have ha2 : (allo m2 (.lst [.tup [.str wNUM], .tup [.str wFLAG], .tup [.str wANY, .int (Int.ofNat q)], .tup [.str wANY, .int 0]])).t.get a = some (.lst (intsV xs')) := by
    rw [allo_get a4.wf, if_neg (by have := get_lt a4.wf a3; omega)]; exact a3
  have el : E.lst [(.tup [(.cst (.str [110,117,109]))]), (.tup [(.cst (.str [102,108,97,103]))]), (.tup [(.cst (.str [97,110,121])), (.call 18 [(.loc 0), (.cst (.int 3))])]), (.tup [(.cst (.str [97,110,121])), (.cst (.int 0))])] (cx (n + 1)) σ m = .ok (.ref m2.n) (allo m2 (.lst [.tup [.str wNUM], .tup [.str wFLAG], .tup [.str wANY, .int (Int.ofNat q)], .tup [.str wANY, .int 0]])) := by
    rw [e_lst, l_cons, show ∀ s, E.tup [.cst (.str s)] (cx (n + 1)) σ m = .ok (.tup [.str s]) m from fun s => rfl, b_ok, l_cons, show ∀ s, E.tup [.cst (.str s)] (cx (n + 1)) σ m = .ok (.tup [.str s]) m from fun s => rfl, b_ok, l_cons, e_tup, l_cons, e_cst, b_ok, l_cons, e_call, l_cons, e_loc _ _ _ _ _ h0 (by simp), b_ok, l_cons, e_cst, b_ok, l_nil, b_ok, b_ok, b_ok, a1, b_ok, l_nil, b_ok, b_ok, b_ok, b_ok]
    rfl
  rw [e_idx, el, b_ok, e_loc _ _ _ _ _ h3 (by simp), b_ok, item_ref (lst_allo a4.wf _) hi]
  match i, hi with
  | 0, _ => exact ⟨_, _, xs', rfl, fun m => rfl, ha2, a4.tr g2⟩
  | 1, _ => exact ⟨_, _, xs', rfl, fun m => rfl, ha2, a4.tr g2⟩
  | 2, _ => exact ⟨_, _, xs', rfl, fun m => rfl, ha2, a4.tr g2⟩
  | 3, _ => exact ⟨_, _, xs', rfl, fun m => rfl, ha2, a4.tr g2⟩
  | k + 4, h => exact absurd h (by omega)
def Draw (p N : Nat) : Prop := ∀ (m : M) (a : Nat) (xs : List Int), Full m.t m.n → m.t.get a = some (.lst (intsV xs)) → ∃ m' ys xs', (cx N).call 19 [.ref a, .int (Int.ofNat p), .bool true] m = .ok (.tup ys) m' ∧ (∀ m, Pl m (3 * p + 2) (.tup ys) = true) ∧ m'.t.get a = some (.lst (intsV xs')) ∧ Gr m m' [a]
/-- a drawn sort one less deep -/
theorem sub_ok {p N : Nat} (hd : Draw p N) {m : M} {a : Nat} {xs : List Int} {σ : List Val} (hf : Full m.t m.n) (ha : m.t.get a = some (.lst (intsV xs))) (h0 : nth σ 0 = some (.ref a)) (h1 : nth σ 1 = some (.int (Int.ofNat (p + 1)))) (h2 : nth σ 2 = some (.bool true)) :
    ∃ m' ys xs', E.call 19 [(.loc 0), (.bin .sub (.loc 1) (.cst (.int 1))), (.loc 2)] (cx N) σ m = .ok (.tup ys) m' ∧ (∀ m, Pl m (3 * p + 2) (.tup ys) = true) ∧ m'.t.get a = some (.lst (intsV xs')) ∧ Gr m m' [a] := by
  have sb : E.bin .sub (.loc 1) (.cst (.int 1)) (cx N) σ m = .ok (.int (Int.ofNat p)) m := by
    rw [e_bin, e_loc _ _ _ _ _ h1 (by simp), b_ok, e_cst, b_ok]
    show R.ok (Val.int (((p + 1 : Nat) : Int) - 1)) m = R.ok (Val.int (p : Int)) m
    rw [show (((p + 1 : Nat) : Int) - 1) = (p : Int) by omega]
  rw [e_call, l_cons, e_loc _ _ _ _ _ h0 (by simp), b_ok, l_cons, sb, b_ok, l_cons, e_loc _ _ _ _ _ h2 (by simp), b_ok, l_nil, b_ok, b_ok, b_ok, b_ok]
  exact hd m a xs hf ha
theorem plw {m : M} {D : Nat} {w : List Nat} (h : w.length ≤ 1000) : Pl m (D + 1) (.str w) = true := Nat.ble_eq_true_of_le h
/-- whether a bit is set -/
theorem bit_ok {f : Cx} {σ : List Val} {m : M} {i k : Nat} (hi : i < 8) (hk : k < 3) (h5 : nth σ 5 = some (.int (Int.ofNat i))) (h9 : nth σ 9 = some (.int (Int.ofNat k))) :
    ∃ b, E.cmp .eq (.bin .band (.bin .shr (.loc 5) (.loc 9)) (.cst (.int 1))) (.cst (.int 1)) f σ m = .ok (.bool b) m := by
  have e : E.bin .shr (.loc 5) (.loc 9) f σ m = shrI (Int.ofNat i) (Int.ofNat k) m := by
    rw [e_bin, e_loc _ _ _ _ _ h5 (by simp), b_ok, e_loc _ _ _ _ _ h9 (by simp), b_ok]
    rfl
  have e2 : shrI (Int.ofNat i) (Int.ofNat k) m = .ok (.int (Int.ofNat (i / 2 ^ k))) m := by
    unfold shrI
    rw [show decide ((0 : Int) ≤ Int.ofNat k) = true from decide_eq_true (by show (0 : Int) ≤ (k : Int); omega)]
    show R.ok (Val.int ((i : Int) / 2 ^ k)) m = R.ok (Val.int ((i / 2 ^ k : Nat) : Int)) m
    rw [Int.natCast_ediv, Int.natCast_pow]
    rfl
  refine ⟨decide ((Int.ofNat (Nat.land (i / 2 ^ k) 1)) = 1), ?_⟩
  rw [e_cmp, e_bin, e, e2, b_ok, e_cst, b_ok]
  show (R.bind (R.ok (Val.int (Int.ofNat (Nat.land (i / 2 ^ k) 1))) m) _) = _
  rw [b_ok, e_cst, b_ok, eq_int, tri_b]
theorem draw_ok : ∀ (p j : Nat), Draw p (p + 2 + j)
  | p, j => fun m a xs hf ha => by
    obtain ⟨N, eN⟩ : ∃ N, N = p + j := ⟨_, rfl⟩
    rw [show p + 2 + j = N + 1 + 1 by omega]
    show ∃ m' ys xs', runFn f19 (cx (N + 1)) [.ref a, .int (Int.ofNat p), .bool true] m = _ ∧ _
    rw [run_fn _ _ _ _ rfl]
    unfold f19
    simp only
    show ∃ m' ys xs', endOf (block (cx (N + 1)) _ [.ref a, .int (Int.ofNat p), .bool true, .und, .und, .und, .und, .und, .und, .und, .und] m) = _ ∧ _
    obtain ⟨m1, i, x1, a1, a2, a3, a4, a5⟩ := kind_ok N p (σ := [.ref a, .int (Int.ofNat p), .bool true, .und, .und, .und, .und, .und, .und, .und, .und]) hf ha rfl rfl
    rw [bl_asg, a1, b_ok, t_loc, b_ok]
    show ∃ m' ys xs', endOf (block (cx (N + 1)) _ [.ref a, .int (Int.ofNat p), .bool true, .int (Int.ofNat i), .und, .und, .und, .und, .und, .und, .und] m1) = _ ∧ _
    have l3 : ∀ m, E.loc 3 (cx (N + 1)) [.ref a, .int (Int.ofNat p), .bool true, .int (Int.ofNat i), .und, .und, .und, .und, .und, .und, .und] m = .ok (.int (Int.ofNat i)) m := fun m => rfl
    rw [bl_ite, e_cmp, l3, b_ok, e_cst, b_ok, lt_int, tri_b, b_ok, t_b]
    by_cases h4 : i < 4
    · rw [decide_eq_true (show (Int.ofNat i : Int) < 4 by show (i : Int) < 4; omega), if_pos rfl, bl_ite, e_not, e_loc _ _ _ _ (.bool true) rfl (by simp), b_ok, t_b, b_ok, t_b, Bool.not_true, if_neg Bool.false_ne_true, bl_nil, go_next, bl_ret]
      obtain ⟨m2, ys, x2, b1, b2, b3, b4⟩ := leaf_ok N (σ := [.ref a, .int (Int.ofNat p), .bool true, .int (Int.ofNat i), .und, .und, .und, .und, .und, .und, .und]) a5.wf a4 rfl rfl h4
      rw [b1, b_ok, go_ret, o_ret]
      exact ⟨m2, ys, x2, rfl, fun m => Pl.up (by omega) (b2 m), b3, a5.tr b4⟩
    rw [decide_eq_false (show ¬ (Int.ofNat i : Int) < 4 by show ¬ (i : Int) < 4; omega), if_neg Bool.false_ne_true, bl_nil, go_next, bl_ite, e_cmp, l3, b_ok, e_cst, b_ok, lt_int, tri_b, b_ok, t_b]
    cases p with
    | zero => exact absurd (a3 rfl) h4
    | succ p =>
    have hd : Draw p (N + 1) := by
      have := draw_ok p j
      rw [show p + 2 + j = N + 1 by omega] at this
      exact this
    by_cases h6 : i < 6
    · rw [decide_eq_true (show (Int.ofNat i : Int) < 6 by show (i : Int) < 6; omega), if_pos rfl, bl_ret, e_tup, l_cons, e_cst, b_ok, l_cons]
      obtain ⟨m2, ys, x2, b1, b2, b3, b4⟩ := sub_ok hd (σ := [.ref a, .int (Int.ofNat (p + 1)), .bool true, .int (Int.ofNat i), .und, .und, .und, .und, .und, .und, .und]) a5.wf a4 rfl rfl rfl
      rw [b1, b_ok, l_nil, b_ok, b_ok, b_ok, b_ok, go_ret, o_ret]
      refine ⟨m2, _, x2, rfl, fun m => ?_, b3, a5.tr b4⟩
      refine Pl.mk (D := 3 * p + 4) (fun z hz => ?_) (by simp)
      simp only [List.mem_cons, List.not_mem_nil, or_false] at hz
      rcases hz with rfl | rfl
      · exact plw (by decide)
      · exact Pl.up (by omega) (b2 m)
    rw [decide_eq_false (show ¬ (Int.ofNat i : Int) < 6 by show ¬ (i : Int) < 6; omega), if_neg Bool.false_ne_true, bl_nil, go_next, bl_ite, e_cmp, l3, b_ok, e_cst, b_ok, lt_int, tri_b, b_ok, t_b]
    by_cases h9 : i < 9
    · rw [decide_eq_true (show (Int.ofNat i : Int) < 9 by show (i : Int) < 9; omega), if_pos rfl, bl_asg, e_tup, l_cons]
      obtain ⟨m2, ys, x2, b1, b2, b3, b4⟩ := sub_ok hd (σ := [.ref a, .int (Int.ofNat (p + 1)), .bool true, .int (Int.ofNat i), .und, .und, .und, .und, .und, .und, .und]) a5.wf a4 rfl rfl rfl
      obtain ⟨m3, q, x3, c1, c2, c3, c4⟩ := by_ok N (k := 8) (K := 8) b4.wf b3 rfl (by omega)
      rw [b1, b_ok, l_cons, e_call, l_cons, e_loc _ _ _ _ (.ref a) rfl (by simp), b_ok, l_cons, e_cst, b_ok, l_nil, b_ok, b_ok, b_ok, c1, b_ok, l_nil, b_ok, b_ok, b_ok, b_ok]
      rw [show Tg.tup [.loc 4, .loc 5] (cx (N + 1)) (.tup [.tup ys, .int (Int.ofNat q)]) [.ref a, .int (Int.ofNat (p + 1)), .bool true, .int (Int.ofNat i), .und, .und, .und, .und, .und, .und, .und] m3 = R.ok [.ref a, .int (Int.ofNat (p + 1)), .bool true, .int (Int.ofNat i), .tup ys, .int (Int.ofNat q), .und, .und, .und, .und, .und] m3 from rfl, b_ok]
      obtain ⟨ns, d1, d2⟩ := names_ok (f := cx (N + 1)) (σ := [.ref a, .int (Int.ofNat (p + 1)), .bool true, .int (Int.ofNat i), .tup ys, .int (Int.ofNat q), .und, .und, .und, .und, .und]) (m := m3) c2 rfl
      rw [bl_asg, d1, b_ok, t_loc, b_ok]
      obtain ⟨m4, t, x4, k1, k2, k3, k4⟩ := pick3 N (σ := [.ref a, .int (Int.ofNat (p + 1)), .bool true, .int (Int.ofNat i), .tup ys, .int (Int.ofNat q), .tup ns, .und, .und, .und, .und]) 5 6 c4.wf c3 rfl rfl
      rw [show setN (.tup ns) [.ref a, .int (Int.ofNat (p + 1)), .bool true, .int (Int.ofNat i), .tup ys, .int (Int.ofNat q), .und, .und, .und, .und, .und] 6 = [.ref a, .int (Int.ofNat (p + 1)), .bool true, .int (Int.ofNat i), .tup ys, .int (Int.ofNat q), .tup ns, .und, .und, .und, .und] from rfl]
      rw [bl_asg, k1, b_ok, t_loc, b_ok]
      rw [show setN t [.ref a, .int (Int.ofNat (p + 1)), .bool true, .int (Int.ofNat i), .tup ys, .int (Int.ofNat q), .tup ns, .und, .und, .und, .und] 7 = [.ref a, .int (Int.ofNat (p + 1)), .bool true, .int (Int.ofNat i), .tup ys, .int (Int.ofNat q), .tup ns, t, .und, .und, .und] from rfl]
      have tu : t ≠ .und := Pl.nu (k2 m4)
      obtain ⟨m5, zs, x5, u1, u2, u3, u4⟩ := sub_ok hd (σ := [.ref a, .int (Int.ofNat (p + 1)), .bool true, .int (Int.ofNat i), .tup ys, .int (Int.ofNat q), .tup ns, t, .und, .und, .und]) k4.wf k3 rfl rfl rfl
      rw [bl_ret, e_tup, l_cons, e_cst, b_ok, l_cons, e_loc _ _ _ _ (.tup ys) rfl (by simp), b_ok, l_cons, e_tup, l_cons, e_loc _ _ _ _ (.tup ns) rfl (by simp), b_ok, l_cons, e_loc _ _ _ _ t rfl tu, b_ok, l_nil, b_ok, b_ok, b_ok, b_ok, l_cons, u1, b_ok, l_nil, b_ok, b_ok, b_ok, b_ok, b_ok, b_ok, go_ret, o_ret]
      refine ⟨m5, _, x5, rfl, fun m => ?_, u3, a5.tr (b4.tr (c4.tr (k4.tr u4)))⟩
      refine Pl.mk (D := 3 * p + 4) (fun z hz => ?_) (by simp)
      simp only [List.mem_cons, List.not_mem_nil, or_false] at hz
      rcases hz with rfl | rfl | rfl | rfl
      · exact plw (by decide)
      · exact Pl.up (by omega) (b2 m)
      · refine Pl.mk (D := 3 * p + 3) (fun z hz => ?_) (by simp)
        simp only [List.mem_cons, List.not_mem_nil, or_false] at hz
        rcases hz with rfl | rfl
        · exact Pl.up (by omega) (d2 m)
        · exact Pl.up (by omega) (k2 m)
      · exact Pl.up (by omega) (u2 m)
    rw [decide_eq_false (show ¬ (Int.ofNat i : Int) < 9 by show ¬ (i : Int) < 9; omega), if_neg Bool.false_ne_true, bl_nil, go_next, bl_asg, e_call, l_cons, e_loc _ _ _ _ (.ref a) rfl (by simp), b_ok, l_cons, e_cst, b_ok, l_nil, b_ok, b_ok, b_ok]
    obtain ⟨m3, q, x3, c1, c2, c3, c4⟩ := by_ok N (k := 8) (K := 8) a5.wf a4 rfl (by omega)
    rw [c1, b_ok, t_loc, b_ok]
    show ∃ m' ys xs', endOf (block (cx (N + 1)) _ [.ref a, .int (Int.ofNat (p + 1)), .bool true, .int (Int.ofNat i), .und, .int (Int.ofNat q), .und, .und, .und, .und, .und] m3) = _ ∧ _
    rw [bl_asg]
    have g3 := Gr.allo (S := []) c4.wf (.lst [.str [97], .str [98], .str [99]])
    have ha3 : (allo m3 (.lst [.str [97], .str [98], .str [99]])).t.get a = some (.lst (intsV x3)) := by rw [g3.same a (get_lt c4.wf c3) (by simp)]; exact c3
    have hl3 : lstAt (allo m3 (.lst [.str [97], .str [98], .str [99]])) m3.n = some [.str [97], .str [98], .str [99]] := lst_allo c4.wf _
    have hit : It.enum (.lst [(.cst (.str [97])), (.cst (.str [98])), (.cst (.str [99]))]) (cx (N + 1)) [.ref a, .int (Int.ofNat (p + 1)), .bool true, .int (Int.ofNat i), .und, .int (Int.ofNat q), .und, .und, .und, .und, .und] m3 = .ok (.enum (.seq m3.n)) (allo m3 (.lst [.str [97], .str [98], .str [99]])) := by
      show (evL (cx (N + 1)) [.lst [(.cst (.str [97])), (.cst (.str [98])), (.cst (.str [99]))]] _ m3).bind _ = _
      rw [l_cons, show E.lst [(.cst (.str [97])), (.cst (.str [98])), (.cst (.str [99]))] (cx (N + 1)) [.ref a, .int (Int.ofNat (p + 1)), .bool true, .int (Int.ofNat i), .und, .int (Int.ofNat q), .und, .und, .und, .und, .und] m3 = .ok (.ref m3.n) (allo m3 (.lst [.str [97], .str [98], .str [99]])) from rfl, b_ok, l_nil, b_ok, b_ok]
      show It.optI (It.enumV _ (.ref m3.n)) _ = _
      unfold It.enumV
      simp only [hl3]
      rfl
    have hr : ∀ m', Gr (allo m3 (.lst [.str [97], .str [98], .str [99]])) m' [a] → lstAt m' m3.n = some [.str [97], .str [98], .str [99]] := fun m' g => by
      rw [lstAt_of_get (g.same m3.n (Nat.lt_succ_self _) (by simp; have := get_lt c4.wf c3; omega))]
      exact hl3
    obtain ⟨acc, m4, e1, e2, e3, x4, e4, e5⟩ := comp_fold (f := cx (N + 1)) (t := .tup [.loc 9, .loc 10]) (w := .enum (.seq m3.n)) (c := some (.cmp .eq (.bin .band (.bin .shr (.loc 5) (.loc 9)) (.cst (.int 1))) (.cst (.int 1)))) (e := .tup [(.loc 10), (.call 19 [(.loc 0), (.bin .sub (.loc 1) (.cst (.int 1))), (.loc 2)])]) (σ := wipe [9, 10] [.ref a, .int (Int.ofNat (p + 1)), .bool true, .int (Int.ofNat i), .und, .int (Int.ofNat q), .und, .und, .und, .und, .und]) 3 (by omega)
      (fun k acc m' => (∀ z ∈ acc, ∀ m, Pl m (3 * p + 3) z = true) ∧ acc.length ≤ k ∧ ∃ x', m'.t.get a = some (.lst (intsV x')) ∧ Gr (allo m3 (.lst [.str [97], .str [98], .str [99]])) m' [a])
      (m0 := allo m3 (.lst [.str [97], .str [98], .str [99]])) ⟨fun z hz => (by cases hz), Nat.le_refl _, x3, ha3, Gr.refl g3.wf⟩
      (fun acc m' h => by
        obtain ⟨_, _, x', _, h4⟩ := h
        show (match (match lstAt m' m3.n with | some xs => nxOf (nth xs 3) | .none => .odd) with | .item v => Nx.item (.tup [.int (Int.ofNat 3), v]) | r => r) = _
        rw [hr m' h4]
        rfl)
      (fun k acc m' hk h => by
        obtain ⟨h1, h2, x', h3, h4⟩ := h
        obtain ⟨s, hs, hn⟩ : ∃ s : List Nat, s.length ≤ 1000 ∧ (ItV.enum (.seq m3.n)).next m' k = .item (.tup [.int (Int.ofNat k), .str s]) := by
          have : (ItV.enum (.seq m3.n)).next m' k = (match (match lstAt m' m3.n with | some xs => nxOf (nth xs k) | .none => .odd) with | .item v => Nx.item (.tup [.int (Int.ofNat k), v]) | r => r) := rfl
          rw [this, hr m' h4]
          match k, hk with
          | 0, _ => exact ⟨[97], by simp, rfl⟩
          | 1, _ => exact ⟨[98], by simp, rfl⟩
          | 2, _ => exact ⟨[99], by simp, rfl⟩
          | k + 3, h => exact absurd h (by omega)
        obtain ⟨b, hb⟩ := bit_ok (f := cx (N + 1)) (σ := [.ref a, .int (Int.ofNat (p + 1)), .bool true, .int (Int.ofNat i), .und, .int (Int.ofNat q), .und, .und, .und, .int (Int.ofNat k), .str s]) (m := m') c2 hk rfl rfl
        refine ⟨_, [.ref a, .int (Int.ofNat (p + 1)), .bool true, .int (Int.ofNat i), .und, .int (Int.ofNat q), .und, .und, .und, .int (Int.ofNat k), .str s], m', hn, rfl, b, m', hb, ?_⟩
        cases b with
        | false => exact ⟨h1, by omega, x', h3, h4⟩
        | true =>
          obtain ⟨m5, zs, x5, u1, u2, u3, u4⟩ := sub_ok hd (σ := [.ref a, .int (Int.ofNat (p + 1)), .bool true, .int (Int.ofNat i), .und, .int (Int.ofNat q), .und, .und, .und, .int (Int.ofNat k), .str s]) h4.wf h3 rfl rfl rfl
          refine ⟨.tup [.str s, .tup zs], m5, ?_, fun z hz => ?_, by simp; omega, x5, u3, h4.tr u4⟩
          · rw [e_tup, l_cons, e_loc _ _ _ _ (.str s) rfl (by simp), b_ok, l_cons, u1, b_ok, l_nil, b_ok, b_ok, b_ok]
          · rcases List.mem_cons.mp hz with rfl | hz
            · intro m
              refine Pl.mk (D := 3 * p + 2) (fun z hz => ?_) (by simp)
              simp only [List.mem_cons, List.not_mem_nil, or_false] at hz
              rcases hz with rfl | rfl
              · exact plw hs
              · exact u2 m
            · exact h1 z hz)
    have hlc := e_lc (.tup [.loc 9, .loc 10]) (.enum (.lst [(.cst (.str [97])), (.cst (.str [98])), (.cst (.str [99]))])) [9, 10] (some (.cmp .eq (.bin .band (.bin .shr (.loc 5) (.loc 9)) (.cst (.int 1))) (.cst (.int 1)))) (.tup [(.loc 10), (.call 19 [(.loc 0), (.bin .sub (.loc 1) (.cst (.int 1))), (.loc 2)])]) (cx (N + 1)) [.ref a, .int (Int.ofNat (p + 1)), .bool true, .int (Int.ofNat i), .und, .int (Int.ofNat q), .und, .und, .und, .und, .und] m3 _ _ _ _ hit e1 (by omega)
    have g4 := Gr.allo (S := [a]) e5.wf (.lst acc.reverse)
    have ha4 : (allo m4 (.lst acc.reverse)).t.get a = some (.lst (intsV x4)) := by rw [allo_get e5.wf, if_neg (by have := get_lt e5.wf e4; omega)]; exact e4
    rw [hlc, b_ok, t_loc, b_ok]
    show ∃ m' ys xs', endOf (block (cx (N + 1)) _ [.ref a, .int (Int.ofNat (p + 1)), .bool true, .int (Int.ofNat i), .und, .int (Int.ofNat q), .und, .und, .ref m4.n, .und, .und] (allo m4 (.lst acc.reverse))) = _ ∧ _
    obtain ⟨m6, t, x6, k1, k2, k3, k4⟩ := pick3 N (σ := [.ref a, .int (Int.ofNat (p + 1)), .bool true, .int (Int.ofNat i), .und, .int (Int.ofNat q), .und, .und, .ref m4.n, .und, .und]) 3 4 g4.wf ha4 rfl rfl
    rw [bl_ret, e_tup, l_cons, e_cst, b_ok, l_cons, tuple_of (e_loc _ _ _ _ (.ref m4.n) rfl (by simp)) (lst_allo e5.wf _), b_ok, l_cons, k1, b_ok, l_nil, b_ok, b_ok, b_ok, b_ok, b_ok, o_ret]
    have g33 : Gr m3 (allo m3 (.lst [.str [97], .str [98], .str [99]])) [a] := g3.mono (by simp)
    refine ⟨m6, _, x6, rfl, fun m => ?_, k3, a5.tr (c4.tr (g33.tr (e5.tr (g4.tr k4))))⟩
    refine Pl.mk (D := 3 * p + 4) (fun z hz => ?_) (by simp)
    simp only [List.mem_cons, List.not_mem_nil, or_false] at hz
    rcases hz with rfl | rfl | rfl
    · exact plw (by decide)
    · exact Pl.mk (D := 3 * p + 3) (fun z hz => e2 z (List.mem_reverse.mp hz) m) (by rw [List.length_reverse]; omega)
    · exact Pl.up (by omega) (k2 m)
end K02
set_option Elab.async false
set_option linter.all false
set_option maxRecDepth 100000
set_option maxHeartbeats 4000000
/-! PK13: cells, numbers, draws. -/
namespace K02
open MP Snd PL
theorem len_ref {f : Cx} {σ : List Val} {m : M} {e : E} {r : Nat} {xs : List Int} (he : e f σ m = .ok (.ref r) m) (hr : lstAt m r = some (intsV xs)) : E.bLen e f σ m = .ok (.int (Int.ofNat xs.length)) m := by
  rw [len_lst he hr, List.length_map]
  rfl
theorem item_int {m : M} {r : Nat} {xs : List Int} {k : Nat} (hr : lstAt m r = some (intsV xs)) (h : k < xs.length) : ∃ i, item (.ref r) (.int (Int.ofNat k)) m = .ok (.int i) m := by
  rw [item_ref hr (by rw [List.length_map]; exact h)]
  exact ⟨xs[k], by simp⟩
theorem mul_c {c : Int} (hc : small c = true) (x : Int) (m : M) : binop .mul (.int x) (.int c) m = .ok (.int (x * c)) m := by
  show (match small x || small c with | true => R.ok (Val.int (x * c)) m | false => .bad 8) = _
  rw [hc, Bool.or_true]
theorem intsV_app (a b : List Int) : intsV (a ++ b) = intsV a ++ intsV b := List.map_append
theorem cell_ok (n : Nat) {m : M} {a k : Nat} {xs : List Int} (hf : Full m.t m.n) (ha : lstAt m a = some (intsV xs)) : ∃ m' i, (cx (n + 1)).call 16 [.ref a, .int (Int.ofNat k)] m = .ok (.int i) m' ∧ Gr m m' [] := by
  show ∃ m' i, runFn f16 (cx n) [.ref a, .int (Int.ofNat k)] m = _ ∧ _
  rw [run_fn _ _ _ _ rfl]
  unfold f16
  simp only
  show ∃ m' i, endOf (block (cx n) _ [.ref a, .int (Int.ofNat k)] m) = _ ∧ _
  have l0 : ∀ m, E.loc 0 (cx n) [.ref a, .int (Int.ofNat k)] m = .ok (.ref a) m := fun m => rfl
  have l1 : ∀ m, E.loc 1 (cx n) [.ref a, .int (Int.ofNat k)] m = .ok (.int (Int.ofNat k)) m := fun m => rfl
  rw [bl_ite, e_cmp, l1, b_ok, len_ref (l0 m) ha, b_ok, lt_int, tri_b, b_ok, t_b]
  by_cases h : k < xs.length
  · obtain ⟨i, hi⟩ := item_int ha h
    rw [decide_eq_true (show (Int.ofNat k : Int) < Int.ofNat xs.length by show (k : Int) < (xs.length : Int); omega), if_pos rfl, bl_ret, e_idx, l0, b_ok, l1, b_ok, hi, b_ok, go_ret, o_ret]
    exact ⟨m, i, rfl, Gr.refl hf⟩
  · rw [decide_eq_false (show ¬ (Int.ofNat k : Int) < Int.ofNat xs.length by show ¬ (k : Int) < (xs.length : Int); omega), if_neg Bool.false_ne_true, bl_nil, go_next, bl_ite]
    obtain ⟨m1, a1, g1⟩ := eq_new (f := cx n) (σ := [.ref a, .int (Int.ofNat k)]) hf rfl ha
    have ha1 := g1.ls hf (by simp) _ _ ha
    rw [a1, b_ok, t_b]
    by_cases hx : xs = []
    · rw [decide_eq_true hx, if_pos rfl, bl_ret, e_bin, l1, b_ok, e_cst, b_ok]
      rw [mul_c rfl, b_ok, go_ret, o_ret]
      exact ⟨m1, _, rfl, g1⟩
    · have hpos : 0 < xs.length := by cases xs with
        | nil => exact absurd rfl hx
        | cons _ _ => simp
      obtain ⟨q, hq1, hq2⟩ := mod_ok (Int.ofNat k) (k := xs.length) (K := Int.ofNat xs.length) rfl hpos m1
      obtain ⟨i, hi⟩ := item_int ha1 hq2
      rw [decide_eq_false hx, if_neg Bool.false_ne_true, bl_nil, go_next, bl_ret, e_bin, e_bin, e_bin, e_idx, l0, b_ok, e_bin, l1, b_ok, len_ref (l0 m1) ha1, b_ok, hq1, b_ok, hi, b_ok, l1, b_ok]
      rw [show binop .add (.int i) (.int (Int.ofNat k)) m1 = .ok (.int (i + Int.ofNat k)) m1 from rfl, b_ok, e_cst, b_ok, mul_c rfl, b_ok, e_cst, b_ok]
      exact ⟨m1, _, rfl, g1⟩
theorem rep_list {f : Cx} {σ : List Val} {m : M} : E.lst [.cst (.int 48), .cst (.int 48), .cst (.int 48), .cst (.int 48), .cst (.int 48), .cst (.int 48)] f σ m = .ok (.ref m.n) (allo m (.lst (intsV [48, 48, 48, 48, 48, 48]))) := rfl
theorem e_app {o e : E} {f : Cx} {σ : List Val} {m : M} {a : Nat} {x : Int} {ys : List Int} (h : o f σ m = .ok (.ref a) m) (he : e f σ m = .ok (.int x) m) (ha : m.t.get a = some (.lst (intsV ys))) (hl : ys.length < 1000) : E.mAppend o e f σ m = .ok .none (putObj m a (.lst (intsV (ys ++ [x])))) := by
  show (o f σ m).bind _ = _
  rw [h, b_ok]
  have : E.isL m (.ref a) = true := by
    show isSome (lstO m a) = true
    unfold lstO; rw [ha]; rfl
  simp only [this, he, b_ok]
  unfold E.appendV lstW
  simp only [ha]
  rw [show Nat.blt (intsV ys).length SIZE = true from Nat.ble_eq_true_of_le (by show (intsV ys).length + 1 ≤ SIZE; rw [List.length_map]; unfold SIZE; omega), intsV_app]
  rfl
theorem numbers_ok (n : Nat) {m : M} {a : Nat} {c : Int} (hf : Full m.t m.n) (ha : m.t.get a = some (.lst (intsV [48, 48, 48, 48, 48, 48]))) :
    ∃ m' r ys, (cx (n + 1)).call 17 [.int c, .ref a] m = .ok (.ref r) m' ∧ m'.t.get r = some (.lst (intsV ys)) ∧ ys.length = 6 ∧ m.n ≤ r ∧ Gr m m' [] := by
  show ∃ m' r ys, runFn f17 (cx n) [.int c, .ref a] m = _ ∧ _
  rw [run_fn _ _ _ _ rfl]
  unfold f17
  simp only
  show ∃ m' r ys, endOf (block (cx n) _ [.int c, .ref a, .und, .und] m) = _ ∧ _
  rw [bl_asg, e_loc _ _ _ _ (.int c) rfl (by simp), b_ok, t_loc, b_ok]
  show ∃ m' r ys, endOf (block (cx n) _ [.int c, .ref a, .int c, .und] m) = _ ∧ _
  have l0 : ∀ x m, E.loc 0 (cx n) [.int c, .ref a, .int x, .und] m = .ok (.int c) m := fun x m => rfl
  have tail : ∀ x : Int, ∃ m' r ys, endOf (block (cx n) [(.asg (.loc 3) (.lst [])), (.for (.loc 1) (.val (.loc 1)) [(.expr (.mAppend (.loc 3) (.bin .mod (.bInt (.loc 2)) (.loc 1)))), (.asg (.loc 2) (.bin .fdiv (.loc 2) (.loc 1)))]), (.ret (.loc 3))] [.int c, .ref a, .int x, .und] m) = .ok (.ref r) m' ∧ m'.t.get r = some (.lst (intsV ys)) ∧ ys.length = 6 ∧ m.n ≤ r ∧ Gr m m' [] := by
    intro x
    have g1 := Gr.allo (S := []) hf (.lst [])
    have hn : (allo m (.lst [])).t.get m.n = some (.lst (intsV [])) := by rw [allo_get hf, if_pos rfl]; rfl
    have hla : a < m.n := get_lt hf ha
    rw [bl_asg, show E.lst [] (cx n) [.int c, .ref a, .int x, .und] m = .ok (.ref m.n) (allo m (.lst [])) from rfl, b_ok, t_loc, b_ok]
    show ∃ m' r ys, endOf (block (cx n) _ [.int c, .ref a, .int x, .ref m.n] (allo m (.lst []))) = _ ∧ _
    have ha1 : lstAt (allo m (.lst [])) a = some (intsV [48, 48, 48, 48, 48, 48]) := g1.ls hf (by simp) _ _ (lst_at ha)
    have hit : It.val (.loc 1) (cx n) [.int c, .ref a, .int x, .ref m.n] (allo m (.lst [])) = .ok (.seq a) (allo m (.lst [])) := by
      show (E.loc 1 (cx n) [.int c, .ref a, .int x, .ref m.n] (allo m (.lst []))).bind _ = _
      rw [e_loc _ _ _ _ (.ref a) rfl (by simp), b_ok]
      show (match itRef (allo m (.lst [])) a with | some w => R.ok w _ | .none => .bad 89) = _
      unfold itRef
      simp only [ha1]
    rw [bl_for, hit, b_ok]
    have main := for_fold (f := cx n) (t := .loc 1) (w := .seq a) (b := [(.expr (.mAppend (.loc 3) (.bin .mod (.bInt (.loc 2)) (.loc 1)))), (.asg (.loc 2) (.bin .fdiv (.loc 2) (.loc 1)))]) 6 (by omega)
      (fun k σ m' => ∃ y z ys, σ = [.int c, y, .int z, .ref m.n] ∧ m'.t.get m.n = some (.lst (intsV ys)) ∧ ys.length = k ∧ Gr (allo m (.lst [])) m' [m.n])
      (fun _ _ => False) (σ0 := [.int c, .ref a, .int x, .ref m.n]) (m0 := allo m (.lst [])) ⟨.ref a, x, [], rfl, hn, rfl, Gr.refl g1.wf⟩
      (fun σ m' h => by
        obtain ⟨_, _, _, _, _, _, h4⟩ := h
        show (match lstAt m' a with | some xs => nxOf (nth xs 6) | .none => .odd) = _
        rw [lstAt_of_get (h4.same a (by show a < m.n + 1; omega) (by simp; omega)), ha1]
        rfl)
      (fun k σ m' hk h => by
        obtain ⟨y, z, ys, rfl, h2, h3, h4⟩ := h
        have nx : (ItV.seq a).next m' k = .item (.int 48) := by
          show (match lstAt m' a with | some xs => nxOf (nth xs k) | .none => .odd) = _
          rw [lstAt_of_get (h4.same a (by show a < m.n + 1; omega) (by simp; omega)), ha1]
          match k, hk with
          | 0, _ | 1, _ | 2, _ | 3, _ | 4, _ | 5, _ => rfl
          | k + 6, h => exact absurd h (by omega)
        refine ⟨.int 48, [.int c, .int 48, .int z, .ref m.n], m', nx, rfl, .inl ?_⟩
        have e1 : E.bin .mod (.bInt (.loc 2)) (.loc 1) (cx n) [.int c, .int 48, .int z, .ref m.n] m' = .ok (.int (z % 48)) m' := by
          rw [e_bin, e_int (e_loc _ _ _ _ (.int z) rfl (by simp)), b_ok, e_loc _ _ _ _ (.int 48) rfl (by simp), b_ok]
          rfl
        have ap : E.mAppend (.loc 3) (.bin .mod (.bInt (.loc 2)) (.loc 1)) (cx n) [.int c, .int 48, .int z, .ref m.n] m' = .ok .none (putObj m' m.n (.lst (intsV (ys ++ [z % 48])))) := e_app (e_loc _ _ _ _ (.ref m.n) rfl (by simp)) e1 h2 (by omega)
        have hlt := get_lt h4.wf h2
        rw [bl_expr, ap, b_ok, bl_asg, e_bin, e_loc _ _ _ _ (.int z) rfl (by simp), b_ok, e_loc _ _ _ _ (.int 48) rfl (by simp), b_ok, show ∀ mm, binop .fdiv (.int z) (.int 48) mm = .ok (.int (z / 48)) mm from fun mm => rfl, b_ok, t_loc, b_ok, bl_nil]
        exact ⟨_, _, rfl, .int 48, z / 48, ys ++ [z % 48], rfl, by rw [put_get h4.wf hlt, if_pos rfl], by simp [h3], h4.tr (Gr.put h4.wf hlt _)⟩)
    rcases main with ⟨σ, m', h1, y, z, ys, rfl, h2, h3, h4⟩ | ⟨_, _, _, h⟩
    · rw [h1, go_next, bl_ret, e_loc _ _ _ _ (.ref m.n) rfl (by simp), b_ok, o_ret]
      refine ⟨m', m.n, ys, rfl, h2, h3, Nat.le_refl _, ⟨h4.wf, Nat.le_trans g1.le h4.le, fun i hi _ => ?_⟩⟩
      rw [h4.same i (Nat.lt_of_lt_of_le hi g1.le) (by simp; omega), g1.same i hi (by simp)]
    · exact h.elim
  rw [bl_ite, e_cmp, l0, b_ok, e_bin, e_cst, b_ok, e_cst, b_ok, show binop .pow (.int 10) (.int 18) m = .ok (.int 1000000000000000000) m from rfl, b_ok, lt_int, tri_b, b_ok, t_b]
  by_cases hc : c < 1000000000000000000
  · rw [decide_eq_true hc, if_pos rfl]
    have x0 := Int.emod_nonneg c (show (2147483647 : Int) ≠ 0 by omega)
    have x1 := Int.emod_lt_of_pos c (show (0 : Int) < 2147483647 by omega)
    have pw : binop .pow (.int (c % 2147483647 * 48271 + 12345)) (.int 5) m = .ok (.int ((c % 2147483647 * 48271 + 12345) ^ 5)) m := by
      show powI _ _ m = _
      unfold powI
      rw [show (decide ((0 : Int) ≤ 5) && decide ((5 : Int) ≤ 1000000) && decide ((c % 2147483647 * 48271 + 12345).natAbs < 18446744073709551616)) = true from by
        rw [decide_eq_true (show (c % 2147483647 * 48271 + 12345).natAbs < 18446744073709551616 by omega)]; rfl]
      rfl
    have mu : binop .mul (.int (c % 2147483647)) (.int 48271) m = .ok (.int (c % 2147483647 * 48271)) m := mul_c rfl _ _
    rw [bl_asg, e_bin, e_bin, e_bin, e_bin, e_bin, l0, b_ok, e_cst, b_ok, show binop .mod (.int c) (.int 2147483647) m = .ok (.int (c % 2147483647)) m from rfl, b_ok, e_cst, b_ok, mu, b_ok, e_cst, b_ok, show binop .add (.int (c % 2147483647 * 48271)) (.int 12345) m = .ok (.int (c % 2147483647 * 48271 + 12345)) m from rfl, b_ok, e_cst, b_ok, pw, b_ok, e_cst, b_ok, show binop .fdiv (.int ((c % 2147483647 * 48271 + 12345) ^ 5)) (.int 1013) m = .ok (.int ((c % 2147483647 * 48271 + 12345) ^ 5 / 1013)) m from rfl, b_ok, t_loc, b_ok, bl_nil, go_next]
    exact tail _
  · rw [decide_eq_false hc, if_neg Bool.false_ne_true, bl_nil, go_next]
    exact tail c
theorem e_addL {m : M} {a b : Nat} {xs ys : List Val} (ha : m.t.get a = some (.lst xs)) (hb : m.t.get b = some (.lst ys)) (hl : xs.length + ys.length ≤ 1000) : binop .add (.ref a) (.ref b) m = .ok (.ref m.n) (allo m (.lst (xs ++ ys))) := by
  show addLst a (.ref b) m = _
  unfold addLst lstO
  simp only [ha, hb]
  unfold fits
  rw [show Nat.ble (xs ++ ys).length SIZE = true from Nat.ble_eq_true_of_le (by rw [List.length_append]; unfold SIZE; omega)]
  rfl
theorem draws_ok (n : Nat) {m : M} {a k : Nat} {xs : List Int} (hf : Full m.t m.n) (ha : lstAt m a = some (intsV xs)) : ∃ m' r ys, (cx (n + 2)).call 20 [.ref a, .int (Int.ofNat k)] m = .ok (.ref r) m' ∧ m'.t.get r = some (.lst (intsV ys)) ∧ m.n ≤ r ∧ Gr m m' [] := by
  show ∃ m' r ys, runFn f20 (cx (n + 1)) [.ref a, .int (Int.ofNat k)] m = _ ∧ _
  rw [run_fn _ _ _ _ rfl]
  unfold f20
  simp only
  show ∃ m' r ys, endOf (block (cx (n + 1)) _ [.ref a, .int (Int.ofNat k), .und, .und] m) = _ ∧ _
  have g1 := Gr.allo (S := []) hf (.lst [])
  have hn : (allo m (.lst [])).t.get m.n = some (.lst (intsV [])) := by rw [allo_get hf, if_pos rfl]; rfl
  rw [bl_asg, show E.lst [] (cx (n + 1)) [.ref a, .int (Int.ofNat k), .und, .und] m = .ok (.ref m.n) (allo m (.lst [])) from rfl, b_ok, t_loc, b_ok]
  show ∃ m' r ys, endOf (block (cx (n + 1)) _ [.ref a, .int (Int.ofNat k), .ref m.n, .und] (allo m (.lst []))) = _ ∧ _
  rw [bl_for, show It.rng1 (.cst (.int 5)) (cx (n + 1)) [.ref a, .int (Int.ofNat k), .ref m.n, .und] (allo m (.lst [])) = .ok (.rng 0 1 5) (allo m (.lst [])) from rfl, b_ok]
  have main := for_fold (f := cx (n + 1)) (t := .loc 3) (w := .rng 0 1 5) (b := [(.asg (.loc 2) (.bin .add (.loc 2) (.call 17 [(.call 16 [(.loc 0), (.bin .add (.loc 1) (.loc 3))]), (.lst [(.cst (.int 48)), (.cst (.int 48)), (.cst (.int 48)), (.cst (.int 48)), (.cst (.int 48)), (.cst (.int 48))])])))]) 5 (by omega)
    (fun q σ m' => ∃ r y ys, σ = [.ref a, .int (Int.ofNat k), .ref r, y] ∧ m'.t.get r = some (.lst (intsV ys)) ∧ ys.length ≤ 6 * q ∧ m.n ≤ r ∧ Gr m m' [])
    (fun _ _ => False) (σ0 := [.ref a, .int (Int.ofNat k), .ref m.n, .und]) (m0 := allo m (.lst [])) ⟨m.n, .und, [], rfl, hn, by simp, Nat.le_refl _, g1⟩
    (fun σ m' h => rfl)
    (fun q σ m' hq h => by
      obtain ⟨r, y, ys, rfl, h2, h3, h4, h5⟩ := h
      have nx : (ItV.rng 0 1 5).next m' q = .item (.int (Int.ofNat q)) := by
        match q, hq with
        | 0, _ | 1, _ | 2, _ | 3, _ | 4, _ => rfl
        | k + 5, h => exact absurd h (by omega)
      refine ⟨.int (Int.ofNat q), [.ref a, .int (Int.ofNat k), .ref r, .int (Int.ofNat q)], m', nx, rfl, .inl ?_⟩
      obtain ⟨m2, i, a1, a2⟩ := cell_ok n (k := k + q) h5.wf (h5.ls hf (by simp) _ _ ha)
      have g3 := Gr.allo (S := []) a2.wf (.lst (intsV [48, 48, 48, 48, 48, 48]))
      obtain ⟨m4, r2, zs, b1, b2, b3, b4, b5⟩ := numbers_ok n (c := i) g3.wf (a := m2.n) (by rw [allo_get a2.wf, if_pos rfl])
      have g24 := a2.tr (g3.tr b5)
      have h24 : m4.t.get r = some (.lst (intsV ys)) := by rw [g24.same r (get_lt h5.wf h2) (by simp)]; exact h2
      rw [bl_asg, e_bin, e_loc _ _ _ _ (.ref r) rfl (by simp), b_ok, e_call, l_cons, e_call, l_cons, e_loc _ _ _ _ (.ref a) rfl (by simp), b_ok, l_cons, show E.bin .add (.loc 1) (.loc 3) (cx (n + 1)) [.ref a, .int (Int.ofNat k), .ref r, .int (Int.ofNat q)] m' = .ok (.int (Int.ofNat (k + q))) m' from rfl, b_ok, l_nil, b_ok, b_ok, b_ok, a1, b_ok, l_cons, rep_list, b_ok, l_nil, b_ok, b_ok, b_ok, b1, b_ok, e_addL h24 b2 (by rw [List.length_map, List.length_map]; omega), b_ok, t_loc, b_ok, bl_nil]
      have g5 := Gr.allo (S := []) b5.wf (.lst (intsV ys ++ intsV zs))
      refine ⟨_, _, rfl, m4.n, .int (Int.ofNat q), ys ++ zs, rfl, ?_, by rw [List.length_append, b3]; omega, ?_, h5.tr (g24.tr g5)⟩
      · rw [allo_get b5.wf, if_pos rfl, intsV_app]
      · have := h5.le
        have := g24.le
        omega)
  rcases main with ⟨σ, m', h1, r, y, ys, rfl, h2, h3, h4, h5⟩ | ⟨_, _, _, h⟩
  · rw [h1, go_next, bl_ret, e_loc _ _ _ _ (.ref r) rfl (by simp), b_ok, o_ret]
    exact ⟨m', r, ys, rfl, h2, h4, h5⟩
  · exact h.elim
end K02
set_option Elab.async false
set_option linter.all false
set_option maxRecDepth 100000
set_option maxHeartbeats 4000000
/-! PK14: what is no sort, most often. -/
namespace K02
open MP Snd PL
theorem Pl_none (m : M) (n : Nat) : Pl m (n + 1) .none = true := rfl
theorem Pl_bool (m : M) (n : Nat) (b : Bool) : Pl m (n + 1) (.bool b) = true := rfl
theorem Pl_int (m : M) (n : Nat) (i : Int) : Pl m (n + 1) (.int i) = true := rfl
theorem Pl_str (m : M) (n : Nat) (s : List Nat) : Pl m (n + 1) (.str s) = Nat.ble s.length 1000 := rfl
theorem Pl_tup (m : M) (n : Nat) (xs : List Val) : Pl m (n + 1) (.tup xs) = (xs.all (Pl m n) && Nat.ble xs.length 60) := rfl
theorem odd_step {n : Nat} {m m1 : M} {c : Int} {v : Val} {r r1 : Nat} {es : List E} {xs ys : List Val} (hr : m.t.get r = some (.lst xs)) (hf : Full m.t m.n) (hx : xs.all (Pl m 20) = true) (hl : xs.length + ys.length ≤ 1000)
    (h : E.lst es (cx n) [.int c, v, .ref r] m = .ok (.ref r1) m1) (h1 : m1.t.get r1 = some (.lst ys)) (hp : ys.all (Pl m1 20) = true) (g : Gr m m1 []) :
    ∃ m' r', (∀ rest, block (cx n) (.asg (.loc 2) (.bin .add (.loc 2) (.lst es)) :: rest) [.int c, v, .ref r] m = block (cx n) rest [.int c, v, .ref r'] m') ∧ m'.t.get r' = some (.lst (xs ++ ys)) ∧ (xs ++ ys).all (Pl m' 20) = true ∧ Gr m m' [] := by
  have g2 := Gr.allo (S := []) g.wf (.lst (xs ++ ys))
  have gg := g.tr g2
  refine ⟨allo m1 (.lst (xs ++ ys)), m1.n, fun rest => ?_, by rw [allo_get g.wf, if_pos rfl], ?_, gg⟩
  · rw [bl_asg, e_bin, e_loc _ _ _ _ (.ref r) rfl (by simp), b_ok, h, b_ok, e_addL (by rw [g.same r (get_lt hf hr) (by simp)]; exact hr) h1 hl, b_ok, t_loc, b_ok]
    rfl
  · rw [List.all_append, List.all_eq_true.mpr fun x hx' => Pl.mono (gg.ls hf (by simp)) (List.all_eq_true.mp hx x hx'), List.all_eq_true.mpr fun y hy => Pl.mono (g2.ls g.wf (by simp)) (List.all_eq_true.mp hp y hy)]
    rfl
theorem odd_pl0 {m : M} {v : Val} {a : Nat} (hv : ∀ k, Pl m (k + 14) v = true) (ha : Pl m 19 (.ref a) = true) (ha2 : Pl m 20 (.ref a) = true) : ([.none, (.int 3), (.str [110, 117, 109]), (.ref a), (.tup []), (.tup [(.str [110, 117, 109]), (.int 1)]), (.tup [(.str [97, 110, 121]), (.int (-1))]), (.tup [(.str [97, 110, 121]), (.bool true)]), (.tup [(.str [97, 110, 121]), (.int 10000)]), (.tup [(.str [97, 110, 121]), (.str [48])]), (.tup [(.str [108, 105, 115, 116])])] : List Val).all (Pl m 20) = true := by
  have h15 := hv 1; have h16 := hv 2; have h17 := hv 3; have h18 := hv 4; have h19 := hv 5
  simp only [Nat.zero_add, Nat.reduceAdd] at h15 h16 h17 h18 h19
  simp only [List.all_cons, List.all_nil, Pl_none, Pl_bool, Pl_int, Pl_str, Pl_tup, h15, h16, h17, h18, h19, ha, ha2, Bool.and_true, Bool.true_and, List.length_cons, List.length_nil]
  try rfl
theorem odd_pl1 {m : M} {v : Val} {a : Nat} (hv : ∀ k, Pl m (k + 14) v = true) : ([(.tup [(.str [116, 111]), v, (.tup [(.tup []), .none])]), (.tup [(.str [116, 111]), v, (.tup [(.tup [(.str [112]), (.str [111])]), .none]), v]), (.tup [(.str [116, 111]), v, (.tup [(.str [111]), .none]), v])] : List Val).all (Pl m 20) = true := by
  have h15 := hv 1; have h16 := hv 2; have h17 := hv 3; have h18 := hv 4; have h19 := hv 5
  simp only [Nat.zero_add, Nat.reduceAdd] at h15 h16 h17 h18 h19
  simp only [List.all_cons, List.all_nil, Pl_none, Pl_bool, Pl_int, Pl_str, Pl_tup, h15, h16, h17, h18, h19, Bool.and_true, Bool.true_and, List.length_cons, List.length_nil]
  try rfl
theorem odd_pl2 {m : M} {v : Val} {a : Nat} (hv : ∀ k, Pl m (k + 14) v = true) : ([(.tup [(.str [116, 111]), v, (.tup [(.tup [(.str [79])]), .none]), v]), (.tup [(.str [116, 111]), v, (.tup [(.tup []), (.int 3)]), (.tup [(.str [114, 111, 119]), (.tup []), (.int 3)])]), (.tup [(.str [114, 111, 119]), (.tup []), (.str [51])]), (.tup [(.str [114, 111, 119]), (.tup [])])] : List Val).all (Pl m 20) = true := by
  have h15 := hv 1; have h16 := hv 2; have h17 := hv 3; have h18 := hv 4; have h19 := hv 5
  simp only [Nat.zero_add, Nat.reduceAdd] at h15 h16 h17 h18 h19
  simp only [List.all_cons, List.all_nil, Pl_none, Pl_bool, Pl_int, Pl_str, Pl_tup, h15, h16, h17, h18, h19, Bool.and_true, Bool.true_and, List.length_cons, List.length_nil]
  try rfl
theorem odd_pl3 {m : M} {v : Val} {a : Nat} (hv : ∀ k, Pl m (k + 14) v = true) : ([(.tup [(.str [114, 111, 119]), (.tup [(.tup [(.str [98]), v]), (.tup [(.str [97]), v])]), .none]), (.tup [(.str [114, 111, 119]), (.tup [(.tup [(.str [97]), v]), (.tup [(.str [97]), v])]), .none]), (.tup [(.str [102, 97, 114])])] : List Val).all (Pl m 20) = true := by
  have h15 := hv 1; have h16 := hv 2; have h17 := hv 3; have h18 := hv 4; have h19 := hv 5
  simp only [Nat.zero_add, Nat.reduceAdd] at h15 h16 h17 h18 h19
  simp only [List.all_cons, List.all_nil, Pl_none, Pl_bool, Pl_int, Pl_str, Pl_tup, h15, h16, h17, h18, h19, Bool.and_true, Bool.true_and, List.length_cons, List.length_nil]
  try rfl
theorem odd_pl4 {m : M} {v : Val} {a : Nat} (hv : ∀ k, Pl m (k + 14) v = true) (ha : Pl m 19 (.ref a) = true) (ha2 : Pl m 20 (.ref a) = true) : ([(.tup [(.str [114, 111, 119]), (.ref a), .none])] : List Val).all (Pl m 20) = true := by
  have h15 := hv 1; have h16 := hv 2; have h17 := hv 3; have h18 := hv 4; have h19 := hv 5
  simp only [Nat.zero_add, Nat.reduceAdd] at h15 h16 h17 h18 h19
  simp only [List.all_cons, List.all_nil, Pl_none, Pl_bool, Pl_int, Pl_str, Pl_tup, h15, h16, h17, h18, h19, ha, ha2, Bool.and_true, Bool.true_and, List.length_cons, List.length_nil]
  try rfl
theorem odd_pl5 {m : M} {v : Val} {a : Nat} (hv : ∀ k, Pl m (k + 14) v = true) : ([(.tup [(.str [114, 111, 119]), (.tup [(.tup [(.str [97]), (.tup [(.str [97, 110, 121]), (.int 4)])])]), (.int 4)]), (.tup [(.str [116, 111]), (.tup [(.str [97, 110, 121]), (.int 5)]), (.tup [(.tup []), (.int 5)]), v])] : List Val).all (Pl m 20) = true := by
  have h15 := hv 1; have h16 := hv 2; have h17 := hv 3; have h18 := hv 4; have h19 := hv 5
  simp only [Nat.zero_add, Nat.reduceAdd] at h15 h16 h17 h18 h19
  simp only [List.all_cons, List.all_nil, Pl_none, Pl_bool, Pl_int, Pl_str, Pl_tup, h15, h16, h17, h18, h19, Bool.and_true, Bool.true_and, List.length_cons, List.length_nil]
  try rfl
theorem odd_pl6 {m : M} {v : Val} {a : Nat} (hv : ∀ k, Pl m (k + 14) v = true) : ([(.tup [(.str [114, 111, 119]), (.tup [(.tup [(.str [97, 98, 99, 100, 101, 102, 103, 104, 105]), v])]), .none])] : List Val).all (Pl m 20) = true := by
  have h15 := hv 1; have h16 := hv 2; have h17 := hv 3; have h18 := hv 4; have h19 := hv 5
  simp only [Nat.zero_add, Nat.reduceAdd] at h15 h16 h17 h18 h19
  simp only [List.all_cons, List.all_nil, Pl_none, Pl_bool, Pl_int, Pl_str, Pl_tup, h15, h16, h17, h18, h19, Bool.and_true, Bool.true_and, List.length_cons, List.length_nil]
  try rfl
theorem odd_pl7 {m : M} {v : Val} {a : Nat} (hv : ∀ k, Pl m (k + 14) v = true) : ([(.tup [(.str [108, 105, 115, 116]), (.tup [(.str [116, 111]), v, (.tup [(.tup []), .none]), v])]), (.tup [(.str [114, 111, 119]), (.tup [(.tup [(.str [97]), v]), (.tup [(.str [98]), v])]), (.int 9999)])] : List Val).all (Pl m 20) = true := by
  have h15 := hv 1; have h16 := hv 2; have h17 := hv 3; have h18 := hv 4; have h19 := hv 5
  simp only [Nat.zero_add, Nat.reduceAdd] at h15 h16 h17 h18 h19
  simp only [List.all_cons, List.all_nil, Pl_none, Pl_bool, Pl_int, Pl_str, Pl_tup, h15, h16, h17, h18, h19, Bool.and_true, Bool.true_and, List.length_cons, List.length_nil]
  try rfl
theorem odd_pl8 {m : M} {v : Val} {a : Nat} (hv : ∀ k, Pl m (k + 14) v = true) : ([(.tup [(.str [116, 111]), v, (.tup [(.tup [(.str [111]), (.str [111])]), (.int 9)]), v])] : List Val).all (Pl m 20) = true := by
  have h15 := hv 1; have h16 := hv 2; have h17 := hv 3; have h18 := hv 4; have h19 := hv 5
  simp only [Nat.zero_add, Nat.reduceAdd] at h15 h16 h17 h18 h19
  simp only [List.all_cons, List.all_nil, Pl_none, Pl_bool, Pl_int, Pl_str, Pl_tup, h15, h16, h17, h18, h19, Bool.and_true, Bool.true_and, List.length_cons, List.length_nil]
  try rfl
theorem odd_ok (n : Nat) {m : M} {c : Int} {vs : List Val} (hf : Full m.t m.n) (hv : ∀ m k, Pl m (k + 14) (.tup vs) = true) : ∃ m' w, (cx (n + 1)).call 25 [.int c, .tup vs] m = .ok w m' ∧ Pl m' 20 w = true ∧ Gr m m' [] := by
  show ∃ m' w, runFn f25 (cx n) [.int c, .tup vs] m = _ ∧ _
  rw [run_fn _ _ _ _ rfl]
  unfold f25
  simp only
  show ∃ m' w, endOf (block (cx n) _ [.int c, .tup vs, .und] m) = _ ∧ _
  have g0 := Gr.allo (S := []) hf (.lst [(.str [110, 117, 109])])
  have g1 := Gr.allo (S := []) g0.wf (.lst [.none, (.int 3), (.str [110, 117, 109]), (.ref m.n), (.tup []), (.tup [(.str [110, 117, 109]), (.int 1)]), (.tup [(.str [97, 110, 121]), (.int (-1))]), (.tup [(.str [97, 110, 121]), (.bool true)]), (.tup [(.str [97, 110, 121]), (.int 10000)]), (.tup [(.str [97, 110, 121]), (.str [48])]), (.tup [(.str [108, 105, 115, 116])])])
  have g01 := g0.tr g1
  rw [bl_asg, show E.lst [(.cst .none), (.cst (.int 3)), (.cst (.str [110, 117, 109])), (.lst [(.cst (.str [110, 117, 109]))]), (.tup []), (.tup [(.cst (.str [110, 117, 109])), (.cst (.int 1))]), (.tup [(.cst (.str [97, 110, 121])), (.neg (.cst (.int 1)))]), (.tup [(.cst (.str [97, 110, 121])), (.cst (.bool true))]), (.tup [(.cst (.str [97, 110, 121])), (.cst (.int 10000))]), (.tup [(.cst (.str [97, 110, 121])), (.cst (.str [48]))]), (.tup [(.cst (.str [108, 105, 115, 116]))])] (cx n) [.int c, .tup vs, .und] m = .ok (.ref (m.n + 1)) (allo (allo m (.lst [(.str [110, 117, 109])])) (.lst [.none, (.int 3), (.str [110, 117, 109]), (.ref m.n), (.tup []), (.tup [(.str [110, 117, 109]), (.int 1)]), (.tup [(.str [97, 110, 121]), (.int (-1))]), (.tup [(.str [97, 110, 121]), (.bool true)]), (.tup [(.str [97, 110, 121]), (.int 10000)]), (.tup [(.str [97, 110, 121]), (.str [48])]), (.tup [(.str [108, 105, 115, 116])])])) from rfl, b_ok, t_loc, b_ok]
  show ∃ m' w, endOf (block (cx n) _ [.int c, .tup vs, .ref (m.n + 1)] (allo (allo m (.lst [(.str [110, 117, 109])])) (.lst [.none, (.int 3), (.str [110, 117, 109]), (.ref m.n), (.tup []), (.tup [(.str [110, 117, 109]), (.int 1)]), (.tup [(.str [97, 110, 121]), (.int (-1))]), (.tup [(.str [97, 110, 121]), (.bool true)]), (.tup [(.str [97, 110, 121]), (.int 10000)]), (.tup [(.str [97, 110, 121]), (.str [48])]), (.tup [(.str [108, 105, 115, 116])])]))) = _ ∧ _
  have lq : lstAt (allo (allo m (.lst [(.str [110, 117, 109])])) (.lst [.none, (.int 3), (.str [110, 117, 109]), (.ref m.n), (.tup []), (.tup [(.str [110, 117, 109]), (.int 1)]), (.tup [(.str [97, 110, 121]), (.int (-1))]), (.tup [(.str [97, 110, 121]), (.bool true)]), (.tup [(.str [97, 110, 121]), (.int 10000)]), (.tup [(.str [97, 110, 121]), (.str [48])]), (.tup [(.str [108, 105, 115, 116])])])) m.n = some [(.str [110, 117, 109])] := g1.ls g0.wf (by simp) _ _ (lst_allo hf _)
  have al : ([.none, (.int 3), (.str [110, 117, 109]), (.ref m.n), (.tup []), (.tup [(.str [110, 117, 109]), (.int 1)]), (.tup [(.str [97, 110, 121]), (.int (-1))]), (.tup [(.str [97, 110, 121]), (.bool true)]), (.tup [(.str [97, 110, 121]), (.int 10000)]), (.tup [(.str [97, 110, 121]), (.str [48])]), (.tup [(.str [108, 105, 115, 116])])] : List Val).all (Pl (allo (allo m (.lst [(.str [110, 117, 109])])) (.lst [.none, (.int 3), (.str [110, 117, 109]), (.ref m.n), (.tup []), (.tup [(.str [110, 117, 109]), (.int 1)]), (.tup [(.str [97, 110, 121]), (.int (-1))]), (.tup [(.str [97, 110, 121]), (.bool true)]), (.tup [(.str [97, 110, 121]), (.int 10000)]), (.tup [(.str [97, 110, 121]), (.str [48])]), (.tup [(.str [108, 105, 115, 116])])])) 20) = true := odd_pl0 (v := .tup vs) (hv _) (by show (match lstAt _ m.n with | some xs => xs.all (Pl _ 18) | none => false) = true; rw [lq]; rfl) (by show (match lstAt _ m.n with | some xs => xs.all (Pl _ 19) | none => false) = true; rw [lq]; rfl)
  have go : (allo (allo m (.lst [(.str [110, 117, 109])])) (.lst [.none, (.int 3), (.str [110, 117, 109]), (.ref m.n), (.tup []), (.tup [(.str [110, 117, 109]), (.int 1)]), (.tup [(.str [97, 110, 121]), (.int (-1))]), (.tup [(.str [97, 110, 121]), (.bool true)]), (.tup [(.str [97, 110, 121]), (.int 10000)]), (.tup [(.str [97, 110, 121]), (.str [48])]), (.tup [(.str [108, 105, 115, 116])])])).t.get (m.n + 1) = some (.lst [.none, (.int 3), (.str [110, 117, 109]), (.ref m.n), (.tup []), (.tup [(.str [110, 117, 109]), (.int 1)]), (.tup [(.str [97, 110, 121]), (.int (-1))]), (.tup [(.str [97, 110, 121]), (.bool true)]), (.tup [(.str [97, 110, 121]), (.int 10000)]), (.tup [(.str [97, 110, 121]), (.str [48])]), (.tup [(.str [108, 105, 115, 116])])]) := by rw [allo_get g0.wf]; exact if_pos rfl
  generalize hM : allo (allo m (.lst [(.str [110, 117, 109])])) (.lst [.none, (.int 3), (.str [110, 117, 109]), (.ref m.n), (.tup []), (.tup [(.str [110, 117, 109]), (.int 1)]), (.tup [(.str [97, 110, 121]), (.int (-1))]), (.tup [(.str [97, 110, 121]), (.bool true)]), (.tup [(.str [97, 110, 121]), (.int 10000)]), (.tup [(.str [97, 110, 121]), (.str [48])]), (.tup [(.str [108, 105, 115, 116])])]) = m1 at g01 al go ⊢
  clear g0 g1 lq hM
  obtain ⟨xs1, ex1⟩ : ∃ xs1, xs1 = ([.none, (.int 3), (.str [110, 117, 109]), (.ref m.n), (.tup []), (.tup [(.str [110, 117, 109]), (.int 1)]), (.tup [(.str [97, 110, 121]), (.int (-1))]), (.tup [(.str [97, 110, 121]), (.bool true)]), (.tup [(.str [97, 110, 121]), (.int 10000)]), (.tup [(.str [97, 110, 121]), (.str [48])]), (.tup [(.str [108, 105, 115, 116])])] : List Val) := ⟨_, rfl⟩
  have n1 : xs1.length = 11 := by rw [ex1]; rfl
  rw [← ex1] at al go
  clear ex1
  generalize m.n + 1 = r1 at go ⊢
  have G1 := g01
  obtain ⟨m2, r2, E2, go2, al2, H2⟩ := odd_step (n := n) (c := c) (v := .tup vs) (es := [(.tup [(.cst (.str [116, 111])), (.loc 1), (.tup [(.tup []), (.cst .none)])]), (.tup [(.cst (.str [116, 111])), (.loc 1), (.tup [(.tup [(.cst (.str [112])), (.cst (.str [111]))]), (.cst .none)]), (.loc 1)]), (.tup [(.cst (.str [116, 111])), (.loc 1), (.tup [(.cst (.str [111])), (.cst .none)]), (.loc 1)])]) (ys := [(.tup [(.str [116, 111]), .tup vs, (.tup [(.tup []), .none])]), (.tup [(.str [116, 111]), .tup vs, (.tup [(.tup [(.str [112]), (.str [111])]), .none]), .tup vs]), (.tup [(.str [116, 111]), .tup vs, (.tup [(.str [111]), .none]), .tup vs])]) go G1.wf al (by rw [n1]; simp) (show E.lst _ (cx n) _ _ = .ok (.ref m1.n) (allo m1 (.lst [(.tup [(.str [116, 111]), .tup vs, (.tup [(.tup []), .none])]), (.tup [(.str [116, 111]), .tup vs, (.tup [(.tup [(.str [112]), (.str [111])]), .none]), .tup vs]), (.tup [(.str [116, 111]), .tup vs, (.tup [(.str [111]), .none]), .tup vs])])) from rfl) (by rw [allo_get G1.wf, if_pos rfl]) (odd_pl1 (v := .tup vs) (a := 0) (hv _)) (Gr.allo G1.wf _)
  rw [E2]
  obtain ⟨xs2, ex2⟩ : ∃ xs2, xs2 = (xs1 ++ ([(.tup [(.str [116, 111]), .tup vs, (.tup [(.tup []), .none])]), (.tup [(.str [116, 111]), .tup vs, (.tup [(.tup [(.str [112]), (.str [111])]), .none]), .tup vs]), (.tup [(.str [116, 111]), .tup vs, (.tup [(.str [111]), .none]), .tup vs])] : List Val)) := ⟨_, rfl⟩
  have n2 : xs2.length = 14 := by rw [ex2, List.length_append, n1]; rfl
  rw [← ex2] at al2 go2
  clear ex2 E2
  have G2 := G1.tr H2
  obtain ⟨m3, r3, E3, go3, al3, H3⟩ := odd_step (n := n) (c := c) (v := .tup vs) (es := [(.tup [(.cst (.str [116, 111])), (.loc 1), (.tup [(.tup [(.cst (.str [79]))]), (.cst .none)]), (.loc 1)]), (.tup [(.cst (.str [116, 111])), (.loc 1), (.tup [(.tup []), (.cst (.int 3))]), (.tup [(.cst (.str [114, 111, 119])), (.tup []), (.cst (.int 3))])]), (.tup [(.cst (.str [114, 111, 119])), (.tup []), (.cst (.str [51]))]), (.tup [(.cst (.str [114, 111, 119])), (.tup [])])]) (ys := [(.tup [(.str [116, 111]), .tup vs, (.tup [(.tup [(.str [79])]), .none]), .tup vs]), (.tup [(.str [116, 111]), .tup vs, (.tup [(.tup []), (.int 3)]), (.tup [(.str [114, 111, 119]), (.tup []), (.int 3)])]), (.tup [(.str [114, 111, 119]), (.tup []), (.str [51])]), (.tup [(.str [114, 111, 119]), (.tup [])])]) go2 G2.wf al2 (by rw [n2]; simp) (show E.lst _ (cx n) _ _ = .ok (.ref m2.n) (allo m2 (.lst [(.tup [(.str [116, 111]), .tup vs, (.tup [(.tup [(.str [79])]), .none]), .tup vs]), (.tup [(.str [116, 111]), .tup vs, (.tup [(.tup []), (.int 3)]), (.tup [(.str [114, 111, 119]), (.tup []), (.int 3)])]), (.tup [(.str [114, 111, 119]), (.tup []), (.str [51])]), (.tup [(.str [114, 111, 119]), (.tup [])])])) from rfl) (by rw [allo_get G2.wf, if_pos rfl]) (odd_pl2 (v := .tup vs) (a := 0) (hv _)) (Gr.allo G2.wf _)
  rw [E3]
  obtain ⟨xs3, ex3⟩ : ∃ xs3, xs3 = (xs2 ++ ([(.tup [(.str [116, 111]), .tup vs, (.tup [(.tup [(.str [79])]), .none]), .tup vs]), (.tup [(.str [116, 111]), .tup vs, (.tup [(.tup []), (.int 3)]), (.tup [(.str [114, 111, 119]), (.tup []), (.int 3)])]), (.tup [(.str [114, 111, 119]), (.tup []), (.str [51])]), (.tup [(.str [114, 111, 119]), (.tup [])])] : List Val)) := ⟨_, rfl⟩
  have n3 : xs3.length = 18 := by rw [ex3, List.length_append, n2]; rfl
  rw [← ex3] at al3 go3
  clear ex3 E3
  have G3 := G2.tr H3
  obtain ⟨m4, r4, E4, go4, al4, H4⟩ := odd_step (n := n) (c := c) (v := .tup vs) (es := [(.tup [(.cst (.str [114, 111, 119])), (.tup [(.tup [(.cst (.str [98])), (.loc 1)]), (.tup [(.cst (.str [97])), (.loc 1)])]), (.cst .none)]), (.tup [(.cst (.str [114, 111, 119])), (.tup [(.tup [(.cst (.str [97])), (.loc 1)]), (.tup [(.cst (.str [97])), (.loc 1)])]), (.cst .none)]), (.tup [(.cst (.str [102, 97, 114]))])]) (ys := [(.tup [(.str [114, 111, 119]), (.tup [(.tup [(.str [98]), .tup vs]), (.tup [(.str [97]), .tup vs])]), .none]), (.tup [(.str [114, 111, 119]), (.tup [(.tup [(.str [97]), .tup vs]), (.tup [(.str [97]), .tup vs])]), .none]), (.tup [(.str [102, 97, 114])])]) go3 G3.wf al3 (by rw [n3]; simp) (show E.lst _ (cx n) _ _ = .ok (.ref m3.n) (allo m3 (.lst [(.tup [(.str [114, 111, 119]), (.tup [(.tup [(.str [98]), .tup vs]), (.tup [(.str [97]), .tup vs])]), .none]), (.tup [(.str [114, 111, 119]), (.tup [(.tup [(.str [97]), .tup vs]), (.tup [(.str [97]), .tup vs])]), .none]), (.tup [(.str [102, 97, 114])])])) from rfl) (by rw [allo_get G3.wf, if_pos rfl]) (odd_pl3 (v := .tup vs) (a := 0) (hv _)) (Gr.allo G3.wf _)
  rw [E4]
  obtain ⟨xs4, ex4⟩ : ∃ xs4, xs4 = (xs3 ++ ([(.tup [(.str [114, 111, 119]), (.tup [(.tup [(.str [98]), .tup vs]), (.tup [(.str [97]), .tup vs])]), .none]), (.tup [(.str [114, 111, 119]), (.tup [(.tup [(.str [97]), .tup vs]), (.tup [(.str [97]), .tup vs])]), .none]), (.tup [(.str [102, 97, 114])])] : List Val)) := ⟨_, rfl⟩
  have n4 : xs4.length = 21 := by rw [ex4, List.length_append, n3]; rfl
  rw [← ex4] at al4 go4
  clear ex4 E4
  have G4 := G3.tr H4
  have a4 := Gr.allo (S := []) G4.wf (.lst [])
  have b4 := Gr.allo (S := []) a4.wf (.lst [(.tup [(.str [114, 111, 119]), (.ref m4.n), .none])])
  have lq4 : lstAt (allo (allo m4 (.lst [])) (.lst [(.tup [(.str [114, 111, 119]), (.ref m4.n), .none])])) m4.n = some [] := b4.ls a4.wf (by simp) _ _ (lst_allo G4.wf _)
  obtain ⟨m5, r5, E5, go5, al5, H5⟩ := odd_step (n := n) (c := c) (v := .tup vs) (es := [(.tup [(.cst (.str [114, 111, 119])), (.lst []), (.cst .none)])]) (ys := [(.tup [(.str [114, 111, 119]), (.ref m4.n), .none])]) go4 G4.wf al4 (by rw [n4]; simp) (show E.lst _ (cx n) _ _ = .ok (.ref (m4.n + 1)) (allo (allo m4 (.lst [])) (.lst [(.tup [(.str [114, 111, 119]), (.ref m4.n), .none])])) from rfl) (by rw [allo_get a4.wf]; exact if_pos rfl) (odd_pl4 (v := .tup vs) (a := m4.n) (hv _) (by show (match lstAt _ m4.n with | some xs => xs.all (Pl _ 18) | none => false) = true; rw [lq4]; rfl) (by show (match lstAt _ m4.n with | some xs => xs.all (Pl _ 19) | none => false) = true; rw [lq4]; rfl)) (a4.tr b4)
  rw [E5]
  obtain ⟨xs5, ex5⟩ : ∃ xs5, xs5 = (xs4 ++ ([(.tup [(.str [114, 111, 119]), (.ref m4.n), .none])] : List Val)) := ⟨_, rfl⟩
  have n5 : xs5.length = 22 := by rw [ex5, List.length_append, n4]; rfl
  rw [← ex5] at al5 go5
  clear ex5 E5
  have G5 := G4.tr H5
  obtain ⟨m6, r6, E6, go6, al6, H6⟩ := odd_step (n := n) (c := c) (v := .tup vs) (es := [(.tup [(.cst (.str [114, 111, 119])), (.tup [(.tup [(.cst (.str [97])), (.tup [(.cst (.str [97, 110, 121])), (.cst (.int 4))])])]), (.cst (.int 4))]), (.tup [(.cst (.str [116, 111])), (.tup [(.cst (.str [97, 110, 121])), (.cst (.int 5))]), (.tup [(.tup []), (.cst (.int 5))]), (.loc 1)])]) (ys := [(.tup [(.str [114, 111, 119]), (.tup [(.tup [(.str [97]), (.tup [(.str [97, 110, 121]), (.int 4)])])]), (.int 4)]), (.tup [(.str [116, 111]), (.tup [(.str [97, 110, 121]), (.int 5)]), (.tup [(.tup []), (.int 5)]), .tup vs])]) go5 G5.wf al5 (by rw [n5]; simp) (show E.lst _ (cx n) _ _ = .ok (.ref m5.n) (allo m5 (.lst [(.tup [(.str [114, 111, 119]), (.tup [(.tup [(.str [97]), (.tup [(.str [97, 110, 121]), (.int 4)])])]), (.int 4)]), (.tup [(.str [116, 111]), (.tup [(.str [97, 110, 121]), (.int 5)]), (.tup [(.tup []), (.int 5)]), .tup vs])])) from rfl) (by rw [allo_get G5.wf, if_pos rfl]) (odd_pl5 (v := .tup vs) (a := 0) (hv _)) (Gr.allo G5.wf _)
  rw [E6]
  obtain ⟨xs6, ex6⟩ : ∃ xs6, xs6 = (xs5 ++ ([(.tup [(.str [114, 111, 119]), (.tup [(.tup [(.str [97]), (.tup [(.str [97, 110, 121]), (.int 4)])])]), (.int 4)]), (.tup [(.str [116, 111]), (.tup [(.str [97, 110, 121]), (.int 5)]), (.tup [(.tup []), (.int 5)]), .tup vs])] : List Val)) := ⟨_, rfl⟩
  have n6 : xs6.length = 24 := by rw [ex6, List.length_append, n5]; rfl
  rw [← ex6] at al6 go6
  clear ex6 E6
  have G6 := G5.tr H6
  obtain ⟨m7, r7, E7, go7, al7, H7⟩ := odd_step (n := n) (c := c) (v := .tup vs) (es := [(.tup [(.cst (.str [114, 111, 119])), (.tup [(.tup [(.cst (.str [97, 98, 99, 100, 101, 102, 103, 104, 105])), (.loc 1)])]), (.cst .none)])]) (ys := [(.tup [(.str [114, 111, 119]), (.tup [(.tup [(.str [97, 98, 99, 100, 101, 102, 103, 104, 105]), .tup vs])]), .none])]) go6 G6.wf al6 (by rw [n6]; simp) (show E.lst _ (cx n) _ _ = .ok (.ref m6.n) (allo m6 (.lst [(.tup [(.str [114, 111, 119]), (.tup [(.tup [(.str [97, 98, 99, 100, 101, 102, 103, 104, 105]), .tup vs])]), .none])])) from rfl) (by rw [allo_get G6.wf, if_pos rfl]) (odd_pl6 (v := .tup vs) (a := 0) (hv _)) (Gr.allo G6.wf _)
  rw [E7]
  obtain ⟨xs7, ex7⟩ : ∃ xs7, xs7 = (xs6 ++ ([(.tup [(.str [114, 111, 119]), (.tup [(.tup [(.str [97, 98, 99, 100, 101, 102, 103, 104, 105]), .tup vs])]), .none])] : List Val)) := ⟨_, rfl⟩
  have n7 : xs7.length = 25 := by rw [ex7, List.length_append, n6]; rfl
  rw [← ex7] at al7 go7
  clear ex7 E7
  have G7 := G6.tr H7
  obtain ⟨m8, r8, E8, go8, al8, H8⟩ := odd_step (n := n) (c := c) (v := .tup vs) (es := [(.tup [(.cst (.str [108, 105, 115, 116])), (.tup [(.cst (.str [116, 111])), (.loc 1), (.tup [(.tup []), (.cst .none)]), (.loc 1)])]), (.tup [(.cst (.str [114, 111, 119])), (.tup [(.tup [(.cst (.str [97])), (.loc 1)]), (.tup [(.cst (.str [98])), (.loc 1)])]), (.cst (.int 9999))])]) (ys := [(.tup [(.str [108, 105, 115, 116]), (.tup [(.str [116, 111]), .tup vs, (.tup [(.tup []), .none]), .tup vs])]), (.tup [(.str [114, 111, 119]), (.tup [(.tup [(.str [97]), .tup vs]), (.tup [(.str [98]), .tup vs])]), (.int 9999)])]) go7 G7.wf al7 (by rw [n7]; simp) (show E.lst _ (cx n) _ _ = .ok (.ref m7.n) (allo m7 (.lst [(.tup [(.str [108, 105, 115, 116]), (.tup [(.str [116, 111]), .tup vs, (.tup [(.tup []), .none]), .tup vs])]), (.tup [(.str [114, 111, 119]), (.tup [(.tup [(.str [97]), .tup vs]), (.tup [(.str [98]), .tup vs])]), (.int 9999)])])) from rfl) (by rw [allo_get G7.wf, if_pos rfl]) (odd_pl7 (v := .tup vs) (a := 0) (hv _)) (Gr.allo G7.wf _)
  rw [E8]
  obtain ⟨xs8, ex8⟩ : ∃ xs8, xs8 = (xs7 ++ ([(.tup [(.str [108, 105, 115, 116]), (.tup [(.str [116, 111]), .tup vs, (.tup [(.tup []), .none]), .tup vs])]), (.tup [(.str [114, 111, 119]), (.tup [(.tup [(.str [97]), .tup vs]), (.tup [(.str [98]), .tup vs])]), (.int 9999)])] : List Val)) := ⟨_, rfl⟩
  have n8 : xs8.length = 27 := by rw [ex8, List.length_append, n7]; rfl
  rw [← ex8] at al8 go8
  clear ex8 E8
  have G8 := G7.tr H8
  obtain ⟨m9, r9, E9, go9, al9, H9⟩ := odd_step (n := n) (c := c) (v := .tup vs) (es := [(.tup [(.cst (.str [116, 111])), (.loc 1), (.tup [(.tup [(.cst (.str [111])), (.cst (.str [111]))]), (.cst (.int 9))]), (.loc 1)])]) (ys := [(.tup [(.str [116, 111]), .tup vs, (.tup [(.tup [(.str [111]), (.str [111])]), (.int 9)]), .tup vs])]) go8 G8.wf al8 (by rw [n8]; simp) (show E.lst _ (cx n) _ _ = .ok (.ref m8.n) (allo m8 (.lst [(.tup [(.str [116, 111]), .tup vs, (.tup [(.tup [(.str [111]), (.str [111])]), (.int 9)]), .tup vs])])) from rfl) (by rw [allo_get G8.wf, if_pos rfl]) (odd_pl8 (v := .tup vs) (a := 0) (hv _)) (Gr.allo G8.wf _)
  rw [E9]
  obtain ⟨xs9, ex9⟩ : ∃ xs9, xs9 = (xs8 ++ ([(.tup [(.str [116, 111]), .tup vs, (.tup [(.tup [(.str [111]), (.str [111])]), (.int 9)]), .tup vs])] : List Val)) := ⟨_, rfl⟩
  have n9 : xs9.length = 28 := by rw [ex9, List.length_append, n8]; rfl
  rw [← ex9] at al9 go9
  clear ex9 E9
  have G9 := G8.tr H9
  have lr := lst_at go9
  obtain ⟨i, hi1, hi2⟩ := mod_ok c (k := 28) (K := 28) rfl (by omega) m9
  rw [bl_ret, e_idx, e_loc _ _ _ _ (.ref r9) rfl (by simp), b_ok, e_bin, e_loc _ _ _ _ (.int c) rfl (by simp), b_ok, len_lst (e_loc _ _ _ _ (.ref r9) rfl (by simp)) lr, n9, b_ok, show ((28 : Nat) : Int) = (28 : Int) from rfl, hi1, b_ok, item_ref lr (by rw [n9]; exact hi2), b_ok, o_ret]
  exact ⟨m9, _, rfl, List.all_eq_true.mp al9 _ (List.getElem_mem _), G9⟩
end K02
set_option Elab.async false
set_option linter.all false
set_option maxRecDepth 100000
set_option maxHeartbeats 4000000
/-! PK15: deep sorts, and the law. -/
namespace K02
open MP Snd PL
theorem abc_item {f : Cx} {σ : List Val} {m : M} {i k : Nat} (hk : k < 26) (h : nth σ i = some (.int (Int.ofNat k))) : ∃ c, E.idx (.cst (.str LET)) (.loc i) f σ m = .ok (.str [c]) m := by
  rw [e_idx, e_cst, b_ok, e_loc _ _ _ _ _ h (by simp), b_ok]
  show ∃ c, fits LET (getAt LET (.int (Int.ofNat k)) fun c => R.ok (Val.str [c]) m) = _
  unfold fits
  rw [show Nat.ble LET.length SIZE = true from rfl]
  show ∃ c, getAt LET (.int (Int.ofNat k)) (fun c => R.ok (Val.str [c]) m) = _
  unfold getAt ixOf
  have hk' : k < LET.length := hk
  simp only [show Nat.blt k LET.length = true from Nat.ble_eq_true_of_le hk', nth_get?, List.getElem?_eq_getElem hk']
  exact ⟨_, rfl⟩
theorem inRng_ok {K : Nat} (h : K ≤ 1000) : It.inRng (Int.ofNat K) = true := by
  have h1 : (-4611686018427387904 : Int) ≤ Int.ofNat K := Int.le_trans (by decide) (Int.natCast_nonneg K)
  have h2 : (Int.ofNat K : Int) < 4611686018427387904 := Int.lt_of_le_of_lt (b := 1000) (Int.ofNat_le.mpr h) (by decide)
  unfold It.inRng
  rw [decide_eq_true h1, decide_eq_true h2]
  rfl
theorem rng1_gen {f : Cx} {σ : List Val} {m : M} {b : Int} {e0 : E} (h0 : e0 f σ m = .ok (.int b) m) (hr : It.inRng b = true) : It.rng1 e0 f σ m = .ok (.rng 0 1 b.toNat) m := by
  unfold It.rng1
  rw [l_cons, h0, b_ok, l_nil, b_ok, b_ok]
  show (match It.inRng b with | true => R.ok (ItV.rng 0 1 b.toNat) m | false => .bad 90) = _
  rw [hr]
theorem rng1_ok {f : Cx} {σ : List Val} {m : M} {K : Nat} {e0 : E} (h0 : e0 f σ m = .ok (.int (Int.ofNat K)) m) (hK : K ≤ 1000) : It.rng1 e0 f σ m = .ok (.rng 0 1 K) m := rng1_gen h0 (inRng_ok hK)
/-- a row's pairs: letters, all of one sort -/
theorem abc_ok {f : Cx} {σ : List Val} {m : M} {i K D : Nat} {e0 ex : E} {w : Val} (hf : Full m.t m.n) (hK : K ≤ 26) (hi : i < σ.length) (h0 : e0 f σ m = .ok (.int (Int.ofNat K)) m) (he : ∀ z, ex f (setN z (wipe [i] σ) i) m = .ok w m) (hw : ∀ m, Pl m (D + 1) w = true) :
    ∃ xs m', E.bTuple (.lc (.loc i) (.rng1 e0) [i] none (.tup [.idx (.cst (.str [97,98,99,100,101,102,103,104,105,106,107,108,109,110,111,112,113,114,115,116,117,118,119,120,121,122])) (.loc i), ex])) f σ m = .ok (.tup xs) m' ∧ (∀ m, Pl m (D + 3) (.tup xs) = true) ∧ Gr m m' [] := by
  have hit := rng1_ok h0 (show K ≤ 1000 by omega)
  obtain ⟨acc, m1, h1, h2, h3, h4⟩ := comp_fold (f := f) (t := .loc i) (w := .rng 0 1 K) (c := none) (e := .tup [.idx (.cst (.str LET)) (.loc i), ex]) (σ := wipe [i] σ) K (by omega) (fun k acc m' => (∀ z ∈ acc, ∀ m, Pl m (D + 2) z = true) ∧ acc.length = k ∧ m' = m) (m0 := m) ⟨fun z hz => (by cases hz), rfl, rfl⟩
    (fun acc m' _ => by
      show (match Nat.blt K K with | true => Nx.item (.int (0 + Int.ofNat K * 1)) | false => .done) = _
      rw [show Nat.blt K K = false from by
        cases q : Nat.blt K K with
        | false => rfl
        | true => exact absurd (Nat.le_of_ble_eq_true q) (by omega)]) (fun k acc m' hk ⟨e1, e2, e3⟩ => by
      subst e3
      obtain ⟨c, hc⟩ := abc_item (f := f) (σ := setN (.int (Int.ofNat k)) (wipe [i] σ) i) (m := m') (i := i) (k := k) (by omega) (nth_setN _ _ _ (by rw [wipe_len]; exact hi))
      have nx : (ItV.rng 0 1 K).next m' k = .item (.int (Int.ofNat k)) := by
        show (match Nat.blt k K with | true => Nx.item (.int (0 + Int.ofNat k * 1)) | false => .done) = _
        rw [show Nat.blt k K = true from Nat.ble_eq_true_of_le hk]
        show Nx.item (.int (0 + Int.ofNat k * 1)) = _
        rw [Int.zero_add, Int.mul_one]
      refine ⟨_, _, _, nx, rfl, .tup [.str [c], w], m', ?_, fun z hz => ?_, by simp [e2], rfl⟩
      · rw [e_tup, l_cons, hc, b_ok, l_cons, he, b_ok, l_nil, b_ok, b_ok, b_ok]
      · rcases List.mem_cons.mp hz with rfl | hz
        · intro m
          refine Pl.mk (D := D + 1) (fun z hz => ?_) (by simp)
          simp only [List.mem_cons, List.not_mem_nil, or_false] at hz
          rcases hz with rfl | rfl
          · exact plw (by simp)
          · exact hw m
        · exact e1 z hz)
  subst h4
  have hlc := e_lc (.loc i) (.rng1 e0) [i] none (.tup [.idx (.cst (.str LET)) (.loc i), ex]) f σ m1 _ _ _ _ hit h1 (by omega)
  refine ⟨acc.reverse, _, tuple_of hlc (lst_allo hf _), fun m => ?_, Gr.allo hf _⟩
  exact Pl.mk (D := D + 2) (fun z hz => h2 z (List.mem_reverse.mp hz) m) (by rw [List.length_reverse]; omega)
theorem row_of_ok (n : Nat) {m : M} {K : Nat} (hf : Full m.t m.n) (hK : K ≤ 26) : ∃ m' xs, (cx (n + 1)).call 27 [.int (Int.ofNat K)] m = .ok (.tup xs) m' ∧ (∀ m, Pl m 5 (.tup xs) = true) ∧ Gr m m' [] := by
  obtain ⟨v, ev⟩ : ∃ v, v = Val.int (Int.ofNat K) := ⟨_, rfl⟩
  rw [← ev]
  show ∃ m' xs, runFn f27 (cx n) [v] m = _ ∧ _
  rw [run_fn _ _ _ _ rfl]
  unfold f27
  simp only
  show ∃ m' xs, endOf (block (cx n) _ [v, .und] m) = _ ∧ _
  obtain ⟨xs, m1, a1, a2, a3⟩ := abc_ok (f := cx n) (σ := [v, .und]) (m := m) (i := 1) (K := K) (e0 := .loc 0) (ex := .tup [.cst (.str wNUM)]) (w := .tup [.str wNUM]) (D := 1) hf hK (by simp) (by rw [← ev]; exact e_loc _ _ _ _ _ rfl (by rw [ev]; simp)) (fun z => rfl) (fun m => rfl)
  rw [bl_ret, e_tup, l_cons, e_cst, b_ok, l_cons, show ([110,117,109] : List Nat) = wNUM from rfl, a1, b_ok, l_cons, e_cst, b_ok, l_nil, b_ok, b_ok, b_ok, b_ok, b_ok, o_ret]
  refine ⟨m1, _, rfl, fun m => ?_, a3⟩
  refine Pl.mk (D := 4) (fun z hz => ?_) (by simp)
  simp only [List.mem_cons, List.not_mem_nil, or_false] at hz
  rcases hz with rfl | rfl | rfl
  · exact plw (by decide)
  · exact a2 m
  · rfl
theorem deep_ok (n : Nat) {m : M} {c : Int} (hf : Full m.t m.n) : ∃ m' xs, (cx (n + 2)).call 26 [.int c] m = .ok (.tup xs) m' ∧ (∀ m, Pl m 70 (.tup xs) = true) ∧ Gr m m' [] := by
  show ∃ m' xs, runFn f26 (cx (n + 1)) [.int c] m = _ ∧ _
  rw [run_fn _ _ _ _ rfl]
  unfold f26
  simp only
  show ∃ m' xs, endOf (block (cx (n + 1)) _ [.int c, .und, .und, .und, .und, .und] m) = _ ∧ _
  have g1 := Gr.allo (S := []) hf (.lst (intsV [59, 60, 61, 400, 401]))
  obtain ⟨i, hi1, hi2⟩ := mod_ok c (k := 5) (K := 5) rfl (by omega) (allo m (.lst (intsV [59, 60, 61, 400, 401])))
  rw [bl_asg, e_idx, show E.lst [(.cst (.int 59)), (.cst (.int 60)), (.cst (.int 61)), (.cst (.int 400)), (.cst (.int 401))] (cx (n + 1)) [.int c, .und, .und, .und, .und, .und] m = .ok (.ref m.n) (allo m (.lst (intsV [59, 60, 61, 400, 401]))) from rfl, b_ok, e_bin, e_loc _ _ _ _ (.int c) rfl (by simp), b_ok, e_cst, b_ok, hi1, b_ok, item_ref (lst_allo hf _) hi2, b_ok, t_loc, b_ok]
  generalize hM : allo m (.lst (intsV [59, 60, 61, 400, 401])) = m1 at g1 ⊢
  clear hM hi1
  have small : ∀ d : Nat, 1 ≤ d → d ≤ 61 → ∃ m' xs, endOf (block (cx (n + 1)) [(.ite (.cmp .gt (.loc 1) (.cst (.int 61))) [(.asg (.loc 2) (.tup [(.cst (.str [114,111,119])), (.bTuple (.lc (.loc 3) (.rng1 (.cst (.int 24))) [3] none (.tup [(.idx (.cst (.str [97,98,99,100,101,102,103,104,105,106,107,108,109,110,111,112,113,114,115,116,117,118,119,120,121,122])) (.loc 3)), (.tup [(.cst (.str [110,117,109]))])]))), (.cst .none)])), (.asg (.loc 4) (.tup [(.cst (.str [114,111,119])), (.bTuple (.lc (.loc 3) (.rng1 (.cst (.int 15))) [3] none (.tup [(.idx (.cst (.str [97,98,99,100,101,102,103,104,105,106,107,108,109,110,111,112,113,114,115,116,117,118,119,120,121,122])) (.loc 3)), (.loc 2)]))), (.cst .none)])), (.ret (.tup [(.cst (.str [116,111])), (.tup [(.cst (.str [108,105,115,116])), (.tup [(.cst (.str [108,105,115,116])), (.loc 4)])]), (.tup [(.tup []), (.cst .none)]), (.call 27 [(.bin .sub (.loc 1) (.cst (.int 380)))])]))] []), (.asg (.loc 4) (.tup [(.cst (.str [110,117,109]))])), (.for (.loc 5) (.rng1 (.bin .sub (.loc 1) (.cst (.int 1)))) [(.asg (.loc 4) (.tup [(.cst (.str [108,105,115,116])), (.loc 4)]))]), (.ret (.loc 4))] [.int c, .int (Int.ofNat d), .und, .und, .und, .und] m1) = .ok (.tup xs) m' ∧ (∀ m, Pl m 70 (.tup xs) = true) ∧ Gr m m' [] := by
    intro d hd1 hd2
    rw [bl_ite, e_cmp, e_loc _ _ _ _ (.int (Int.ofNat d)) rfl (by simp), b_ok, e_cst, b_ok, gt_int, tri_b, b_ok, t_b, decide_eq_false (show ¬ (61 : Int) < Int.ofNat d by show ¬ (61 : Int) < (d : Int); omega), if_neg Bool.false_ne_true, bl_nil, go_next, bl_asg, show E.tup [.cst (.str [110,117,109])] (cx (n + 1)) [.int c, .int (Int.ofNat d), .und, .und, .und, .und] m1 = .ok (.tup [.str wNUM]) m1 from rfl, b_ok, t_loc, b_ok]
    show ∃ m' xs, endOf (block (cx (n + 1)) _ [.int c, .int (Int.ofNat d), .und, .und, .tup [.str wNUM], .und] m1) = _ ∧ _
    have hit : It.rng1 (.bin .sub (.loc 1) (.cst (.int 1))) (cx (n + 1)) [.int c, .int (Int.ofNat d), .und, .und, .tup [.str wNUM], .und] m1 = .ok (.rng 0 1 (d - 1)) m1 := by
      refine rng1_ok (K := d - 1) ?_ (by omega)
      rw [e_bin, e_loc _ _ _ _ (.int (Int.ofNat d)) rfl (by simp), b_ok, e_cst, b_ok]
      show R.ok (Val.int ((d : Int) - 1)) m1 = R.ok (Val.int ((d - 1 : Nat) : Int)) m1
      rw [show ((d : Int) - 1) = ((d - 1 : Nat) : Int) by omega]
    rw [bl_for, hit, b_ok]
    have main := for_fold (f := cx (n + 1)) (t := .loc 5) (w := .rng 0 1 (d - 1)) (b := [(.asg (.loc 4) (.tup [(.cst (.str [108,105,115,116])), (.loc 4)]))]) (d - 1) (by omega)
      (fun k σ m' => ∃ xs y, σ = [.int c, .int (Int.ofNat d), .und, .und, .tup xs, y] ∧ (∀ m, Pl m (k + 2) (.tup xs) = true) ∧ m' = m1)
      (fun _ _ => False) (σ0 := [.int c, .int (Int.ofNat d), .und, .und, .tup [.str wNUM], .und]) (m0 := m1) ⟨_, .und, rfl, fun m => rfl, rfl⟩
      (fun σ m' h => by
        show (match Nat.blt (d - 1) (d - 1) with | true => Nx.item (.int (0 + Int.ofNat (d - 1) * 1)) | false => .done) = _
        rw [show Nat.blt (d - 1) (d - 1) = false from by
          cases q : Nat.blt (d - 1) (d - 1) with
          | false => rfl
          | true => exact absurd (Nat.le_of_ble_eq_true q) (by omega)])
      (fun k σ m' hk h => by
        obtain ⟨xs, y, rfl, h2, h3⟩ := h
        subst h3
        have nx : (ItV.rng 0 1 (d - 1)).next m' k = .item (.int (0 + Int.ofNat k * 1)) := by
          show (match Nat.blt k (d - 1) with | true => Nx.item (.int (0 + Int.ofNat k * 1)) | false => .done) = _
          rw [show Nat.blt k (d - 1) = true from Nat.ble_eq_true_of_le hk]
        refine ⟨_, [.int c, .int (Int.ofNat d), .und, .und, .tup xs, .int (0 + Int.ofNat k * 1)], m', nx, rfl, .inl ⟨[.int c, .int (Int.ofNat d), .und, .und, .tup [.str wLIST, .tup xs], .int (0 + Int.ofNat k * 1)], m', ?_, _, _, rfl, fun m => ?_, rfl⟩⟩
        · rw [bl_asg, e_tup, l_cons, e_cst, b_ok, l_cons, e_loc _ _ _ _ (.tup xs) rfl (by simp), b_ok, l_nil, b_ok, b_ok, b_ok, b_ok, t_loc, b_ok, bl_nil]
          rfl
        · refine Pl.mk (D := k + 2) (fun z hz => ?_) (by simp)
          simp only [List.mem_cons, List.not_mem_nil, or_false] at hz
          rcases hz with rfl | rfl
          · exact plw (by decide)
          · exact h2 m)
    rcases main with ⟨σ, m', h1, xs, y, rfl, h2, h3⟩ | ⟨_, _, _, h⟩
    · subst h3
      rw [h1, go_next, bl_ret, e_loc _ _ _ _ (.tup xs) rfl (by simp), b_ok, o_ret]
      exact ⟨_, xs, rfl, fun m => Pl.up (by omega) (h2 m), g1⟩
    · exact h.elim
  have big : ∀ q : Nat, q ≤ 26 → ∃ m' xs, endOf (block (cx (n + 1)) [(.ite (.cmp .gt (.loc 1) (.cst (.int 61))) [(.asg (.loc 2) (.tup [(.cst (.str [114,111,119])), (.bTuple (.lc (.loc 3) (.rng1 (.cst (.int 24))) [3] none (.tup [(.idx (.cst (.str [97,98,99,100,101,102,103,104,105,106,107,108,109,110,111,112,113,114,115,116,117,118,119,120,121,122])) (.loc 3)), (.tup [(.cst (.str [110,117,109]))])]))), (.cst .none)])), (.asg (.loc 4) (.tup [(.cst (.str [114,111,119])), (.bTuple (.lc (.loc 3) (.rng1 (.cst (.int 15))) [3] none (.tup [(.idx (.cst (.str [97,98,99,100,101,102,103,104,105,106,107,108,109,110,111,112,113,114,115,116,117,118,119,120,121,122])) (.loc 3)), (.loc 2)]))), (.cst .none)])), (.ret (.tup [(.cst (.str [116,111])), (.tup [(.cst (.str [108,105,115,116])), (.tup [(.cst (.str [108,105,115,116])), (.loc 4)])]), (.tup [(.tup []), (.cst .none)]), (.call 27 [(.bin .sub (.loc 1) (.cst (.int 380)))])]))] []), (.asg (.loc 4) (.tup [(.cst (.str [110,117,109]))])), (.for (.loc 5) (.rng1 (.bin .sub (.loc 1) (.cst (.int 1)))) [(.asg (.loc 4) (.tup [(.cst (.str [108,105,115,116])), (.loc 4)]))]), (.ret (.loc 4))] [.int c, .int (Int.ofNat (q + 380)), .und, .und, .und, .und] m1) = .ok (.tup xs) m' ∧ (∀ m, Pl m 70 (.tup xs) = true) ∧ Gr m m' [] := by
    intro q hq
    rw [bl_ite, e_cmp, e_loc _ _ _ _ (.int (Int.ofNat (q + 380))) rfl (by simp), b_ok, e_cst, b_ok, gt_int, tri_b, b_ok, t_b, decide_eq_true (show (61 : Int) < Int.ofNat (q + 380) by show (61 : Int) < ((q + 380 : Nat) : Int); omega), if_pos rfl]
    obtain ⟨xs, m2, a1, a2, a3⟩ := abc_ok (f := cx (n + 1)) (σ := [.int c, .int (Int.ofNat (q + 380)), .und, .und, .und, .und]) (m := m1) (i := 3) (e0 := .cst (.int 24)) (K := 24) (ex := .tup [.cst (.str wNUM)]) (w := .tup [.str wNUM]) (D := 1) g1.wf (by omega) (by simp) rfl (fun z => rfl) (fun m => rfl)
    rw [bl_asg, e_tup, l_cons, e_cst, b_ok, l_cons, show ([110,117,109] : List Nat) = wNUM from rfl, a1, b_ok, l_cons, e_cst, b_ok, l_nil, b_ok, b_ok, b_ok, b_ok, b_ok, t_loc, b_ok]
    obtain ⟨w, ew⟩ : ∃ w, w = Val.tup [.str [114,111,119], .tup xs, .none] := ⟨_, rfl⟩
    have pw : ∀ m, Pl m 5 w = true := fun m => by
      rw [ew]
      refine Pl.mk (D := 4) (fun z hz => ?_) (by simp)
      simp only [List.mem_cons, List.not_mem_nil, or_false] at hz
      rcases hz with rfl | rfl | rfl
      · exact plw (by decide)
      · exact a2 m
      · rfl
    rw [← ew, show setN w [.int c, .int (Int.ofNat (q + 380)), .und, .und, .und, .und] 2 = [.int c, .int (Int.ofNat (q + 380)), w, .und, .und, .und] from rfl]
    obtain ⟨ys, m3, b1, b2, b3⟩ := abc_ok (f := cx (n + 1)) (σ := [.int c, .int (Int.ofNat (q + 380)), w, .und, .und, .und]) (m := m2) (i := 3) (e0 := .cst (.int 15)) (K := 15) (ex := .loc 2) (w := w) (D := 4) a3.wf (by omega) (by simp) rfl (fun z => e_loc _ _ _ _ w rfl (Pl.nu (pw m))) pw
    rw [bl_asg, e_tup, l_cons, e_cst, b_ok, l_cons, b1, b_ok, l_cons, e_cst, b_ok, l_nil, b_ok, b_ok, b_ok, b_ok, b_ok, t_loc, b_ok]
    obtain ⟨u, eu⟩ : ∃ u, u = Val.tup [.str [114,111,119], .tup ys, .none] := ⟨_, rfl⟩
    have pu : ∀ m, Pl m 8 u = true := fun m => by
      rw [eu]
      refine Pl.mk (D := 7) (fun z hz => ?_) (by simp)
      simp only [List.mem_cons, List.not_mem_nil, or_false] at hz
      rcases hz with rfl | rfl | rfl
      · exact plw (by decide)
      · exact b2 m
      · rfl
    rw [← eu, show setN u [.int c, .int (Int.ofNat (q + 380)), w, .und, .und, .und] 4 = [.int c, .int (Int.ofNat (q + 380)), w, .und, u, .und] from rfl]
    obtain ⟨m4, zs, d1, d2, d3⟩ := row_of_ok n (K := q) b3.wf hq
    have sb : E.bin .sub (.loc 1) (.cst (.int 380)) (cx (n + 1)) [.int c, .int (Int.ofNat (q + 380)), w, .und, u, .und] m3 = .ok (.int (Int.ofNat q)) m3 := by
      rw [e_bin, e_loc _ _ _ _ (.int (Int.ofNat (q + 380))) rfl (by simp), b_ok, e_cst, b_ok]
      show R.ok (Val.int (((q + 380 : Nat) : Int) - 380)) m3 = R.ok (Val.int (q : Int)) m3
      rw [show (((q + 380 : Nat) : Int) - 380) = (q : Int) by omega]
    rw [bl_ret, e_tup, l_cons, e_cst, b_ok, l_cons, e_tup, l_cons, e_cst, b_ok, l_cons, e_tup, l_cons, e_cst, b_ok, l_cons, e_loc _ _ _ _ u rfl (Pl.nu (pu m)), b_ok, l_nil, b_ok, b_ok, b_ok, b_ok, l_nil, b_ok, b_ok, b_ok, b_ok, l_cons, show E.tup [.tup [], .cst .none] (cx (n + 1)) [.int c, .int (Int.ofNat (q + 380)), w, .und, u, .und] m3 = .ok (.tup [.tup [], .none]) m3 from rfl, b_ok, l_cons, e_call, l_cons, sb, b_ok, l_nil, b_ok, b_ok, d1, b_ok, l_nil, b_ok, b_ok, b_ok, b_ok, b_ok, b_ok, go_ret, o_ret]
    refine ⟨m4, _, rfl, fun m => ?_, g1.tr (a3.tr (b3.tr d3))⟩
    refine Pl.mk (D := 69) (fun z hz => ?_) (by simp)
    simp only [List.mem_cons, List.not_mem_nil, or_false] at hz
    rcases hz with rfl | rfl | rfl | rfl
    · exact plw (by decide)
    · refine Pl.mk (D := 68) (fun z hz => ?_) (by simp)
      simp only [List.mem_cons, List.not_mem_nil, or_false] at hz
      rcases hz with rfl | rfl
      · exact plw (by decide)
      · refine Pl.mk (D := 67) (fun z hz => ?_) (by simp)
        simp only [List.mem_cons, List.not_mem_nil, or_false] at hz
        rcases hz with rfl | rfl
        · exact plw (by decide)
        · exact Pl.up (by omega) (pu m)
    · rfl
    · exact Pl.up (by omega) (d2 m)
  match i, hi2 with
  | 0, _ => exact small 59 (by omega) (by omega)
  | 1, _ => exact small 60 (by omega) (by omega)
  | 2, _ => exact small 61 (by omega) (by omega)
  | 3, _ => exact big 20 (by omega)
  | 4, _ => exact big 21 (by omega)
  | k + 5, h => exact absurd h (by simp)
end K02
set_option Elab.async false
set_option linter.all false
set_option maxRecDepth 100000
set_option maxHeartbeats 4000000
/-! PK16: the law. -/
namespace K02
open MP Snd PL
theorem pickc {f : Cx} {σ : List Val} {m : M} {es : List E} {vals : List Val} {e : E} (hf : Full m.t m.n) (hl : E.lst es f σ m = .ok (.ref m.n) (allo m (.lst vals))) (he : ∃ i, e f σ (allo m (.lst vals)) = .ok (.int (Int.ofNat i)) (allo m (.lst vals)) ∧ i < vals.length) (hp : ∀ x ∈ vals, ∀ m, Pl m 1 x = true) :
    ∃ t m', E.idx (.lst es) e f σ m = .ok t m' ∧ (∀ m, Pl m 1 t = true) ∧ Gr m m' [] := by
  obtain ⟨i, h1, h2⟩ := he
  rw [e_idx, hl, b_ok, h1, b_ok, item_ref (lst_allo hf _) h2]
  exact ⟨_, _, rfl, hp _ (List.getElem_mem _), Gr.allo hf _⟩
theorem call_judged {n : Nat} (hn : 210 ≤ n) {σ : List Val} {m m1 : M} {D : Nat} {e : E} {v : Val} (he : e (cx (n + 1)) σ m = .ok v m1) (g : Gr m m1 []) (hp : Pl m1 D v = true) (hD : D ≤ 100) :
    ∃ m', E.not (.call 28 [e]) (cx (n + 1)) σ m = .ok (.bool false) m' ∧ Gr m m' [] := by
  obtain ⟨m2, a1, a2⟩ := judged_ok hn g.wf hp hD
  rw [e_not, e_call, l_cons, he, b_ok, l_nil, b_ok, b_ok, a1, b_ok, t_b]
  exact ⟨m2, rfl, g.tr a2⟩
theorem fdiv_c {m : M} {c : Int} (x : Int) (h1 : 0 < c) (h2 : c < 1073741824) : binop .fdiv (.int x) (.int c) m = .ok (.int (x / c)) m := by
  show (match decide (0 < c) && decide (c < 1073741824) with | true => R.ok (Val.int (x / c)) m | false => .bad 10) = _
  rw [decide_eq_true h1, decide_eq_true h2]
  rfl
theorem turn_ok {n : Nat} (hn : 210 ≤ n) {m : M} {s k : Nat} {xs : List Int} {a b c d : Val} (hf : Full m.t m.n) (hs : lstAt m s = some (intsV xs)) : ∃ σ m', block (cx (n + 1)) [(.asg (.loc 2) (.call 20 [(.loc 0), (.bin .mul (.cst (.int 7)) (.loc 1))])), (.asg (.loc 3) (.call 19 [(.loc 2), (.cst (.int 4)), (.cst (.bool true))])), (.asg (.loc 4) (.call 16 [(.loc 0), (.bin .add (.bin .mul (.cst (.int 7)) (.loc 1)) (.cst (.int 5)))])), (.asg (.loc 5) (.tup [(.cst (.str [108,105,115,116])), (.tup [(.cst (.str [116,111])), (.loc 3), (.tup [(.tup [(.cst (.str [97])), (.cst (.str [98]))]), (.idx (.lst [(.cst .none), (.cst (.int 5)), (.cst (.int 77)), (.cst (.int 0))]) (.bin .mod (.loc 4) (.cst (.int 4))))]), (.tup [(.cst (.str [97,110,121])), (.idx (.lst [(.cst (.int 0)), (.cst (.int 1)), (.cst (.int 88)), (.cst (.int 3))]) (.bin .mod (.bin .fdiv (.loc 4) (.cst (.int 4))) (.cst (.int 4))))])])])), (.ite (.or (.not (.call 28 [(.loc 3)])) (.or (.not (.call 28 [(.loc 5)])) (.not (.call 28 [(.call 25 [(.bin .fdiv (.loc 4) (.cst (.int 16))), (.loc 3)])])))) [(.ret (.cst (.bool false)))] []), (.ite (.not (.call 28 [(.tup [(.cst (.str [114,111,119])), (.tup [(.tup [(.cst (.str [113])), (.call 25 [(.bin .fdiv (.loc 4) (.cst (.int 16))), (.loc 3)])])]), (.cst .none)])])) [(.ret (.cst (.bool false)))] [])] [.ref s, .int (Int.ofNat k), a, b, c, d] m = .ok (.next σ) m' ∧ (∃ x y z w v, σ = [.ref s, x, y, z, w, v]) ∧ Gr m m' [] := by
  obtain ⟨u, eu⟩ : ∃ u, u = Val.int (Int.ofNat k) := ⟨_, rfl⟩
  have lu : u ≠ .und := by rw [eu]; simp
  rw [← eu]
  have m7 : ∀ (m : M), binop .mul (.int 7) u m = .ok (.int (Int.ofNat (7 * k))) m := fun m => by rw [eu]; rfl
  obtain ⟨m1, r, ys, a1, a2, a3, a4⟩ := draws_ok (n - 1) (k := 7 * k) hf hs
  rw [show n - 1 + 2 = n + 1 by omega] at a1
  rw [bl_asg, e_call, l_cons, e_loc _ _ _ _ (.ref s) rfl (by simp), b_ok, l_cons, e_bin, e_cst, b_ok, e_loc _ _ _ _ u rfl lu, b_ok, m7, b_ok, l_nil, b_ok, b_ok, b_ok, a1, b_ok, t_loc, b_ok]
  rw [show setN (.ref r) [.ref s, u, a, b, c, d] 2 = [.ref s, u, .ref r, b, c, d] from rfl]
  obtain ⟨m2, vs, ys', b1, b2, b3, b4⟩ := draw_ok 4 (n - 5) m1 r ys a4.wf a2
  rw [show 4 + 2 + (n - 5) = n + 1 by omega] at b1
  have g2 : Gr m m2 [] := a4.trans b4 fun j hj hlt => by rw [List.mem_singleton.mp hj] at hlt; omega
  rw [bl_asg, e_call, l_cons, e_loc _ _ _ _ (.ref r) rfl (by simp), b_ok, l_cons, e_cst, b_ok, l_cons, e_cst, b_ok, l_nil, b_ok, b_ok, b_ok, b_ok]
  rw [show (cx (n + 1)).call 19 [.ref r, .int 4, .bool true] m1 = R.ok (.tup vs) m2 from b1, b_ok, t_loc, b_ok]
  rw [show setN (.tup vs) [.ref s, u, .ref r, b, c, d] 3 = [.ref s, u, .ref r, .tup vs, c, d] from rfl]
  obtain ⟨m3, i, c1, c2⟩ := cell_ok n (k := 7 * k + 5) g2.wf (g2.ls hf (by simp) _ _ hs)
  have g3 := g2.tr c2
  rw [bl_asg, e_call, l_cons, e_loc _ _ _ _ (.ref s) rfl (by simp), b_ok, l_cons, e_bin, e_bin, e_cst, b_ok, e_loc _ _ _ _ u rfl lu, b_ok, m7, b_ok, e_cst, b_ok, show binop .add (.int (Int.ofNat (7 * k))) (.int 5) m2 = .ok (.int (Int.ofNat (7 * k + 5))) m2 from rfl, b_ok, l_nil, b_ok, b_ok, b_ok, c1, b_ok, t_loc, b_ok]
  rw [show setN (.int i) [.ref s, u, .ref r, .tup vs, c, d] 4 = [.ref s, u, .ref r, .tup vs, .int i, d] from rfl]
  obtain ⟨t1, m4, d1, d2, d3⟩ := pickc (f := cx (n + 1)) (σ := [.ref s, u, .ref r, .tup vs, .int i, d]) (m := m3) (es := [(.cst .none), (.cst (.int 5)), (.cst (.int 77)), (.cst (.int 0))]) (vals := [.none, .int 5, .int 77, .int 0]) (e := .bin .mod (.loc 4) (.cst (.int 4))) g3.wf rfl (by
    obtain ⟨q, q1, q2⟩ := mod_ok i (k := 4) (K := 4) rfl (by omega) (allo m3 (.lst [.none, .int 5, .int 77, .int 0]))
    refine ⟨q, ?_, q2⟩
    rw [e_bin, e_loc _ _ _ _ (.int i) rfl (by simp), b_ok, e_cst, b_ok, q1]) (by
    intro x hx m
    simp only [List.mem_cons, List.not_mem_nil, or_false] at hx
    rcases hx with rfl | rfl | rfl | rfl <;> rfl)
  have g4 := g3.tr d3
  obtain ⟨t2, m5, k1, k2, k3⟩ := pickc (f := cx (n + 1)) (σ := [.ref s, u, .ref r, .tup vs, .int i, d]) (m := m4) (es := [(.cst (.int 0)), (.cst (.int 1)), (.cst (.int 88)), (.cst (.int 3))]) (vals := [.int 0, .int 1, .int 88, .int 3]) (e := .bin .mod (.bin .fdiv (.loc 4) (.cst (.int 4))) (.cst (.int 4))) g4.wf rfl (by
    obtain ⟨q, q1, q2⟩ := mod_ok (i / 4) (k := 4) (K := 4) rfl (by omega) (allo m4 (.lst [.int 0, .int 1, .int 88, .int 3]))
    refine ⟨q, ?_, q2⟩
    rw [e_bin, e_bin, e_loc _ _ _ _ (.int i) rfl (by simp), b_ok, e_cst, b_ok, fdiv_c i (by omega) (by omega), b_ok, e_cst, b_ok, q1]) (by
    intro x hx m
    simp only [List.mem_cons, List.not_mem_nil, or_false] at hx
    rcases hx with rfl | rfl | rfl | rfl <;> rfl)
  have g5 := g4.tr k3
  rw [bl_asg, e_tup, l_cons, e_cst, b_ok, l_cons, e_tup, l_cons, e_cst, b_ok, l_cons, e_loc _ _ _ _ (.tup vs) rfl (by simp), b_ok, l_cons, e_tup, l_cons, show E.tup [.cst (.str [97]), .cst (.str [98])] (cx (n + 1)) [.ref s, u, .ref r, .tup vs, .int i, d] m3 = .ok (.tup [.str [97], .str [98]]) m3 from rfl, b_ok, l_cons, d1, b_ok, l_nil, b_ok, b_ok, b_ok, b_ok, l_cons, e_tup, l_cons, e_cst, b_ok, l_cons, k1, b_ok, l_nil, b_ok, b_ok, b_ok, b_ok, l_nil, b_ok, b_ok, b_ok, b_ok, b_ok, b_ok, l_nil, b_ok, b_ok, b_ok, b_ok, t_loc, b_ok]
  obtain ⟨w, ew⟩ : ∃ w, w = Val.tup [.str [108,105,115,116], .tup [.str [116,111], .tup vs, .tup [.tup [.str [97], .str [98]], t1], .tup [.str [97,110,121], t2]]] := ⟨_, rfl⟩
  have pw : ∀ m, Pl m 20 w = true := fun m => by
    rw [ew]
    refine Pl.mk (D := 19) (fun z hz => ?_) (by simp)
    simp only [List.mem_cons, List.not_mem_nil, or_false] at hz
    rcases hz with rfl | rfl
    · exact plw (by decide)
    refine Pl.mk (D := 18) (fun z hz => ?_) (by simp)
    simp only [List.mem_cons, List.not_mem_nil, or_false] at hz
    rcases hz with rfl | rfl | rfl | rfl
    · exact plw (by decide)
    · exact Pl.up (by omega) (b2 m)
    · refine Pl.mk (D := 17) (fun z hz => ?_) (by simp)
      simp only [List.mem_cons, List.not_mem_nil, or_false] at hz
      rcases hz with rfl | rfl
      · rfl
      · exact Pl.up (by omega) (d2 m)
    · refine Pl.mk (D := 17) (fun z hz => ?_) (by simp)
      simp only [List.mem_cons, List.not_mem_nil, or_false] at hz
      rcases hz with rfl | rfl
      · exact plw (by decide)
      · exact Pl.up (by omega) (k2 m)
  rw [← ew, show setN w [.ref s, u, .ref r, .tup vs, .int i, d] 5 = [.ref s, u, .ref r, .tup vs, .int i, w] from rfl]
  have hv : ∀ m k, Pl m (k + 14) (.tup vs) = true := fun m k => Pl.up (by omega) (b2 m)
  have odd : ∀ m6, Gr m m6 [] → ∃ m7 o, E.call 25 [(.bin .fdiv (.loc 4) (.cst (.int 16))), (.loc 3)] (cx (n + 1)) [.ref s, u, .ref r, .tup vs, .int i, w] m6 = .ok o m7 ∧ Pl m7 20 o = true ∧ Gr m6 m7 [] := by
    intro m6 g6
    obtain ⟨m7, o, o1, o2, o3⟩ := odd_ok n (c := i / 16) g6.wf hv
    refine ⟨m7, o, ?_, o2, o3⟩
    rw [e_call, l_cons, e_bin, e_loc _ _ _ _ (.int i) rfl (by simp), b_ok, e_cst, b_ok, fdiv_c i (by omega) (by omega), b_ok, l_cons, e_loc _ _ _ _ (.tup vs) rfl (by simp), b_ok, l_nil, b_ok, b_ok, b_ok, o1]
  obtain ⟨m6, p1, p2⟩ := call_judged hn (σ := [.ref s, u, .ref r, .tup vs, .int i, w]) (m := m5) (e := .loc 3) (v := .tup vs) (D := 14) (e_loc _ _ _ _ _ rfl (by simp)) (Gr.refl g5.wf) (b2 m5) (by omega)
  have g6 := g5.tr p2
  obtain ⟨m7', q1, q2⟩ := call_judged hn (σ := [.ref s, u, .ref r, .tup vs, .int i, w]) (m := m6) (e := .loc 5) (v := w) (D := 20) (e_loc _ _ _ _ _ rfl (Pl.nu (pw m))) (Gr.refl g6.wf) (pw m6) (by omega)
  have g7 := g6.tr q2
  obtain ⟨m8, o, o1, o2, o3⟩ := odd m7' g7
  obtain ⟨m9, x1, x2⟩ := call_judged hn (σ := [.ref s, u, .ref r, .tup vs, .int i, w]) (m := m7') (D := 20) o1 o3 o2 (by omega)
  have g9 := g7.tr x2
  rw [bl_ite, e_or, p1, b_ok, t_b, if_neg Bool.false_ne_true, e_or, q1, b_ok, t_b, if_neg Bool.false_ne_true, x1, b_ok, t_b, if_neg Bool.false_ne_true, bl_nil, go_next]
  obtain ⟨m10, o', y1, y2, y3⟩ := odd m9 g9
  have te : E.tup [(.cst (.str [114,111,119])), (.tup [(.tup [(.cst (.str [113])), (.call 25 [(.bin .fdiv (.loc 4) (.cst (.int 16))), (.loc 3)])])]), (.cst .none)] (cx (n + 1)) [.ref s, u, .ref r, .tup vs, .int i, w] m9 = .ok (.tup [.str wROW, .tup [.tup [.str [113], o']], .none]) m10 := by
    rw [e_tup, l_cons, e_cst, b_ok, l_cons, e_tup, l_cons, e_tup, l_cons, e_cst, b_ok, l_cons, y1, b_ok, l_nil, b_ok, b_ok, b_ok, b_ok, l_nil, b_ok, b_ok, b_ok, l_cons, e_cst, b_ok, l_nil, b_ok, b_ok, b_ok, b_ok]
    rfl
  have po : Pl m10 23 (.tup [.str wROW, .tup [.tup [.str [113], o']], .none]) = true := by
    refine Pl.mk (D := 22) (fun z hz => ?_) (by simp)
    simp only [List.mem_cons, List.not_mem_nil, or_false] at hz
    rcases hz with rfl | rfl | rfl
    · exact plw (by decide)
    · refine Pl.mk (D := 21) (fun z hz => ?_) (by simp)
      rw [List.mem_singleton.mp hz]
      refine Pl.mk (D := 20) (fun z hz => ?_) (by simp)
      simp only [List.mem_cons, List.not_mem_nil, or_false] at hz
      rcases hz with rfl | rfl
      · exact plw (by decide)
      · exact y2
    · rfl
  obtain ⟨m11, z1, z2⟩ := call_judged hn (σ := [.ref s, u, .ref r, .tup vs, .int i, w]) (m := m9) (D := 23) te y3 po (by omega)
  rw [bl_ite, z1, b_ok, t_b, if_neg Bool.false_ne_true, bl_nil, go_next, bl_nil]
  exact ⟨_, m11, rfl, ⟨_, _, _, _, _, rfl⟩, g9.tr z2⟩
theorem all_right_ok {n : Nat} (hn : 210 ≤ n) {m : M} {s : Nat} {xs : List Int} (hf : Full m.t m.n) (hs : lstAt m s = some (intsV xs)) : ∃ m', (cx (n + 2)).call 29 [.ref s] m = .ok (.bool true) m' ∧ Gr m m' [] := by
  show ∃ m', runFn f29 (cx (n + 1)) [.ref s] m = _ ∧ _
  rw [run_fn _ _ _ _ rfl]
  unfold f29
  simp only
  show ∃ m', endOf (block (cx (n + 1)) _ [.ref s, .und, .und, .und, .und, .und] m) = _ ∧ _
  rw [bl_for, rng1_ok (K := 5) (show E.cst (.int 5) (cx (n + 1)) [.ref s, .und, .und, .und, .und, .und] m = .ok (.int (Int.ofNat 5)) m from rfl) (by omega), b_ok]
  have main := for_fold (f := cx (n + 1)) (t := .loc 1) (w := .rng 0 1 5) (b := [(.asg (.loc 2) (.call 20 [(.loc 0), (.bin .mul (.cst (.int 7)) (.loc 1))])), (.asg (.loc 3) (.call 19 [(.loc 2), (.cst (.int 4)), (.cst (.bool true))])), (.asg (.loc 4) (.call 16 [(.loc 0), (.bin .add (.bin .mul (.cst (.int 7)) (.loc 1)) (.cst (.int 5)))])), (.asg (.loc 5) (.tup [(.cst (.str [108,105,115,116])), (.tup [(.cst (.str [116,111])), (.loc 3), (.tup [(.tup [(.cst (.str [97])), (.cst (.str [98]))]), (.idx (.lst [(.cst .none), (.cst (.int 5)), (.cst (.int 77)), (.cst (.int 0))]) (.bin .mod (.loc 4) (.cst (.int 4))))]), (.tup [(.cst (.str [97,110,121])), (.idx (.lst [(.cst (.int 0)), (.cst (.int 1)), (.cst (.int 88)), (.cst (.int 3))]) (.bin .mod (.bin .fdiv (.loc 4) (.cst (.int 4))) (.cst (.int 4))))])])])), (.ite (.or (.not (.call 28 [(.loc 3)])) (.or (.not (.call 28 [(.loc 5)])) (.not (.call 28 [(.call 25 [(.bin .fdiv (.loc 4) (.cst (.int 16))), (.loc 3)])])))) [(.ret (.cst (.bool false)))] []), (.ite (.not (.call 28 [(.tup [(.cst (.str [114,111,119])), (.tup [(.tup [(.cst (.str [113])), (.call 25 [(.bin .fdiv (.loc 4) (.cst (.int 16))), (.loc 3)])])]), (.cst .none)])])) [(.ret (.cst (.bool false)))] [])]) 5 (by omega)
    (fun k σ m' => (∃ x y z w v, σ = [.ref s, x, y, z, w, v]) ∧ Gr m m' []) (fun _ _ => False) (σ0 := [.ref s, .und, .und, .und, .und, .und]) (m0 := m) ⟨⟨_, _, _, _, _, rfl⟩, Gr.refl hf⟩
    (fun σ m' h => rfl)
    (fun k σ m' hk ⟨⟨x, y, z, w, v, e⟩, g⟩ => by
      subst e
      have nx : (ItV.rng 0 1 5).next m' k = .item (.int (Int.ofNat k)) := by
        match k, hk with
        | 0, _ | 1, _ | 2, _ | 3, _ | 4, _ => rfl
        | k + 5, h => exact absurd h (by omega)
      obtain ⟨σ2, m2, h1, h2, h3⟩ := turn_ok hn (k := k) (a := y) (b := z) (c := w) (d := v) g.wf (g.ls hf (by simp) _ _ hs)
      exact ⟨_, [.ref s, .int (Int.ofNat k), y, z, w, v], m', nx, rfl, .inl ⟨σ2, m2, h1, h2, g.tr h3⟩⟩)
  rcases main with ⟨σ, m', h1, ⟨x, y, z, w, v, e⟩, g⟩ | ⟨_, _, _, h⟩
  · subst e
    rw [h1, go_next]
    obtain ⟨m2, i, c1, c2⟩ := cell_ok n (k := 60) g.wf (g.ls hf (by simp) _ _ hs)
    obtain ⟨m3, vs, d1, d2, d3⟩ := deep_ok (n - 1) (c := i) c2.wf
    rw [show n - 1 + 2 = n + 1 by omega] at d1
    obtain ⟨m4, k1, k2⟩ := judged_ok hn (g.tr (c2.tr d3)).wf (d2 m3) (by omega)
    rw [bl_ret, e_call, l_cons, e_call, l_cons, e_call, l_cons, e_loc _ _ _ _ (.ref s) rfl (by simp), b_ok, l_cons, e_cst, b_ok, l_nil, b_ok, b_ok, b_ok]
    rw [show (cx (n + 1)).call 16 [.ref s, .int 60] m' = R.ok (.int i) m2 from c1, b_ok, l_nil, b_ok, b_ok, d1, b_ok, l_nil, b_ok, b_ok, k1, b_ok, o_ret]
    exact ⟨m4, rfl, g.tr (c2.tr (d3.tr k2))⟩
  · exact h.elim
theorem law_ok {n : Nat} (hn : 210 ≤ n) {m : M} {s : Nat} {xs : List Int} (hf : Full m.t m.n) (hs : lstAt m s = some (intsV xs)) : ∃ m', (cx (n + 3)).call 30 [.ref s] m = .ok (.bool true) m' := by
  show ∃ m', runFn f30 (cx (n + 2)) [.ref s] m = _
  rw [run_fn _ _ _ _ rfl]
  unfold f30
  simp only
  obtain ⟨m1, a1, _⟩ := all_right_ok hn hf hs
  have body : block (cx (n + 2)) [.ret (.call 29 [.loc 0])] [.ref s] m = .ok (.ret (.bool true)) m1 := by
    rw [bl_ret, e_call, l_cons, e_loc _ _ _ _ (.ref s) rfl (by simp), b_ok, l_nil, b_ok, b_ok, a1, b_ok]
  refine ⟨m1, ?_⟩
  show endOf ((S.tri [.ret (.call 29 [.loc 0])] _ _ _ (cx (n + 2)) [.ref s] m).bind _) = _
  unfold S.tri
  rw [body]
  rfl
theorem m0_full (vs : List Val) : Full (M0 vs).t (M0 vs).n := fun j => by
  cases j with
  | zero => exact ⟨fun _ => Nat.lt_succ_self 0, fun _ => rfl⟩
  | succ j =>
    refine ⟨fun h => ?_, fun h => absurd h (by show ¬ j + 1 < 1; omega)⟩
    have e : (M0 vs).t.get (j + 1) = none := by
      show (MP.Tree.node (Obj.rol vs) .nil .nil).get (j + 1) = none
      rw [get_node, if_neg (by omega)]
      split <;> rfl
    rw [e] at h
    cases h
theorem main0 (ns : List Int) : ∃ m, (cx 300).call 30 [.ref 0] (M0 (ns.map .int)) = .ok (.bool true) m := law_ok (n := 297) (by omega) (m0_full _) rfl
end K02
set_option Elab.async false
set_option linter.all false
set_option maxRecDepth 100000
set_option maxHeartbeats 4000000
/-! Gap3: set of a list of texts, and sorted of that set. -/
namespace Gap
open PySem PySem.Spec PyProof.Rows L2
def wordOf (e : Int × Value) : Str := match e.2 with
  | .str k _ => k
  | _ => Str.empty
def Wd (P : Program) (w : World) (e : Int × Value) : Prop := ∃ k tk, e.2 = Value.str k tk ∧ e.1 = (PySem.strKind P w).hash k
/-- a set at a: its entries are l in some order, its table is well laid -/
def SetL (w : World) (h : Heap) (a : Addr) (l : List (Int × Value)) : Prop :=
  ∃ o es ep t, h.get? a = some o ∧ o.ExactSet ∧ o.data = .set es ep t ∧ es.toList.Perm l ∧ es.size < scanBound ∧ t.fits es.size = true ∧ Ris t.place.toList ∧ (w.params.followText "set-order" = true ∨ t.led = true)
structure Wds (P : Program) (w : World) (l : List (Int × Value)) : Prop where
  all : ∀ e ∈ l, Wd P w e
  nd : (l.map wordOf).Nodup
theorem SetL.keep {w : World} {h h' : Heap} {a : Addr} {l : List (Int × Value)} (R : SetL w h a l) (k : ∀ o, h.get? a = some o → h'.get? a = some o) : SetL w h' a l := by
  obtain ⟨o, es, ep, t, q, z⟩ := R
  exact ⟨o, es, ep, t, k o q, z⟩
section
variable {P : Program} {w : World} {A : Around} {E : Value → Shared → Prop} {s : Shared} {a : Addr} {l : List (Int × Value)}
theorem wd_elems (g : ∀ e ∈ l, Wd P w e) : ElemsOf (PySem.strKind P w) l := fun e he => by
  obtain ⟨k, tk, q1, q2⟩ := g e he
  exact ⟨⟨k, by rw [q1]; exact strKind_is P w k tk, q2⟩, by rw [q1] <;> rfl⟩
theorem wd_is {e : Int × Value} (g : Wd P w e) (k : Str) : (PySem.strKind P w).is k e.2 = true ↔ wordOf e = k := by
  obtain ⟨k0, tk, q1, _⟩ := g
  unfold wordOf
  rw [q1]
  show ((k0 == k) = true) ↔ k0 = k
  exact beq_iff_eq
/-- what is laid in the table, and all laid anew where it is too full -/
theorem lay_tail {g : Bool → Sem Unit} (give : ∀ (b : Bool) (z : Shared) (Z : Unit → Shared → Prop), Z () z → wpAny (model P w) A (g b) Z E z)
    {o : Obj} {es : Array (Int × Value)} {ep : Nat} {t : SetTable} (ho : s.heap.get? a = some o) (hx : o.ExactSet) (hd : o.data = .set es ep t)
    {es1 : Array (Int × Value)} {t2 : SetTable} (p1 : es1.toList.Perm l) (b1 : es1.size < scanBound) (f2 : t2.fits es1.size = true) (r2 : Ris t2.place.toList) (d2 : w.params.followText "set-order" = true ∨ t2.led = true) {was : Bool} {R : Option Bool → Shared → Prop}
    (hR : ∀ h', Heap.SameBut a s.heap h' → SetL w h' a l → R (some true) { s with heap := h' }) :
    wpAny (model P w) A (do
        storeSet a es1 t2
        if (!was && t2.tooFull) = true then do
            g (relayAll t2 es1 (SetTable.grown es1.size)).2.2
            storeSet a (relayAll t2 es1 (SetTable.grown es1.size)).1 (relayAll t2 es1 (SetTable.grown es1.size)).2.1
            pure (some true)
          else pure (some true)) R E s := by
  have o1 := store_at (es' := es1) (t' := t2) ho hd
  have u1 := Heap.SameBut.update s.heap a (Obj.putSet es1 t2)
  refine wpAny_bind (wpAny_storeSet_of ho hd ?_ (fits_of_scanBound b1))
  split
  · have q1 := relayAll_perm t2 es1 (SetTable.grown es1.size)
    have q2 := relayAll_fits t2 es1 (SetTable.grown es1.size)
    have q3 := relayAll_ris t2 es1 (SetTable.grown es1.size)
    have q4 := relayAll_led t2 es1 (SetTable.grown es1.size)
    generalize relayAll t2 es1 (SetTable.grown es1.size) = Z at q1 q2 q3 q4 ⊢
    obtain ⟨es2, t3, gv⟩ := Z
    dsimp only at q1 q2 q3 q4 ⊢
    have b2 : es2.size < scanBound := by rw [← Array.length_toList, q1.length_eq, Array.length_toList]; exact b1
    refine wpAny_bind (give _ _ _ ?_)
    refine wpAny_bind (wpAny_storeSet_of o1 rfl ?_ (fits_of_scanBound b2))
    exact wpAny_pure (hR _ (u1.trans (Heap.SameBut.update _ a _)) ⟨_, es2, _, t3, store_at (es' := es2) (t' := t3) o1 rfl, hx, rfl, q1.trans p1, b2, q2, q3, d2.imp id fun z => by rw [q4]; exact z⟩)
  · exact wpAny_pure (hR _ u1 ⟨_, es1, _, t2, o1, hx, rfl, p1, b1, f2, r2, d2⟩)
/-- one text put in -/
theorem wd_add {k : Str} {tk : Tok} {Q : Bool → Shared → Prop} (L : SetL w s.heap a l) (W : Wds P w l) (room : l.length + 1 < scanBound)
    (h0 : k ∈ l.map wordOf → Q false s) (h1 : k ∉ l.map wordOf → ∀ h', Heap.SameBut a s.heap h' → SetL w h' a (((PySem.strKind P w).hash k, Value.str k tk) :: l) → Q true { s with heap := h' }) :
    wpAny (model P w) A (setAddHashed a (.str k tk) ((PySem.strKind P w).hash k)) Q E s := by
  obtain ⟨o, es, ep, t, ho, hx, hd, pl, hb, hf, hr, hl⟩ := L
  have ki : (PySem.strKind P w).is k (.str k tk) = true := strKind_is P w k tk
  have sc : (Value.str k tk).scannable = true := rfl
  have wa : ∀ e ∈ es.toList, Wd P w e := fun e he => W.all e (pl.mem_iff.mp he)
  have el : ElemsOf (PySem.strKind P w) es.toList := wd_elems wa
  unfold setAddHashed setAddHashedIn
  refine wpAny_holding (wpAny_bind (wpAny_setState_of ho hd hf ?_))
  dsimp only
  rw [byScan_of sc hb el]
  simp only [↓reduceIte]
  unfold setAddByScan
  refine wpAny_bind ?_
  refine wpAny_bind (wpAny_rule ?_)
  refine wpAny_bind (wpAny_setScan_of ki ho hd hf el ?_)
  cases fi : List.findIdx? (fun e => (PySem.strKind P w).is k e.2) es.toList with
  | some j =>
    dsimp only
    obtain ⟨hj, pj, _⟩ := List.findIdx?_eq_some_iff_getElem.mp fi
    have hin : k ∈ l.map wordOf := List.mem_map.mpr ⟨es.toList[j], pl.mem_iff.mp (List.getElem_mem hj), (wd_is (wa _ (List.getElem_mem hj)) k).1 pj⟩
    exact wpAny_pure (wpAny_pure (h0 hin))
  | none =>
    dsimp only
    have hout : k ∉ l.map wordOf := fun z => by
      obtain ⟨e, he, q⟩ := List.mem_map.mp z
      have he' := pl.mem_iff.mpr he
      have c := List.findIdx?_eq_none_iff.mp fi e he'
      rw [(wd_is (wa e he') k).2 q] at c
      cases c
    have gw : ∀ (b : Bool) {z : Shared} {Z : Unit → Shared → Prop}, Z () z → wpAny (model P w) A (match b with | true => rule "set.scan.the-table-gave-way" | false => pure ()) Z E z :=
      fun b z Z q => by cases b <;> first | exact wpAny_pure q | exact wpAny_rule q
    have q1 := layNew_perm t es ((PySem.strKind P w).hash k) (.str k tk)
    have q2 := layNew_fits t es ((PySem.strKind P w).hash k) (.str k tk)
    have q3 := layNew_ris t es ((PySem.strKind P w).hash k) (.str k tk) hr
    have q4 := layNew_led t es ((PySem.strKind P w).hash k) (.str k tk)
    generalize layNew t es ((PySem.strKind P w).hash k) (.str k tk) = Z at q1 q2 q3 q4 ⊢
    obtain ⟨es1, t1, was, gv⟩ := Z
    dsimp only at q1 q2 q3 q4 ⊢
    rw [Array.toList_push] at q1
    have pc : es1.toList.Perm (((PySem.strKind P w).hash k, Value.str k tk) :: l) := (q1.trans (List.perm_append_singleton _ _)).trans (pl.cons _)
    have b1 : es1.size < scanBound := by rw [← Array.length_toList, pc.length_eq, List.length_cons]; exact room
    have d1 : w.params.followText "set-order" = true ∨ t1.led = true := hl.imp id fun z => by rw [q4]; exact z
    refine wpAny_bind (gw _ ?_)
    split
    · refine wpAny_bind ?_
      rw [hashByValue_scannable 8 sc]
      refine wpAny_pure ?_
      refine lay_tail ?_ ho hx hd pc b1 ?_ ?_ ?_ ?_
      · intro b z Z q; cases b <;> first | exact wpAny_pure q | exact wpAny_rule q
      · first | (split <;> first | exact q2 | exact SetTable.fits_plain_off q2) | exact q2
      · first | (split <;> exact q3) | exact q3
      · first | (split <;> exact d1) | exact d1
      · intro h' sb r; dsimp only; exact wpAny_pure (h1 hout h' sb r)
    · refine wpAny_bind (wpAny_pure ?_)
      simp only [↓reduceIte]
      refine lay_tail ?_ ho hx hd pc b1 q2 q3 d1 ?_
      · intro b z Z q; cases b <;> first | exact wpAny_pure q | exact wpAny_rule q
      · intro h' sb r; dsimp only; exact wpAny_pure (h1 hout h' sb r)
/-- the members of the first i texts -/
def Has (P : Program) (w : World) (xs : List Str) (i : Nat) (l : List (Int × Value)) : Prop := Wds P w l ∧ l.length ≤ i ∧ ∀ k, k ∈ l.map wordOf ↔ k ∈ xs.take i
theorem update_texts {I : Addr} {fp wr : List Addr} {G : Array GenState → Array GenState → Prop} {n : Nat} {Pv : Nat → Value → Prop} {St : Nat → Shared → Prop} {R : Result → Shared → Prop}
    (V : WalksS P w A.in1 I fp wr G n Pv St) (S : Addr) (out : S ∉ fp) (xs : List Str) (hn : n = xs.length) (hb : xs.length + 1 < scanBound) (hval : ∀ i v, Pv i v → ∃ k t, xs[i]? = some k ∧ v = .str k t) :
    ∀ (m i : Nat) (s : Shared), n - i = m → i ≤ n → St i s → (∃ l, SetL w s.heap S l ∧ Has P w xs i l) →
      (∀ z l, Moved (S :: wr) G s z → SetL w z.heap S l → Has P w xs n l → R (.ok (.ret .none)) z) →
      codeAny (model P w) A (.builtin "set.update.loop" ⟨[.ref S, .ref I], []⟩) R s := by
  have nw : S ∉ wr := fun z => out (V.sub _ z)
  have more : ∀ b ∈ wr, b ∈ S :: wr := fun b z => List.mem_cons_of_mem _ z
  intro m
  induction m with
  | zero =>
    intro i s e1 e2 st ⟨l, L, hh⟩ hR
    have e3 : i = n := by omega
    subst e3
    refine codeAny_builtin PyProof.Rows.F.entry_set_update_loop ?_
    rw [Around.under_plainId PyProof.Rows.F.plain_set_update_loop _]
    show wpAny _ A.in1 (pyNext (.ref I) >>= _) _ _ s
    refine wpAny_bind (V.done s _ _ st fun z mv => ?_)
    show wpAny _ A.in1 (ret Value.none) _ _ z
    exact wpAny_pure (hR z l (mv.mono more) (L.keep fun o e => mv.heap S o nw e) hh)
  | succ m ih =>
    intro i s e1 e2 st ⟨l, L, hw, hlen, hmem⟩ hR
    have lt : i < n := by omega
    refine codeAny_builtin PyProof.Rows.F.entry_set_update_loop ?_
    rw [Around.under_plainId PyProof.Rows.F.plain_set_update_loop _]
    show wpAny _ A.in1 (pyNext (.ref I) >>= _) _ _ s
    refine wpAny_bind (V.item i s _ _ lt st fun v z hP st' mv => ?_)
    obtain ⟨k, tk, hk, rfl⟩ := hval i v hP
    have L' : SetL w z.heap S l := L.keep fun o e => mv.heap S o nw e
    have tk1 : xs.take (i + 1) = xs.take i ++ [k] := by rw [List.take_add_one, hk]; rfl
    show wpAny _ A.in1 (holding [Value.str k tk] (setAdd S (.str k tk)) >>= _) _ _ z
    refine wpAny_bind (wpAny_holding ?_)
    unfold setAdd
    refine wpAny_holding ?_
    refine wpAny_bind ((PySem.strKind P w).pyHash (k := k) (strKind_is _ _ _ _) ?_)
    have fin : ∀ (l2 : List (Int × Value)) (h' : Heap), Heap.SameBut S z.heap h' → SetL w h' S l2 → Has P w xs (i + 1) l2 →
        codeAny (model P w) A (.builtin "set.update.loop" ⟨[.ref S, .ref I], []⟩) R { z with heap := h', toks := z.toks + 1 } := fun l2 h' sb L2 H2 => by
      refine ih (i + 1) _ (by omega) lt (V.frame _ z _ _ st' (Nat.le_succ _) fun b hb o e => ?_) ⟨l2, L2, H2⟩ fun z2 l3 mv2 L3 H3 => ?_
      · rw [sb.2 b (fun q : b = S => out (by rw [← q]; exact hb))]; exact e
      · refine hR z2 l3 (Moved.trans V.gtrans ((mv.mono more).then_heap (Nat.le_succ _) fun b o hb e => ?_) mv2) L3 H3
        rw [sb.2 b (fun q : b = S => hb (by rw [q]; exact List.mem_cons_self))]; exact e
    refine wd_add (s := { z with toks := z.toks + 1 }) L' hw (by omega) (fun hin => ?_) fun hout h' sb L2 => ?_
    · refine wpAny_pure ⟨plainId_quiet PyProof.Rows.F.plain_set_update_loop _, fin l z.heap (Heap.SameBut.refl S z.heap) L' ⟨hw, by omega, fun q => ?_⟩⟩
      rw [hmem q, tk1, List.mem_append, List.mem_singleton]
      exact ⟨.inl, fun c => c.elim id fun c => c ▸ (hmem k).1 hin⟩
    · refine wpAny_pure ⟨plainId_quiet PyProof.Rows.F.plain_set_update_loop _, fin _ h' sb L2 ⟨⟨fun e he => ?_, ?_⟩, by rw [List.length_cons]; omega, fun q => ?_⟩⟩
      · rcases List.mem_cons.mp he with c | c
        · rw [c]; exact ⟨k, tk, rfl, rfl⟩
        · exact hw.all e c
      · exact List.nodup_cons.mpr ⟨hout, hw.nd⟩
      · rw [tk1, List.mem_append, List.mem_singleton, ← hmem q]
        show q ∈ k :: l.map wordOf ↔ _
        rw [List.mem_cons]
        exact Or.comm
/-- set(a list of texts) -/
theorem set_texts {q : Addr} {its : Array Value} {xs : List Str} {Q : Value → Shared → Prop} (free : A.handled = none) (il : s.heap.IsList q its) (ha : StrsAre its.toList xs) (hb : xs.length + 1 < scanBound)
    (fin : ∀ (h' : Heap) (tk : Nat) (l : List (Int × Value)), SetL w h' s.heap.objs.size l → Has P w xs xs.length l → (∀ b o, s.heap.get? b = some o → h'.get? b = some o) → Q (.ref s.heap.objs.size) { s with heap := h', toks := tk }) :
    wpAny (model P w) A (call (.type "set") [.ref q]) Q E s := by
  have count : its.size = xs.length := by
    rw [← StrsAre.len_eq ha, Array.length_toList]
  obtain ⟨c0, tl0, mro0⟩ := PySem.F.called_set.mro
  have made0 := PySem.F.called_set.made
  have sub0 := PySem.F.called_set.sub
  refine wpAny_call (codeAny_of_tree ?_)
  show wpAny _ _ (callAny (.type "set") _) _ _ _
  refine wpAny_pure ⟨Code.quiet_builtin _ (by decide +kernel), codeAny_builtin PySem.F.entry_type_call ?_⟩
  rw [Around.under_plain (weight_type_call_type "set" [.ref q] []) rfl]
  have nt0 := PySem.F.called_set.notType
  have cc0 := PySem.F.called_set.canCreate
  have ct0 := PySem.F.typeCall_set_1 (.ref q)
  repeat (any_goals (first | assumption | wp_step))
  let new : Obj := { cls := .type "set", dict := none, data := .set #[] 0 (.fresh 0 0 (!w.params.followText "set-order")) }
  refine codeAny_mono (code_set_led1 (.ref q) (E := E) (Q₁ := fun x z => x = .ref s.heap.objs.size ∧ z = { s with heap := s.heap.push { cls := .type "set", dict := none, data := .set #[] 0 (.fresh 0 0 (!w.params.followText "set-order")) } }) ⟨rfl, rfl⟩) fun r z hr => ?_
  cases r with
  | error e => exact hr
  | ok fl =>
    cases fl with
    | ret x =>
      obtain ⟨rfl, rfl⟩ := hr
      have gn : (s.heap.push { cls := .type "set", dict := none, data := .set #[] 0 (.fresh 0 0 (!w.params.followText "set-order")) }).get? s.heap.objs.size = some { cls := .type "set", dict := none, data := .set #[] 0 (.fresh 0 0 (!w.params.followText "set-order")) } := Heap.get?_push_size _ rfl
      have ty : Shared.TypeIs { s with heap := s.heap.push { cls := .type "set", dict := none, data := .set #[] 0 (.fresh 0 0 (!w.params.followText "set-order")) } } (.ref s.heap.objs.size) "set" := ⟨_, gn, rfl⟩
      have li0 := PySem.F.called_set.init.lookup
      have bi0 := PySem.F.called_set.init.bind (.ref s.heap.objs.size)
      repeat (any_goals (first | assumption | wp_step))
      refine codeAny_mono (codeAny_call_builtin (R := wants (fun r z => r = .none ∧ ∃ h' tk l, z = { s with heap := h', toks := tk } ∧ SetL w h' s.heap.objs.size l ∧ Has P w xs xs.length l ∧
          (∀ b o, s.heap.get? b = some o → h'.get? b = some o)) E) PySem.F.called_set.init.plain PySem.F.entry_set_init (check_set_init_1 ty ?_)) fun r2 z2 hr2 => ?_
      · obtain ⟨oq, goq, hcl, nl, hdl⟩ := il
        obtain ⟨oc, od, odt, osl⟩ := oq
        simp only at hcl hdl
        subst hcl; subst hdl
        have goq' : (s.heap.push { cls := .type "set", dict := none, data := .set #[] 0 (.fresh 0 0 (!w.params.followText "set-order")) }).get? q = some { cls := .type "list", dict := od, data := .seq its nl, slots := osl } := Heap.get?_push_of_some _ goq
        have sls := PySem.F.sub_list_set
        have slf := PySem.F.sub_list_frozenset
        have nd0 : (Value.type "list" == Value.type "dict") = false := by decide
        have il1 : (s.heap.push { cls := .type "set", dict := none, data := .set #[] 0 (.fresh 0 0 (!w.params.followText "set-order")) }).IsList q its := ⟨_, goq', rfl, nl, rfl⟩
        unfold Builtin.«set.__init__» noKeywords Builtin.Frozenset.updateFrom
        generalize hPI : pyIter = PI
        wp_walk
        subst hPI
        refine wpAny_pyIter_list il1 ?_
        refine wpAny_bind (wpAny_runValue ?_)
        have ql : q < s.heap.objs.size := Heap.lt_size goq
        have free3 : A.in1.in1.in1.handled = none := by simp [free]
        have neI : q ≠ (s.heap.push { cls := .type "set", dict := none, data := .set #[] 0 (.fresh 0 0 (!w.params.followText "set-order")) }).objs.size := by
          rw [Heap.size_push]; exact Nat.ne_of_lt (Nat.lt_succ_of_lt ql)
        have nin : s.heap.objs.size ∉ [(s.heap.push { cls := .type "set", dict := none, data := .set #[] 0 (.fresh 0 0 (!w.params.followText "set-order")) }).objs.size, q] := by
          rw [Heap.size_push]; simp only [List.mem_cons, List.mem_singleton, List.not_mem_nil, or_false, not_or]
          exact ⟨Nat.ne_of_lt (Nat.lt_succ_self _), Nat.ne_of_gt ql⟩
        have each : ∀ (i : Nat) (v : Value), its[i]? = some v → ∃ k t, xs[i]? = some k ∧ v = .str k t := fun i v hv => by
          have hi : i < xs.length := by rw [← count]; exact (Array.getElem?_eq_some_iff.mp hv).1
          obtain ⟨t, e⟩ := SS.strs_at ha i v (by rw [Array.getElem?_toList]; exact hv)
          refine ⟨xs[i], t, List.getElem?_eq_getElem hi, ?_⟩
          rw [e, List.getD_eq_getElem?_getD, List.getElem?_eq_getElem hi] <;> rfl
        refine update_texts ((Walks.list free3 _ q neI its).toS) s.heap.objs.size nin xs count hb each (its.size - 0) 0 _ (by omega) (Nat.zero_le _)
          ⟨⟨_, Heap.get?_push_size _ rfl, rfl, rfl⟩, (il1.push _)⟩ ?first ?last
        case first =>
          refine ⟨[], ⟨_, #[], 0, _, Heap.get?_push_of_some _ gn, ⟨rfl, rfl, rfl⟩, rfl, .refl _, by decide, by rfl, List.Pairwise.nil, ?_⟩, ⟨fun e he => (by cases he), .nil⟩, Nat.le_refl 0, fun k => by simp⟩
          show _ ∨ (!w.params.followText "set-order") = true
          cases w.params.followText "set-order" <;> first | exact .inl rfl | exact .inr rfl
        case last =>
          intro z l mv L hh
          obtain ⟨h', g2, d2, tk2, os2⟩ := z
          have eg : g2 = s.gens := mv.gens
          have ed : d2 = s.drawn := mv.drawn
          have eo : os2 = s.os := mv.os
          subst eg; subst ed; subst eo
          show wpAny _ _ _ _ _ _
          refine wpAny_pure ?_
          show wpAny _ _ (ret Value.none) _ _ _
          rw [count] at hh
          refine wpAny_pure ⟨rfl, h', tk2, l, rfl, L, hh, fun b o e => ?_⟩
          have b0 : b < s.heap.objs.size := Heap.lt_size e
          have b2 : b ≠ (s.heap.push { cls := .type "set", dict := none, data := .set #[] 0 (.fresh 0 0 (!w.params.followText "set-order")) }).objs.size := by
            rw [Heap.size_push]; exact Nat.ne_of_lt (Nat.lt_succ_of_lt b0)
          exact mv.heap b o (by simp only [List.mem_cons, List.mem_singleton, List.not_mem_nil, or_false, not_or]; exact ⟨Nat.ne_of_lt b0, b2⟩) (Heap.get?_push_of_some _ (Heap.get?_push_of_some _ e))
      · cases r2 with
        | error e => exact hr2
        | ok fl2 =>
          cases fl2 with
          | ret r =>
            obtain ⟨rfl, h', tk, l, rfl, L, hh, kp⟩ := hr2
            repeat (any_goals (first | assumption | wp_step))
            exact fin _ _ _ L hh kp
          | _ => exact hr2.elim
    | _ => exact hr.elim
theorem strs_of_wds : ∀ (vs : List Value), (∀ v ∈ vs, ∃ k tk, v = Value.str k tk) → StrsAre vs (vs.map fun v => wordOf (0, v))
  | [], _ => .nil
  | v :: r, h => by
    obtain ⟨k, tk, rfl⟩ := h v List.mem_cons_self
    exact .cons k tk (strs_of_wds r fun u hu => h u (List.mem_cons_of_mem _ hu))
/-- sorted of a set of texts -/
theorem sorted_texts {Q : Value → Shared → Prop} (L : SetL w s.heap a l) (W : Wds P w l) (free : A.handled = none) (h64 : l.length < 64)
    (fin : ∀ z p (out : Array Value) (c : Nat) (ys : List Str), (∀ b o, s.heap.get? b = some o → z.heap.get? b = some o) → z.gens = s.gens → z.os = s.os → s.heap.objs.size ≤ p →
      z.heap.get? p = some (seqObj "list" out c) → StrsAre out.toList ys → ys.Perm (l.map wordOf) → sortedS ys = true → Q (.ref p) z) :
    wpAny (model P w) A (call (.builtin "sorted") [.ref a]) Q E s := by
  obtain ⟨o, es, ep, t, ho, hx, hd, pl, hb, hf, hr, hl⟩ := L
  refine Calls.call_function_entry kind_sorted plain_sorted entry_sorted (args_sorted1 _) ?_
  unfold Builtin.«sorted»
  refine wpAny_bind (m := checkCount "sorted" 1 1 _) (wpAny_pure ?_)
  refine wpAny_bind (collect_set (A := A.in1) free ⟨o, ho, hx.1, hd⟩ hf hb hr hl fun s1 vs k1 hz g1 o1 pm => ?_)
  have pv : vs.Perm (l.map (·.2)) := pm.trans (pl.map _)
  have n64 : vs.length < 64 := by rw [pv.length_eq, List.length_map]; exact h64
  have hS : StrsAre vs (vs.map fun v => wordOf (0, v)) := strs_of_wds vs fun v hv => by
    obtain ⟨e, he, q⟩ := List.mem_map.mp (pv.mem_iff.mp hv)
    obtain ⟨k, tk, q1, _⟩ := W.all e he
    exact ⟨k, tk, by rw [← q]; exact q1⟩
  have pk : (vs.map fun v => wordOf (0, v)).Perm (l.map wordOf) := by
    have q := pv.map fun v => wordOf (0, v)
    rw [List.map_map] at q
    exact q
  refine wpAny_bind (wpAny_newList ?_ (by rw [sizeLine_eq]; omega))
  have hoL : (s1.heap.push (seqObj "list" vs.toArray 0)).get? s1.heap.objs.size = some (seqObj "list" vs.toArray 0) := Heap.get?_push_size _ rfl
  refine wpAny_bind (wpAny_holding (wpAny_call_entry slot_list_sort ⟨_, hoL, rfl⟩ entry_list_sort (list_sort_treeK strKind_oneLt hoL hS.keysOf (fun v₁ v₂ rest e => keyKind_strs (by rw [← e]; exact hS)) n64 fun st' hp hs => ⟨_, rfl, ?_⟩) (args_list_sort _)))
  obtain ⟨ys, h1, h2, h3⟩ := sorted_out_str hS hp hs
  obtain ⟨c, hc⟩ := sortedHeap_at (vs := vs) (out := _) hoL
  refine wpAny_pure ⟨_, rfl, fin _ s1.heap.objs.size _ c ys (fun b u e => ?_) g1 o1 hz hc h1 (h2.trans pk) h3⟩
  have q := k1 b u e
  have lt := Heap.lt_size q
  show (sortedHeap (s1.heap.push (seqObj "list" vs.toArray 0)) s1.heap.objs.size vs _).get? b = some u
  rw [sortedHeap_old (Nat.ne_of_lt lt) (by rw [size_push']; exact Nat.lt_succ_of_lt lt)]
  exact Heap.get?_push_of_some _ q
end
/-! ### as rules -/
def TxO (P : Program) (w : World) (a : Addr) (xs : List Str) : HO := .ext fun h => ∃ l, SetL w h a l ∧ Has P w xs xs.length l
section
variable {X : Cx}
theorem cr_setTexts (hc : X.calm = true) : CallR X (.type "set") (fun vs H Q => ∃ (a : Addr) (xs : List Str), vs = [V.ref a] ∧ SqL X.K H a (xs.map V.str) ∧ xs.length < 64 ∧ ∀ p, H p = none → Q (.ref p) (upd H p (TxO X.prog X.w p xs))) := by
  intro pins s σ H vs us Q I r h
  obtain ⟨a, xs, rfl, hs, h64, q⟩ := h
  obtain ⟨its, rv, pl, _⟩ := I.list hs
  rw [Vals.ref1 r]
  refine set_texts (P := X.prog) (w := X.w) (xs := xs) (I.ok.hd hc) pl.isList (by simpa using strsAre_of rv) (by unfold scanBound; omega) fun h' tk l L hh kp => ?_
  obtain ⟨o, _, _, _, ho, _⟩ := id L
  exact ⟨.ref _, upd H s.heap.objs.size (TxO X.prog X.w s.heap.objs.size xs), I.laid (t' := tk) kp (Nat.le_refl _) ⟨⟨l, L, hh⟩, ⟨o, ho⟩, fun h1 h2 p k => let ⟨l, L, z⟩ := p; ⟨l, L.keep k, z⟩⟩, rfl, q _ (I.hok.fresh (Nat.le_refl _))⟩
theorem cr_sortedTexts (hc : X.calm = true) : CallR X (.builtin "sorted") (fun vs H Q => ∃ (a : Addr) (xs : List Str), vs = [V.ref a] ∧ H a = some (TxO X.prog X.w a xs) ∧ xs.length < 64 ∧
    ∀ (ys : List Str) (p : Addr), ys.Nodup → (∀ k, k ∈ ys ↔ k ∈ xs) → sortedS ys = true → H p = none → Q (.ref p) (upd H p (.lst (ys.map V.str)))) := by
  intro pins s σ H vs us Q I r h
  obtain ⟨a, xs, rfl, ha, h64, q⟩ := h
  obtain ⟨l, L, hw, hlen, hm⟩ := (I.hok a _ ha).1
  rw [Vals.ref1 r]
  refine sorted_texts L hw (I.ok.hd hc) (by omega) fun z p out c ys k g o hp hg hS pm srt => ?_
  have hln : (ys.map V.str).length ≤ sizeLine := by rw [List.length_map, pm.length_eq, List.length_map, sizeLine_eq]; omega
  have hn : H p = none := I.hok.fresh hp
  have J : Inv X pins σ (upd H p (.lst (ys.map V.str))) { s with heap := z.heap, gens := z.gens, drawn := z.drawn, toks := z.toks } :=
    I.call (ch := []) (Un.laid k hp hn) (I.hok.laid k hp ⟨hln, out.toList, c, vals_of_strs hS, hg⟩) (by rw [g]; exact I.bare) (fun _ y => nomatch y)
  have e : z = { s with heap := z.heap, gens := z.gens, drawn := z.drawn, toks := z.toks } := by
    cases z
    cases s
    cases o
    rfl
  rw [e]
  refine ⟨.ref p, _, J, rfl, q ys p (pm.nodup_iff.mpr hw.nd) (fun k => ?_) srt hn⟩
  rw [pm.mem_iff, hm k, List.take_of_length_le (Nat.le_refl _)]
end
end Gap
set_option Elab.async false
set_option linter.all false
set_option maxRecDepth 100000
set_option maxHeartbeats 4000000
/-! Snd21: sorted(set(..)) of a list of texts. -/
namespace Snd
open PySem PySem.Spec PyProof.Rows L2
theorem strEq_dec : ∀ (s t : List Nat), MP.strEq s t = decide (s = t)
  | [], [] => rfl
  | [], _ :: _ => by simp [MP.strEq]
  | _ :: _, [] => by simp [MP.strEq]
  | a :: s, b :: t => by
    show (match Nat.beq a b with | true => MP.strEq s t | false => false) = _
    cases e : Nat.beq a b with
    | true =>
      have := Nat.eq_of_beq_eq_true e
      subst this
      simp [strEq_dec s t]
    | false =>
      have : a ≠ b := by rintro rfl; simp at e
      simp [this]
theorem hasS_iff (x : List Nat) : ∀ l : List (List Nat), MP.E.hasS x l = true ↔ x ∈ l
  | [] => by simp [MP.E.hasS]
  | y :: r => by
    show (match MP.strEq x y with | true => true | false => MP.E.hasS x r) = true ↔ _
    rw [strEq_dec]
    by_cases h : x = y
    · simp [h]
    · simp [h, hasS_iff x r]
theorem dedupS_iff (x : List Nat) : ∀ l : List (List Nat), x ∈ MP.E.dedupS l ↔ x ∈ l
  | [] => Iff.rfl
  | y :: r => by
    show x ∈ (match MP.E.hasS y r with | true => MP.E.dedupS r | false => y :: MP.E.dedupS r) ↔ _
    cases h : MP.E.hasS y r with
    | true =>
      have hy := (hasS_iff y r).mp h
      simp only [dedupS_iff x r, List.mem_cons]
      constructor
      · exact .inr
      · rintro (rfl | z)
        · exact hy
        · exact z
    | false => simp only [List.mem_cons, dedupS_iff x r]
theorem dedupS_nodup : ∀ l : List (List Nat), (MP.E.dedupS l).Nodup
  | [] => List.nodup_nil
  | y :: r => by
    show (match MP.E.hasS y r with | true => MP.E.dedupS r | false => y :: MP.E.dedupS r).Nodup
    cases h : MP.E.hasS y r with
    | true => exact dedupS_nodup r
    | false =>
      refine List.nodup_cons.mpr ⟨fun z => ?_, dedupS_nodup r⟩
      have := (hasS_iff y r).mpr ((dedupS_iff y r).mp z)
      rw [h] at this; cases this
theorem set_unique {ys : List Str} {l : List (List Nat)} (nd : ys.Nodup) (hm : ∀ k, k ∈ ys ↔ k ∈ l.map fun s => (⟨s.toArray⟩ : Str)) (hs : sortedS ys = true) : ys = (MP.sortS (MP.E.dedupS l)).map fun s => (⟨s.toArray⟩ : Str) := by
  refine sorted_unique ((List.perm_ext_iff_of_nodup nd ?_).mpr fun k => ?_) hs
  · unfold List.Nodup
    rw [List.pairwise_map]
    exact (dedupS_nodup l).imp fun {a b} h e => h (congrArg (fun s : Str => s.cps.toList) e)
  · rw [hm k, List.mem_map, List.mem_map]
    exact ⟨fun ⟨a, h1, h2⟩ => ⟨a, (dedupS_iff a l).mpr h1, h2⟩, fun ⟨a, h1, h2⟩ => ⟨a, (dedupS_iff a l).mp h1, h2⟩⟩
section
variable {G : Gp} {Γ : Cn} {W : XPost} {σ : L2.St} {H : Hp} {f : MP.Cx}
theorem o_sortedSet {e : Expr} {c : MP.E} {p p2 q pos : Pos} (hb : Blt G Γ "sorted") (hb2 : Blt G Γ "set") (h : OkE G Γ e c) (he : ∀ env, starEach [e] env = (false, eval e env) :: starEach [] env := by intro _; rfl)
    (he2 : ∀ env, starEach [Expr.Call (.Name "set" p2) [e] [] q] env = (false, eval (.Call (.Name "set" p2) [e] [] q) env) :: starEach [] env := by intro _; rfl) : OkE G Γ (.Call (.Name "sorted" p) [.Call (.Name "set" p2) [e] [] q] [] pos) (.bSortedSet c) := fun W X F => by
  have inner := pe_callTy (p := p2) (pos := q) (Gap.cr_setTexts (X := X) F.calm) (hb2.gl F) (hb2.no F) (by rfl) (okA_cons h okA_nil he W X F) (by decide) (by decide) (he X.env)
  have outer := pe_callB (p := p) (pos := pos) (Gap.cr_sortedTexts (X := X) F.calm) (hb.gl F) (hb.no F) (by rfl) (pa_cons inner pa_nil (he2 X.env)) (by decide) (by decide) (he2 X.env)
  refine PE.weak outer fun σ H Q ⟨ρ, σm, m, sr, hr, po⟩ => ?_
  refine stepA1 sr hr po fun ρ1 v m1 x H1 sr1 hr1 vr p1 => ?_
  obtain ⟨vs, e1, p1⟩ := opt_of p1
  obtain ⟨l, e2, p1⟩ := opt_of p1
  obtain ⟨a, us', rfl, r, qq⟩ := lstV_of hr1 vr e1
  obtain ⟨rfl, hc⟩ := strs_of r e2
  cases e3 : Nat.blt l.length 64 with
  | false => rw [e3] at p1; exact p1.elim
  | true =>
    rw [e3] at p1
    have hl : l.length < 64 := Nat.le_of_ble_eq_true e3
    have hlm : (l.map fun s => (⟨s.toArray⟩ : Str)).length < 64 := by rw [List.length_map]; exact hl
    refine ⟨a, l.map fun s => (⟨s.toArray⟩ : Str), rfl, by rw [F.hK, List.map_map]; exact qq, hlm, fun p hp => ?_⟩
    refine ⟨p, l.map fun s => (⟨s.toArray⟩ : Str), rfl, upd_same, hlm, fun ys p' nd hm srt hn => ?_⟩
    have eu := set_unique nd hm srt
    subst eu
    obtain ⟨hr2, ex2⟩ := hr1.beside (o := Gap.TxO X.prog X.w p (l.map fun s => (⟨s.toArray⟩ : Str))) hp
    rw [List.map_map]
    exact new_lst hr2 (VRs.strs (l := MP.sortS (MP.E.dedupS l)) fun t ht => hc t ((dedupS_iff t l).mp ((sortS_perm (MP.E.dedupS l)).mem_iff.mp ht))) hn (Post.at p1 ex2)
end
end Snd
set_option Elab.async false
set_option linter.all false
set_option maxRecDepth 100000
set_option maxHeartbeats 4000000
namespace K02
open PySem PySem.Spec PyProof.Rows L2 Snd
abbrev PW : Program := PySem.Challenge.pw_sortjudge_k02_whole_sorts
def top (i : Nat) : Stmt := PW.main.body.getD i (.Pass ⟨0, 0, 0, 0⟩)
def sub (i j : Nat) : Stmt := match top i with | .ClassDef (body := b) .. => b.getD j (.Pass ⟨0, 0, 0, 0⟩) | s => s
abbrev s0 : Stmt := top 11
abbrev n0 : List Str := ["thing", "sign"]
abbrev d0 : DT := { at_ := ("is_label", none), name := "is_label", qual := "is_label", st := s0, N := n0, ps := ["thing"], fn := f0 }
abbrev s1 : Stmt := top 12
abbrev n1 : List Str := ["thing"]
abbrev d1 : DT := { at_ := ("is_count", none), name := "is_count", qual := "is_count", st := s1, N := n1, ps := ["thing"], fn := f1 }
abbrev s2 : Stmt := sub 13 0
abbrev n2 : List Str := ["self"]
abbrev d2 : DT := { at_ := ("Kinds", some "__init__"), name := "__init__", qual := "Kinds.__init__", st := s2, N := n2, ps := ["self"], fn := f2 }
abbrev s3 : Stmt := sub 13 1
abbrev n3 : List Str := ["self", "count", "kind"]
abbrev d3 : DT := { at_ := ("Kinds", some "takes"), name := "takes", qual := "Kinds.takes", st := s3, N := n3, ps := ["self", "count", "kind"], fn := f3 }
abbrev s4 : Stmt := sub 13 2
abbrev n4 : List Str := ["self", "tail", "kind"]
abbrev d4 : DT := { at_ := ("Kinds", some "is_tail"), name := "is_tail", qual := "Kinds.is_tail", st := s4, N := n4, ps := ["self", "tail", "kind"], fn := f4 }
abbrev s5 : Stmt := sub 13 3
abbrev n5 : List Str := ["self", "thing", "one"]
abbrev d5 : DT := { at_ := ("Kinds", some "are_effects"), name := "are_effects", qual := "Kinds.are_effects", st := s5, N := n5, ps := ["self", "thing"], fn := f5 }
abbrev s6 : Stmt := sub 13 4
abbrev n6 : List Str := ["self", "pairs", "pair", "one", "other"]
abbrev d6 : DT := { at_ := ("Kinds", some "are_pairs"), name := "are_pairs", qual := "Kinds.are_pairs", st := s6, N := n6, ps := ["self", "pairs"], fn := f6 }
abbrev s7 : Stmt := sub 13 5
abbrev n7 : List Str := ["self", "thing", "found"]
abbrev d7 : DT := { at_ := ("Kinds", some "is_sort"), name := "is_sort", qual := "Kinds.is_sort", st := s7, N := n7, ps := ["self", "thing"], fn := f7 }
abbrev s8 : Stmt := sub 13 6
abbrev n8 : List Str := ["self", "thing", "word", "rest"]
abbrev d8 : DT := { at_ := ("Kinds", some "is_formed"), name := "is_formed", qual := "Kinds.is_formed", st := s8, N := n8, ps := ["self", "thing"], fn := f8 }
abbrev s9 : Stmt := top 14
abbrev n9 : List Str := ["thing"]
abbrev d9 : DT := { at_ := ("is_sort", none), name := "is_sort", qual := "is_sort", st := s9, N := n9, ps := ["thing"], fn := f9 }
abbrev s10 : Stmt := top 15
abbrev n10 : List Str := ["thing"]
abbrev d10 : DT := { at_ := ("check_sort", none), name := "check_sort", qual := "check_sort", st := s10, N := n10, ps := ["thing"], fn := f10 }
abbrev s11 : Stmt := sub 16 0
abbrev n11 : List Str := ["self"]
abbrev d11 : DT := { at_ := ("Counted", some "__init__"), name := "__init__", qual := "Counted.__init__", st := s11, N := n11, ps := ["self"], fn := f11 }
abbrev s12 : Stmt := sub 16 1
abbrev n12 : List Str := ["self", "one"]
abbrev d12 : DT := { at_ := ("Counted", some "count"), name := "count", qual := "Counted.count", st := s12, N := n12, ps := ["self", "one"], fn := f12 }
abbrev s13 : Stmt := sub 16 2
abbrev n13 : List Str := ["self", "one"]
abbrev d13 : DT := { at_ := ("Counted", some "tail"), name := "tail", qual := "Counted.tail", st := s13, N := n13, ps := ["self", "one"], fn := f13 }
abbrev s14 : Stmt := sub 16 3
abbrev n14 : List Str := ["self", "one", "word", "begin", "effects", "pairs", "label", "part"]
abbrev d14 : DT := { at_ := ("Counted", some "told"), name := "told", qual := "Counted.told", st := s14, N := n14, ps := ["self", "one"], fn := f14 }
abbrev s15 : Stmt := top 17
abbrev n15 : List Str := ["sort"]
abbrev d15 : DT := { at_ := ("counted", none), name := "counted", qual := "counted", st := s15, N := n15, ps := ["sort"], fn := f15 }
abbrev s16 : Stmt := top 19
abbrev n16 : List Str := ["_law_script", "_law_k"]
abbrev d16 : DT := { at_ := ("_law_cell_at", none), name := "_law_cell_at", qual := "_law_cell_at", st := s16, N := n16, ps := ["_law_script", "_law_k"], fn := f16 }
abbrev s17 : Stmt := top 20
abbrev n17 : List Str := ["_law_cell", "_law_limits", "_law_rest", "_law_found"]
abbrev d17 : DT := { at_ := ("_law_numbers", none), name := "_law_numbers", qual := "_law_numbers", st := s17, N := n17, ps := ["_law_cell", "_law_limits"], fn := f17 }
abbrev s18 : Stmt := top 21
abbrev n18 : List Str := ["_law_dr", "_law_many"]
abbrev d18 : DT := { at_ := ("_law_by", none), name := "_law_by", qual := "_law_by", st := s18, N := n18, ps := ["_law_dr", "_law_many"], fn := f18 }
abbrev s19 : Stmt := top 22
abbrev n19 : List Str := ["_law_dr", "_law_d", "_law_open_", "_law_kind", "_law_begin", "_law_some", "_law_names", "_law_tail", "_law_pairs", "_law_at", "_law_label"]
abbrev d19 : DT := { at_ := ("_law_sort", none), name := "_law_sort", qual := "_law_sort", st := s19, N := n19, ps := ["_law_dr", "_law_d", "_law_open_"], fn := f19 }
abbrev s20 : Stmt := top 23
abbrev n20 : List Str := ["_law_script", "_law_at", "_law_dr", "_law_k"]
abbrev d20 : DT := { at_ := ("_law_draws", none), name := "_law_draws", qual := "_law_draws", st := s20, N := n20, ps := ["_law_script", "_law_at"], fn := f20 }
abbrev s21 : Stmt := top 24
abbrev n21 : List Str := ["_law_thing", "_law_letters", "_law_sign"]
abbrev d21 : DT := { at_ := ("_law_name_fine", none), name := "_law_name_fine", qual := "_law_name_fine", st := s21, N := n21, ps := ["_law_thing"], fn := f21 }
abbrev s22 : Stmt := top 25
abbrev n22 : List Str := ["_law_kinds", "_law_thing", "_law_kind"]
abbrev d22 : DT := { at_ := ("_law_count_fine", none), name := "_law_count_fine", qual := "_law_count_fine", st := s22, N := n22, ps := ["_law_kinds", "_law_thing", "_law_kind"], fn := f22 }
abbrev s23 : Stmt := top 26
abbrev n23 : List Str := ["_law_kinds", "_law_one", "_law_deep_here", "_law_names", "_law_tail", "_law_name", "_law_pair", "_law_labels"]
abbrev d23 : DT := { at_ := ("_law_fine", none), name := "_law_fine", qual := "_law_fine", st := s23, N := n23, ps := ["_law_kinds", "_law_one", "_law_deep_here"], fn := f23 }
abbrev s24 : Stmt := top 27
abbrev n24 : List Str := ["_law_one", "_law_new", "_law_begin", "_law_names", "_law_tail", "_law_some", "_law_label", "_law_part"]
abbrev d24 : DT := { at_ := ("_law_counted", none), name := "_law_counted", qual := "_law_counted", st := s24, N := n24, ps := ["_law_one", "_law_new"], fn := f24 }
abbrev s25 : Stmt := top 28
abbrev n25 : List Str := ["_law_cell", "_law_one", "_law_bad"]
abbrev d25 : DT := { at_ := ("_law_odd", none), name := "_law_odd", qual := "_law_odd", st := s25, N := n25, ps := ["_law_cell", "_law_one"], fn := f25 }
abbrev s26 : Stmt := top 29
abbrev n26 : List Str := ["_law_cell", "_law_many", "_law_half", "_law_at", "_law_one", "_law_turn"]
abbrev d26 : DT := { at_ := ("_law_deep", none), name := "_law_deep", qual := "_law_deep", st := s26, N := n26, ps := ["_law_cell"], fn := f26 }
abbrev s27 : Stmt := top 30
abbrev n27 : List Str := ["_law_many", "_law_at"]
abbrev d27 : DT := { at_ := ("_law_row_of", none), name := "_law_row_of", qual := "_law_row_of", st := s27, N := n27, ps := ["_law_many"], fn := f27 }
abbrev s28 : Stmt := top 31
abbrev n28 : List Str := ["_law_one", "_law_fine_here"]
abbrev d28 : DT := { at_ := ("_law_judged", none), name := "_law_judged", qual := "_law_judged", st := s28, N := n28, ps := ["_law_one"], fn := f28 }
abbrev s29 : Stmt := top 32
abbrev n29 : List Str := ["_law_script", "_law_k", "_law_dr", "_law_one", "_law_cell", "_law_wide"]
abbrev d29 : DT := { at_ := ("_law_all_right", none), name := "_law_all_right", qual := "_law_all_right", st := s29, N := n29, ps := ["_law_script"], fn := f29 }
abbrev s30 : Stmt := top 33
abbrev n30 : List Str := ["_law_script"]
abbrev d30 : DT := { at_ := ("law", none), name := "law", qual := "law", st := s30, N := n30, ps := ["_law_script"], fn := f30 }
abbrev dts : List DT := [d0, d1, d2, d3, d4, d5, d6, d7, d8, d9, d10, d11, d12, d13, d14, d15, d16, d17, d18, d19, d20, d21, d22, d23, d24, d25, d26, d27, d28, d29, d30]
abbrev k0 : CT := { name := "SortError", k := c0 }
abbrev k1 : CT := { name := "BadSort", k := c1 }
abbrev k2 : CT := { name := "TooBig", k := c2 }
abbrev k3 : CT := { name := "Kinds", k := c3 }
abbrev k4 : CT := { name := "Counted", k := c4 }
abbrev cts : List CT := [k0, k1, k2, k3, k4]
abbrev tab : Tab := { nm := ["by_count", "many", "within", "takes", "is_tail", "is_sort", "is_formed", "are_effects", "are_pairs", "counts", "count", "told", "tail", "__eq__"], fns := dts, cls := cts, con := [("LONGEST", (.int 8)), ("LETTERS", (.str [97,98,99,100,101,102,103,104,105,106,107,108,109,110,111,112,113,114,115,116,117,118,119,120,121,122])), ("MOST_COUNT", (.int 9999)), ("MOST_NESTED", (.int 60)), ("MOST_PARTS", (.int 400)), ("PLAIN", (.tup [(.tup [(.str [110,117,109])]),(.tup [(.str [102,108,97,103])])]))], free := ["isinstance", "str", "len", "all", "int", "bool", "tuple", "sorted", "list", "zip", "enumerate", "range", "set"], p := prog, eqm := eqm }
section
variable {G : Gp} {cx : MP.Cx} {d : Nat}
theorem b0 (t : Tie tab G cx) (hd : 0 < d) : OkB G ⟨n0, defScope s0, cx, d, fun _ => true, true, true⟩ (defBody s0) f0.body :=
  (okB_cons (okS_ret (ok_and (o_isi t "str" (o_var (by kernel_rfl)) (by kernel_rfl) (by kernel_rfl) rfl rfl (by kernel_rfl)) (ok_and (ok_chain (op := .le) (op' := .le) ok_int (ok_len (blt t (by kernel_rfl)) (o_var (by kernel_rfl))) (o_con t 0 rfl (by kernel_rfl))) (ok_one (ok_all (blt t (by kernel_rfl)) (o_lc [("sign", 1)] (by kernel_rfl) rfl (okI_val (o_var (by kernel_rfl))) (go_var (by kernel_rfl)) okC_none (ok_cmp (op := .isin) (o_var (by kernel_rfl)) (o_con t 1 rfl (by kernel_rfl))))))))) okB_nil)
theorem b1 (t : Tie tab G cx) (hd : 0 < d) : OkB G ⟨n1, defScope s1, cx, d, fun _ => true, true, true⟩ (defBody s1) f1.body :=
  (okB_cons (okS_ret (ok_and (o_isi t "int" (o_var (by kernel_rfl)) (by kernel_rfl) (by kernel_rfl) rfl rfl (by kernel_rfl)) (ok_and (ok_not (o_isi t "bool" (o_var (by kernel_rfl)) (by kernel_rfl) (by kernel_rfl) rfl rfl (by kernel_rfl))) (ok_one (ok_chain (op := .le) (op' := .le) ok_int (o_var (by kernel_rfl)) (o_con t 2 rfl (by kernel_rfl))))))) okB_nil)
theorem b2 (t : Tie tab G cx) (hd : 0 < d) : OkB G ⟨n2, defScope s2, cx, d, fun _ => true, true, true⟩ (defBody s2) f2.body :=
  (okB_cons (s_att t (o_var (by kernel_rfl)) ok_dic0 rfl) (okB_cons (s_att t (o_var (by kernel_rfl)) ok_int rfl) (okB_cons (s_att t (o_var (by kernel_rfl)) ok_int rfl) okB_nil)))
theorem b3 (t : Tie tab G cx) (hd : 0 < d) : OkB G ⟨n3, defScope s3, cx, d, fun _ => true, true, true⟩ (defBody s3) f3.body :=
  (okB_cons (okS_ret (ok_and (o_call t 1 rfl rfl (by kernel_rfl) rfl (okA_cons (o_var (by kernel_rfl)) okA_nil)) (ok_one (ok_cmp (op := .eq) (o_setdef (o_att t (o_var (by kernel_rfl)) rfl) (o_var (by kernel_rfl)) (o_var (by kernel_rfl))) (o_var (by kernel_rfl)))))) okB_nil)
theorem b4 (t : Tie tab G cx) (hd : 0 < d) : OkB G ⟨n4, defScope s4, cx, d, fun _ => true, true, true⟩ (defBody s4) f4.body :=
  (okB_cons (okS_ret (ok_or (ok_cmp (op := .is) (o_var (by kernel_rfl)) ok_none) (ok_one (o_meth t (o_var (by kernel_rfl)) (okA_cons (o_var (by kernel_rfl)) (okA_cons (o_var (by kernel_rfl)) okA_nil)) rfl)))) okB_nil)
theorem b5 (t : Tie tab G cx) (hd : 0 < d) : OkB G ⟨n5, defScope s5, cx, d, fun _ => true, true, true⟩ (defBody s5) f5.body :=
  (okB_cons (okS_if (okT_of (okT_or (okT_not (okT_val (o_isi t "tuple" (o_var (by kernel_rfl)) (by kernel_rfl) (by kernel_rfl) rfl rfl (by kernel_rfl)))) (okT_or (okT_cmp (op := .ne) (ok_len (blt t (by kernel_rfl)) (o_var (by kernel_rfl))) ok_int) (okW_or1 (okT_not (okT_val (o_isi t "tuple" (ok_idx (o_var (by kernel_rfl)) ok_int) (by kernel_rfl) (by kernel_rfl) rfl rfl (by kernel_rfl)))))))) (okB_cons (okS_ret ok_bool) okB_nil) okB_nil) (okB_cons (okS_if (okT_of (okT_or (okT_not (okT_val (ok_all (blt t (by kernel_rfl)) (o_lc [("one", 2)] (by kernel_rfl) rfl (okI_val (ok_idx (o_var (by kernel_rfl)) ok_int)) (go_var (by kernel_rfl)) okC_none (o_call t 0 rfl rfl (by kernel_rfl) rfl (okA_cons (o_var (by kernel_rfl)) okA_nil)))))) (okW_or1 (okT_cmp (op := .ne) (ok_sortedS (blt t (by kernel_rfl)) (ok_idx (o_var (by kernel_rfl)) ok_int)) (ok_list (blt t (by kernel_rfl)) (ok_idx (o_var (by kernel_rfl)) ok_int)))))) (okB_cons (okS_ret ok_bool) okB_nil) okB_nil) (okB_cons (okS_ret (o_meth t (o_var (by kernel_rfl)) (okA_cons (ok_idx (o_var (by kernel_rfl)) ok_int) (okA_cons (o_str (by kernel_rfl)) okA_nil)) rfl)) okB_nil)))
theorem b6 (t : Tie tab G cx) (hd : 0 < d) : OkB G ⟨n6, defScope s6, cx, d, fun _ => true, true, true⟩ (defBody s6) f6.body :=
  (okB_cons (okS_if (okT_not (okT_val (o_isi t "tuple" (o_var (by kernel_rfl)) (by kernel_rfl) (by kernel_rfl) rfl rfl (by kernel_rfl)))) (okB_cons (okS_ret ok_bool) okB_nil) okB_nil) (okB_cons (okS_if (okT_not (okT_val (ok_all (blt t (by kernel_rfl)) (o_lc [("pair", 2)] (by kernel_rfl) rfl (okI_val (o_var (by kernel_rfl))) (go_var (by kernel_rfl)) okC_none (ok_and (o_isi t "tuple" (o_var (by kernel_rfl)) (by kernel_rfl) (by kernel_rfl) rfl rfl (by kernel_rfl)) (ok_and (ok_cmp (op := .eq) (ok_len (blt t (by kernel_rfl)) (o_var (by kernel_rfl))) ok_int) (ok_one (o_call t 0 rfl rfl (by kernel_rfl) rfl (okA_cons (ok_idx (o_var (by kernel_rfl)) ok_int) okA_nil))))))))) (okB_cons (okS_ret ok_bool) okB_nil) okB_nil) (okB_cons (okS_if (okT_not (okT_val (ok_all (blt t (by kernel_rfl)) (o_lc [("one", 3), ("other", 4)] (by kernel_rfl) rfl (okI_zip (blt t (by kernel_rfl)) (okA_cons (o_var (by kernel_rfl)) (okA_cons (ok_slc (o_var (by kernel_rfl)) (okO_some ok_int) okO_none) okA_nil))) (okGo_tup (okGos_cons (go_var (by kernel_rfl)) (okGos_cons (go_var (by kernel_rfl)) okGos_nil))) okC_none (ok_cmp (op := .lt) (ok_idx (o_var (by kernel_rfl)) ok_int) (ok_idx (o_var (by kernel_rfl)) ok_int)))))) (okB_cons (okS_ret ok_bool) okB_nil) okB_nil) (okB_cons (okS_ret (ok_all (blt t (by kernel_rfl)) (o_lc [("pair", 2)] (by kernel_rfl) rfl (okI_val (o_var (by kernel_rfl))) (go_var (by kernel_rfl)) okC_none (o_meth t (o_var (by kernel_rfl)) (okA_cons (ok_idx (o_var (by kernel_rfl)) ok_int) okA_nil) rfl)))) okB_nil))))
theorem b7 (t : Tie tab G cx) (hd : 0 < d) : OkB G ⟨n7, defScope s7, cx, d, fun _ => true, true, true⟩ (defBody s7) f7.body :=
  (okB_cons (s_augAtt t (.inl ⟨rfl, rfl⟩) (o_var (by kernel_rfl)) ok_int rfl) (okB_cons (okS_asg (ok_and (ok_cmp (op := .le) (o_att t (o_var (by kernel_rfl)) rfl) (o_con t 3 rfl (by kernel_rfl))) (ok_one (o_meth t (o_var (by kernel_rfl)) (okA_cons (o_var (by kernel_rfl)) okA_nil) rfl))) (g_var (by kernel_rfl))) (okB_cons (s_augAtt t (.inr ⟨rfl, rfl⟩) (o_var (by kernel_rfl)) ok_int rfl) (okB_cons (okS_ret (o_var (by kernel_rfl))) okB_nil))))
theorem b8 (t : Tie tab G cx) (hd : 0 < d) : OkB G ⟨n8, defScope s8, cx, d, fun _ => true, true, true⟩ (defBody s8) f8.body :=
  (okB_cons (s_augAtt t (.inl ⟨rfl, rfl⟩) (o_var (by kernel_rfl)) ok_int rfl) (okB_cons (okS_if (okT_of (okT_or (okT_cmp (op := .gt) (o_att t (o_var (by kernel_rfl)) rfl) (o_con t 4 rfl (by kernel_rfl))) (okT_or (okT_not (okT_val (o_isi t "tuple" (o_var (by kernel_rfl)) (by kernel_rfl) (by kernel_rfl) rfl rfl (by kernel_rfl)))) (okT_or (okT_cmp (op := .eq) (o_var (by kernel_rfl)) (ok_tup okA_nil)) (okW_or1 (okT_not (okT_val (o_isi t "str" (ok_idx (o_var (by kernel_rfl)) ok_int) (by kernel_rfl) (by kernel_rfl) rfl rfl (by kernel_rfl))))))))) (okB_cons (okS_ret ok_bool) okB_nil) okB_nil) (okB_cons (okS_asg (o_var (by kernel_rfl)) (okG_star (okGs_cons (g_var (by kernel_rfl)) (okGs_star (g_var (by kernel_rfl)) okGs_nil)))) (okB_cons (okS_if (okT_cmp (op := .isin) (o_var (by kernel_rfl)) (o_con t 5 rfl (by kernel_rfl))) (okB_cons (okS_ret ok_bool) okB_nil) okB_nil) (okB_cons (okS_if (okT_cmp (op := .eq) (o_var (by kernel_rfl)) (o_str (by kernel_rfl))) (okB_cons (okS_ret (ok_and (ok_cmp (op := .eq) (ok_len (blt t (by kernel_rfl)) (o_var (by kernel_rfl))) ok_int) (ok_one (o_meth t (o_var (by kernel_rfl)) (okA_cons (ok_idx (o_var (by kernel_rfl)) ok_int) (okA_cons (o_str (by kernel_rfl)) okA_nil)) rfl)))) okB_nil) okB_nil) (okB_cons (okS_if (okT_cmp (op := .eq) (o_var (by kernel_rfl)) (o_str (by kernel_rfl))) (okB_cons (okS_ret (ok_and (ok_cmp (op := .eq) (ok_len (blt t (by kernel_rfl)) (o_var (by kernel_rfl))) ok_int) (ok_one (o_meth t (o_var (by kernel_rfl)) (okA_cons (ok_idx (o_var (by kernel_rfl)) ok_int) okA_nil) rfl)))) okB_nil) okB_nil) (okB_cons (okS_if (okT_cmp (op := .eq) (o_var (by kernel_rfl)) (o_str (by kernel_rfl))) (okB_cons (okS_ret (ok_and (ok_cmp (op := .eq) (ok_len (blt t (by kernel_rfl)) (o_var (by kernel_rfl))) ok_int) (ok_and (o_meth t (o_var (by kernel_rfl)) (okA_cons (ok_idx (o_var (by kernel_rfl)) ok_int) okA_nil) rfl) (ok_and (o_meth t (o_var (by kernel_rfl)) (okA_cons (ok_idx (o_var (by kernel_rfl)) ok_int) okA_nil) rfl) (ok_one (o_meth t (o_var (by kernel_rfl)) (okA_cons (ok_idx (o_var (by kernel_rfl)) ok_int) okA_nil) rfl)))))) okB_nil) okB_nil) (okB_cons (okS_if (okT_of (okT_or (okT_cmp (op := .ne) (o_var (by kernel_rfl)) (o_str (by kernel_rfl))) (okW_or1 (okT_cmp (op := .ne) (ok_len (blt t (by kernel_rfl)) (o_var (by kernel_rfl))) ok_int)))) (okB_cons (okS_ret ok_bool) okB_nil) okB_nil) (okB_cons (okS_ret (ok_and (o_meth t (o_var (by kernel_rfl)) (okA_cons (ok_idx (o_var (by kernel_rfl)) ok_int) okA_nil) rfl) (ok_one (o_meth t (o_var (by kernel_rfl)) (okA_cons (ok_idx (o_var (by kernel_rfl)) ok_int) (okA_cons (o_str (by kernel_rfl)) okA_nil)) rfl)))) okB_nil)))))))))
theorem b9 (t : Tie tab G cx) (hd : 0 < d) : OkB G ⟨n9, defScope s9, cx, d, fun _ => true, true, true⟩ (defBody s9) f9.body :=
  (okB_cons (okS_ret (o_meth t (o_mk0 (e := tab.cls[3]) t rfl rfl rfl rfl (by kernel_rfl) hd) (okA_cons (o_var (by kernel_rfl)) okA_nil) rfl)) okB_nil)
theorem b10 (t : Tie tab G cx) (hd : 0 < d) : OkB G ⟨n10, defScope s10, cx, d, fun _ => true, true, true⟩ (defBody s10) f10.body :=
  (okB_cons (okS_if (okT_not (okT_val (o_call t 9 rfl rfl (by kernel_rfl) rfl (okA_cons (o_var (by kernel_rfl)) okA_nil)))) (okB_cons (s_raise (e := tab.cls[1]) t rfl rfl rfl (by kernel_rfl)) okB_nil) okB_nil) okB_nil)
theorem b11 (t : Tie tab G cx) (hd : 0 < d) : OkB G ⟨n11, defScope s11, cx, d, fun _ => true, true, true⟩ (defBody s11) f11.body :=
  (okB_cons (s_att t (o_var (by kernel_rfl)) ok_dic0 rfl) (okB_cons (s_att t (o_var (by kernel_rfl)) ok_int rfl) okB_nil))
theorem b12 (t : Tie tab G cx) (hd : 0 < d) : OkB G ⟨n12, defScope s12, cx, d, fun _ => true, true, true⟩ (defBody s12) f12.body :=
  (okB_cons (okS_ret (o_setdef (o_att t (o_var (by kernel_rfl)) rfl) (o_var (by kernel_rfl)) (ok_len (blt t (by kernel_rfl)) (o_att t (o_var (by kernel_rfl)) rfl)))) okB_nil)
theorem b13 (t : Tie tab G cx) (hd : 0 < d) : OkB G ⟨n13, defScope s13, cx, d, fun _ => true, true, true⟩ (defBody s13) f13.body :=
  (okB_cons (okS_ret (ok_ite (okT_cmp (op := .is) (o_var (by kernel_rfl)) ok_none) ok_none (o_meth t (o_var (by kernel_rfl)) (okA_cons (o_var (by kernel_rfl)) okA_nil) rfl))) okB_nil)
theorem b14 (t : Tie tab G cx) (hd : 0 < d) : OkB G ⟨n14, defScope s14, cx, d, fun _ => true, true, true⟩ (defBody s14) f14.body :=
  (okB_cons (s_augAtt t (.inl ⟨rfl, rfl⟩) (o_var (by kernel_rfl)) ok_int rfl) (okB_cons (okS_if (okT_cmp (op := .gt) (o_att t (o_var (by kernel_rfl)) rfl) (o_con t 4 rfl (by kernel_rfl))) (okB_cons (s_raise (e := tab.cls[2]) t rfl rfl rfl (by kernel_rfl)) okB_nil) okB_nil) (okB_cons (okS_asg (ok_idx (o_var (by kernel_rfl)) ok_int) (g_var (by kernel_rfl))) (okB_cons (okS_if (okT_cmp (op := .eq) (o_var (by kernel_rfl)) (o_str (by kernel_rfl))) (okB_cons (okS_ret (ok_tup (okA_cons (o_str (by kernel_rfl)) (okA_cons (o_meth t (o_var (by kernel_rfl)) (okA_cons (ok_idx (o_var (by kernel_rfl)) ok_int) okA_nil) rfl) okA_nil)))) okB_nil) okB_nil) (okB_cons (okS_if (okT_cmp (op := .eq) (o_var (by kernel_rfl)) (o_str (by kernel_rfl))) (okB_cons (okS_ret (ok_tup (okA_cons (o_str (by kernel_rfl)) (okA_cons (o_meth t (o_var (by kernel_rfl)) (okA_cons (ok_idx (o_var (by kernel_rfl)) ok_int) okA_nil) rfl) okA_nil)))) okB_nil) okB_nil) (okB_cons (okS_if (okT_cmp (op := .eq) (o_var (by kernel_rfl)) (o_str (by kernel_rfl))) (okB_cons (okS_asg (o_meth t (o_var (by kernel_rfl)) (okA_cons (ok_idx (o_var (by kernel_rfl)) ok_int) okA_nil) rfl) (g_var (by kernel_rfl))) (okB_cons (okS_asg (ok_tup (okA_cons (ok_idx (ok_idx (o_var (by kernel_rfl)) ok_int) ok_int) (okA_cons (o_meth t (o_var (by kernel_rfl)) (okA_cons (ok_idx (ok_idx (o_var (by kernel_rfl)) ok_int) ok_int) okA_nil) rfl) okA_nil))) (g_var (by kernel_rfl))) (okB_cons (okS_ret (ok_tup (okA_cons (o_str (by kernel_rfl)) (okA_cons (o_var (by kernel_rfl)) (okA_cons (o_var (by kernel_rfl)) (okA_cons (o_meth t (o_var (by kernel_rfl)) (okA_cons (ok_idx (o_var (by kernel_rfl)) ok_int) okA_nil) rfl) okA_nil)))))) okB_nil))) okB_nil) (okB_cons (okS_if (okT_cmp (op := .eq) (o_var (by kernel_rfl)) (o_str (by kernel_rfl))) (okB_cons (okS_asg (ok_tuple (blt t (by kernel_rfl)) (o_lc [("label", 6), ("part", 7)] (by kernel_rfl) rfl (okI_val (ok_idx (o_var (by kernel_rfl)) ok_int)) (okGo_tup (okGos_cons (go_var (by kernel_rfl)) (okGos_cons (go_var (by kernel_rfl)) okGos_nil))) okC_none (ok_tup (okA_cons (o_var (by kernel_rfl)) (okA_cons (o_meth t (o_var (by kernel_rfl)) (okA_cons (o_var (by kernel_rfl)) okA_nil) rfl) okA_nil))))) (g_var (by kernel_rfl))) (okB_cons (okS_ret (ok_tup (okA_cons (o_str (by kernel_rfl)) (okA_cons (o_var (by kernel_rfl)) (okA_cons (o_meth t (o_var (by kernel_rfl)) (okA_cons (ok_idx (o_var (by kernel_rfl)) ok_int) okA_nil) rfl) okA_nil))))) okB_nil)) okB_nil) (okB_cons (okS_ret (o_var (by kernel_rfl))) okB_nil))))))))
theorem b15 (t : Tie tab G cx) (hd : 0 < d) : OkB G ⟨n15, defScope s15, cx, d, fun _ => true, true, true⟩ (defBody s15) f15.body :=
  (okB_cons (okS_expr (o_call t 10 rfl rfl (by kernel_rfl) rfl (okA_cons (o_var (by kernel_rfl)) okA_nil))) (okB_cons (okS_ret (o_meth t (o_mk0 (e := tab.cls[4]) t rfl rfl rfl rfl (by kernel_rfl) hd) (okA_cons (o_var (by kernel_rfl)) okA_nil) rfl)) okB_nil))
theorem b16 (t : Tie tab G cx) (hd : 0 < d) : OkB G ⟨n16, defScope s16, cx, d, fun _ => true, true, true⟩ (defBody s16) f16.body :=
  (okB_cons (okS_if (okT_cmp (op := .lt) (o_var (by kernel_rfl)) (ok_len (blt t (by kernel_rfl)) (o_var (by kernel_rfl)))) (okB_cons (okS_ret (ok_idx (o_var (by kernel_rfl)) (o_var (by kernel_rfl)))) okB_nil) okB_nil) (okB_cons (okS_if (okT_cmp (op := .eq) (o_var (by kernel_rfl)) (ok_lst okA_nil)) (okB_cons (okS_ret (ok_mul (o_var (by kernel_rfl)) ok_int)) okB_nil) okB_nil) (okB_cons (okS_ret (ok_mod (ok_mul (ok_add (ok_idx (o_var (by kernel_rfl)) (ok_mod (o_var (by kernel_rfl)) (ok_len (blt t (by kernel_rfl)) (o_var (by kernel_rfl))))) (o_var (by kernel_rfl))) ok_int) ok_int)) okB_nil)))
theorem b17 (t : Tie tab G cx) (hd : 0 < d) : OkB G ⟨n17, defScope s17, cx, d, fun _ => true, true, true⟩ (defBody s17) f17.body :=
  (okB_cons (okS_asg (o_var (by kernel_rfl)) (g_var (by kernel_rfl))) (okB_cons (okS_if (okT_cmp (op := .lt) (o_var (by kernel_rfl)) (ok_pow ok_int ok_int)) (okB_cons (okS_asg (ok_fdiv (ok_pow (ok_add (ok_mul (ok_mod (o_var (by kernel_rfl)) ok_int) ok_int) ok_int) ok_int) ok_int) (g_var (by kernel_rfl))) okB_nil) okB_nil) (okB_cons (okS_asg (ok_lst okA_nil) (g_var (by kernel_rfl))) (okB_cons (okS_for (okI_val (o_var (by kernel_rfl))) (g_var (by kernel_rfl)) (okB_cons (okS_expr (o_append (o_var (by kernel_rfl)) (ok_mod (ok_int1 (blt t (by kernel_rfl)) (o_var (by kernel_rfl))) (o_var (by kernel_rfl))))) (okB_cons (okS_asg (ok_fdiv (o_var (by kernel_rfl)) (o_var (by kernel_rfl))) (g_var (by kernel_rfl))) okB_nil))) (okB_cons (okS_ret (o_var (by kernel_rfl))) okB_nil)))))
theorem b18 (t : Tie tab G cx) (hd : 0 < d) : OkB G ⟨n18, defScope s18, cx, d, fun _ => true, true, true⟩ (defBody s18) f18.body :=
  (okB_cons (okS_ret (ok_ite (okT_cmp (op := .ne) (o_var (by kernel_rfl)) (ok_lst okA_nil)) (ok_mod (ok_int1 (blt t (by kernel_rfl)) (o_pop1 (o_var (by kernel_rfl)) ok_int)) (o_var (by kernel_rfl))) ok_int)) okB_nil)
theorem b19 (t : Tie tab G cx) (hd : 0 < d) : OkB G ⟨n19, defScope s19, cx, d, fun _ => true, true, true⟩ (defBody s19) f19.body :=
  (okB_cons (okS_asg (ok_ite (okT_of (okT_and (okT_cmp (op := .gt) (o_var (by kernel_rfl)) ok_int) (okW_and1 (okT_cmp (op := .ne) (o_var (by kernel_rfl)) (ok_lst okA_nil))))) (o_call t 18 rfl rfl (by kernel_rfl) rfl (okA_cons (o_var (by kernel_rfl)) (okA_cons ok_int okA_nil))) (o_call t 18 rfl rfl (by kernel_rfl) rfl (okA_cons (o_var (by kernel_rfl)) (okA_cons ok_int okA_nil)))) (g_var (by kernel_rfl))) (okB_cons (okS_if (okT_cmp (op := .lt) (o_var (by kernel_rfl)) ok_int) (okB_cons (okS_if (okT_not (okT_val (o_var (by kernel_rfl)))) (okB_cons (okS_ret (ok_idx (ok_lst (okA_cons (ok_tup (okA_cons (o_str (by kernel_rfl)) okA_nil)) (okA_cons (ok_tup (okA_cons (o_str (by kernel_rfl)) okA_nil)) okA_nil))) (ok_mod (ok_int1 (blt t (by kernel_rfl)) (o_var (by kernel_rfl))) ok_int))) okB_nil) okB_nil) (okB_cons (okS_ret (ok_idx (ok_lst (okA_cons (ok_tup (okA_cons (o_str (by kernel_rfl)) okA_nil)) (okA_cons (ok_tup (okA_cons (o_str (by kernel_rfl)) okA_nil)) (okA_cons (ok_tup (okA_cons (o_str (by kernel_rfl)) (okA_cons (o_call t 18 rfl rfl (by kernel_rfl) rfl (okA_cons (o_var (by kernel_rfl)) (okA_cons ok_int okA_nil))) okA_nil))) (okA_cons (ok_tup (okA_cons (o_str (by kernel_rfl)) (okA_cons ok_int okA_nil))) okA_nil))))) (o_var (by kernel_rfl)))) okB_nil)) okB_nil) (okB_cons (okS_if (okT_cmp (op := .lt) (o_var (by kernel_rfl)) ok_int) (okB_cons (okS_ret (ok_tup (okA_cons (o_str (by kernel_rfl)) (okA_cons (o_call t 19 rfl rfl (by kernel_rfl) rfl (okA_cons (o_var (by kernel_rfl)) (okA_cons (ok_sub (o_var (by kernel_rfl)) ok_int) (okA_cons (o_var (by kernel_rfl)) okA_nil)))) okA_nil)))) okB_nil) okB_nil) (okB_cons (okS_if (okT_cmp (op := .lt) (o_var (by kernel_rfl)) ok_int) (okB_cons (okS_asg (ok_tup (okA_cons (o_call t 19 rfl rfl (by kernel_rfl) rfl (okA_cons (o_var (by kernel_rfl)) (okA_cons (ok_sub (o_var (by kernel_rfl)) ok_int) (okA_cons (o_var (by kernel_rfl)) okA_nil)))) (okA_cons (o_call t 18 rfl rfl (by kernel_rfl) rfl (okA_cons (o_var (by kernel_rfl)) (okA_cons ok_int okA_nil))) okA_nil))) (okG_tup (okGs_cons (g_var (by kernel_rfl)) (okGs_cons (g_var (by kernel_rfl)) okGs_nil))) (hw := by intro env h; cases env; cases h; kernel_rfl)) (okB_cons (okS_asg (ok_add (ok_add (ok_mul (ok_tup (okA_cons (o_str (by kernel_rfl)) okA_nil)) (ok_mod (ok_int1 (blt t (by kernel_rfl)) (o_var (by kernel_rfl))) ok_int)) (ok_mul (ok_tup (okA_cons (o_str (by kernel_rfl)) okA_nil)) (ok_mod (ok_int1 (blt t (by kernel_rfl)) (ok_fdiv (o_var (by kernel_rfl)) ok_int)) ok_int))) (ok_mul (ok_tup (okA_cons (o_str (by kernel_rfl)) okA_nil)) (ok_fdiv (o_var (by kernel_rfl)) ok_int))) (g_var (by kernel_rfl))) (okB_cons (okS_asg (ok_ite (okT_val (o_var (by kernel_rfl))) (ok_idx (ok_lst (okA_cons ok_none (okA_cons ok_int (okA_cons ok_int okA_nil)))) (o_call t 18 rfl rfl (by kernel_rfl) rfl (okA_cons (o_var (by kernel_rfl)) (okA_cons ok_int okA_nil)))) ok_none) (g_var (by kernel_rfl))) (okB_cons (okS_ret (ok_tup (okA_cons (o_str (by kernel_rfl)) (okA_cons (o_var (by kernel_rfl)) (okA_cons (ok_tup (okA_cons (o_var (by kernel_rfl)) (okA_cons (o_var (by kernel_rfl)) okA_nil))) (okA_cons (o_call t 19 rfl rfl (by kernel_rfl) rfl (okA_cons (o_var (by kernel_rfl)) (okA_cons (ok_sub (o_var (by kernel_rfl)) ok_int) (okA_cons (o_var (by kernel_rfl)) okA_nil)))) okA_nil)))))) okB_nil)))) okB_nil) (okB_cons (okS_asg (o_call t 18 rfl rfl (by kernel_rfl) rfl (okA_cons (o_var (by kernel_rfl)) (okA_cons ok_int okA_nil))) (g_var (by kernel_rfl))) (okB_cons (s_setLc (i := 8) [("_law_at", 9), ("_law_label", 10)] (by kernel_rfl) (by kernel_rfl) rfl (okI_enum (blt t (by kernel_rfl)) (okA_cons (ok_lst (okA_cons (o_str (by kernel_rfl)) (okA_cons (o_str (by kernel_rfl)) (okA_cons (o_str (by kernel_rfl)) okA_nil)))) okA_nil)) (okGo_tup (okGos_cons (go_var (by kernel_rfl)) (okGos_cons (go_var (by kernel_rfl)) okGos_nil))) (okC_some (okT_cmp (op := .eq) (ok_band (ok_shr (o_var (by kernel_rfl)) (o_var (by kernel_rfl))) ok_int) ok_int)) (ok_tup (okA_cons (o_var (by kernel_rfl)) (okA_cons (o_call t 19 rfl rfl (by kernel_rfl) rfl (okA_cons (o_var (by kernel_rfl)) (okA_cons (ok_sub (o_var (by kernel_rfl)) ok_int) (okA_cons (o_var (by kernel_rfl)) okA_nil)))) okA_nil))) (by intro env h; cases env; cases h; kernel_rfl)) (okB_cons (okS_ret (ok_tup (okA_cons (o_str (by kernel_rfl)) (okA_cons (ok_tuple (blt t (by kernel_rfl)) (o_var (by kernel_rfl))) (okA_cons (ok_ite (okT_val (o_var (by kernel_rfl))) (ok_idx (ok_lst (okA_cons ok_none (okA_cons ok_int (okA_cons ok_int okA_nil)))) (o_call t 18 rfl rfl (by kernel_rfl) rfl (okA_cons (o_var (by kernel_rfl)) (okA_cons ok_int okA_nil)))) ok_none) okA_nil))))) okB_nil)))))))
theorem b20 (t : Tie tab G cx) (hd : 0 < d) : OkB G ⟨n20, defScope s20, cx, d, fun _ => true, true, true⟩ (defBody s20) f20.body :=
  (okB_cons (okS_asg (ok_lst okA_nil) (g_var (by kernel_rfl))) (okB_cons (okS_for (okI_rng1 (blt t (by kernel_rfl)) (okA_cons ok_int okA_nil)) (g_var (by kernel_rfl)) (okB_cons (okS_asg (ok_add (o_var (by kernel_rfl)) (o_call t 17 rfl rfl (by kernel_rfl) rfl (okA_cons (o_call t 16 rfl rfl (by kernel_rfl) rfl (okA_cons (o_var (by kernel_rfl)) (okA_cons (ok_add (o_var (by kernel_rfl)) (o_var (by kernel_rfl))) okA_nil))) (okA_cons (ok_lst (okA_cons ok_int (okA_cons ok_int (okA_cons ok_int (okA_cons ok_int (okA_cons ok_int (okA_cons ok_int okA_nil))))))) okA_nil)))) (g_var (by kernel_rfl))) okB_nil)) (okB_cons (okS_ret (o_var (by kernel_rfl))) okB_nil)))
theorem b21 (t : Tie tab G cx) (hd : 0 < d) : OkB G ⟨n21, defScope s21, cx, d, fun _ => true, true, true⟩ (defBody s21) f21.body :=
  (okB_cons (okS_asg (o_str (by kernel_rfl)) (g_var (by kernel_rfl))) (okB_cons (okS_ret (ok_and (o_isi t "str" (o_var (by kernel_rfl)) (by kernel_rfl) (by kernel_rfl) rfl rfl (by kernel_rfl)) (ok_and (ok_chain (op := .le) (op' := .le) ok_int (ok_len (blt t (by kernel_rfl)) (o_var (by kernel_rfl))) ok_int) (ok_one (ok_all (blt t (by kernel_rfl)) (o_lc [("_law_sign", 2)] (by kernel_rfl) rfl (okI_val (o_var (by kernel_rfl))) (go_var (by kernel_rfl)) okC_none (ok_cmp (op := .isin) (o_var (by kernel_rfl)) (o_var (by kernel_rfl))))))))) okB_nil))
theorem b22 (t : Tie tab G cx) (hd : 0 < d) : OkB G ⟨n22, defScope s22, cx, d, fun _ => true, true, true⟩ (defBody s22) f22.body :=
  (okB_cons (okS_if (okT_of (okT_or (okT_val (o_isi t "bool" (o_var (by kernel_rfl)) (by kernel_rfl) (by kernel_rfl) rfl rfl (by kernel_rfl))) (okT_or (okT_not (okT_val (o_isi t "int" (o_var (by kernel_rfl)) (by kernel_rfl) (by kernel_rfl) rfl rfl (by kernel_rfl)))) (okW_or1 (okT_not (okT_chain (op := .le) (op' := .le) ok_int (o_var (by kernel_rfl)) ok_int)))))) (okB_cons (okS_ret ok_bool) okB_nil) okB_nil) (okB_cons (okS_ret (ok_cmp (op := .eq) (o_setdef (o_var (by kernel_rfl)) (o_var (by kernel_rfl)) (o_var (by kernel_rfl))) (o_var (by kernel_rfl)))) okB_nil))
theorem b23 (t : Tie tab G cx) (hd : 0 < d) : OkB G ⟨n23, defScope s23, cx, d, fun _ => true, true, true⟩ (defBody s23) f23.body :=
  (okB_cons (okS_asg (ok_add (o_get2 (o_var (by kernel_rfl)) (o_str (by kernel_rfl)) ok_int) ok_int) (okG_idx (o_var (by kernel_rfl)) (o_str (by kernel_rfl)))) (okB_cons (okS_if (okT_of (okT_or (okT_cmp (op := .gt) (ok_idx (o_var (by kernel_rfl)) (o_str (by kernel_rfl))) ok_int) (okT_or (okT_cmp (op := .gt) (o_var (by kernel_rfl)) ok_int) (okT_or (okT_not (okT_val (o_isi t "tuple" (o_var (by kernel_rfl)) (by kernel_rfl) (by kernel_rfl) rfl rfl (by kernel_rfl)))) (okT_or (okT_cmp (op := .eq) (o_var (by kernel_rfl)) (ok_tup okA_nil)) (okW_or1 (okT_not (okT_val (o_isi t "str" (ok_idx (o_var (by kernel_rfl)) ok_int) (by kernel_rfl) (by kernel_rfl) rfl rfl (by kernel_rfl)))))))))) (okB_cons (okS_ret ok_bool) okB_nil) okB_nil) (okB_cons (okS_if (okT_cmp (op := .isin) (ok_idx (o_var (by kernel_rfl)) ok_int) (ok_tup (okA_cons (o_str (by kernel_rfl)) (okA_cons (o_str (by kernel_rfl)) okA_nil)))) (okB_cons (okS_ret (ok_cmp (op := .eq) (ok_len (blt t (by kernel_rfl)) (o_var (by kernel_rfl))) ok_int)) okB_nil) okB_nil) (okB_cons (okS_if (okT_cmp (op := .eq) (ok_idx (o_var (by kernel_rfl)) ok_int) (o_str (by kernel_rfl))) (okB_cons (okS_ret (ok_and (ok_cmp (op := .eq) (ok_len (blt t (by kernel_rfl)) (o_var (by kernel_rfl))) ok_int) (ok_one (o_call t 22 rfl rfl (by kernel_rfl) rfl (okA_cons (o_var (by kernel_rfl)) (okA_cons (ok_idx (o_var (by kernel_rfl)) ok_int) (okA_cons (o_str (by kernel_rfl)) okA_nil))))))) okB_nil) okB_nil) (okB_cons (okS_if (okT_cmp (op := .eq) (ok_idx (o_var (by kernel_rfl)) ok_int) (o_str (by kernel_rfl))) (okB_cons (okS_ret (ok_and (ok_cmp (op := .eq) (ok_len (blt t (by kernel_rfl)) (o_var (by kernel_rfl))) ok_int) (ok_one (o_call t 23 rfl rfl (by kernel_rfl) rfl (okA_cons (o_var (by kernel_rfl)) (okA_cons (ok_idx (o_var (by kernel_rfl)) ok_int) (okA_cons (ok_add (o_var (by kernel_rfl)) ok_int) okA_nil))))))) okB_nil) okB_nil) (okB_cons (okS_if (okT_cmp (op := .eq) (ok_idx (o_var (by kernel_rfl)) ok_int) (o_str (by kernel_rfl))) (okB_cons (okS_if (okT_of (okT_or (okT_cmp (op := .ne) (ok_len (blt t (by kernel_rfl)) (o_var (by kernel_rfl))) ok_int) (okT_or (okT_not (okT_val (o_isi t "tuple" (ok_idx (o_var (by kernel_rfl)) ok_int) (by kernel_rfl) (by kernel_rfl) rfl rfl (by kernel_rfl)))) (okT_or (okT_cmp (op := .ne) (ok_len (blt t (by kernel_rfl)) (ok_idx (o_var (by kernel_rfl)) ok_int)) ok_int) (okW_or1 (okT_not (okT_val (o_isi t "tuple" (ok_idx (ok_idx (o_var (by kernel_rfl)) ok_int) ok_int) (by kernel_rfl) (by kernel_rfl) rfl rfl (by kernel_rfl))))))))) (okB_cons (okS_ret ok_bool) okB_nil) okB_nil) (okB_cons (okS_asg (ok_idx (o_var (by kernel_rfl)) ok_int) (okG_tup (okGs_cons (g_var (by kernel_rfl)) (okGs_cons (g_var (by kernel_rfl)) okGs_nil)))) (okB_cons (okS_if (okT_of (okT_or (okT_not (okT_val (ok_all (blt t (by kernel_rfl)) (o_lc [("_law_name", 5)] (by kernel_rfl) rfl (okI_val (o_var (by kernel_rfl))) (go_var (by kernel_rfl)) okC_none (o_call t 21 rfl rfl (by kernel_rfl) rfl (okA_cons (o_var (by kernel_rfl)) okA_nil)))))) (okW_or1 (okT_cmp (op := .ne) (ok_list (blt t (by kernel_rfl)) (o_var (by kernel_rfl))) (ok_sortedS (blt t (by kernel_rfl)) (o_var (by kernel_rfl))))))) (okB_cons (okS_ret ok_bool) okB_nil) okB_nil) (okB_cons (okS_if (okT_of (okT_and (okT_cmp (op := .isnot) (o_var (by kernel_rfl)) ok_none) (okW_and1 (okT_not (okT_val (o_call t 22 rfl rfl (by kernel_rfl) rfl (okA_cons (o_var (by kernel_rfl)) (okA_cons (o_var (by kernel_rfl)) (okA_cons (o_str (by kernel_rfl)) okA_nil))))))))) (okB_cons (okS_ret ok_bool) okB_nil) okB_nil) (okB_cons (okS_ret (ok_and (o_call t 23 rfl rfl (by kernel_rfl) rfl (okA_cons (o_var (by kernel_rfl)) (okA_cons (ok_idx (o_var (by kernel_rfl)) ok_int) (okA_cons (ok_add (o_var (by kernel_rfl)) ok_int) okA_nil)))) (ok_one (o_call t 23 rfl rfl (by kernel_rfl) rfl (okA_cons (o_var (by kernel_rfl)) (okA_cons (ok_idx (o_var (by kernel_rfl)) ok_int) (okA_cons (ok_add (o_var (by kernel_rfl)) ok_int) okA_nil))))))) okB_nil))))) okB_nil) (okB_cons (okS_if (okT_of (okT_or (okT_cmp (op := .ne) (ok_idx (o_var (by kernel_rfl)) ok_int) (o_str (by kernel_rfl))) (okT_or (okT_cmp (op := .ne) (ok_len (blt t (by kernel_rfl)) (o_var (by kernel_rfl))) ok_int) (okW_or1 (okT_not (okT_val (o_isi t "tuple" (ok_idx (o_var (by kernel_rfl)) ok_int) (by kernel_rfl) (by kernel_rfl) rfl rfl (by kernel_rfl)))))))) (okB_cons (okS_ret ok_bool) okB_nil) okB_nil) (okB_cons (okS_for (okI_val (ok_idx (o_var (by kernel_rfl)) ok_int)) (g_var (by kernel_rfl)) (okB_cons (okS_if (okT_of (okT_or (okT_not (okT_val (o_isi t "tuple" (o_var (by kernel_rfl)) (by kernel_rfl) (by kernel_rfl) rfl rfl (by kernel_rfl)))) (okT_or (okT_cmp (op := .ne) (ok_len (blt t (by kernel_rfl)) (o_var (by kernel_rfl))) ok_int) (okW_or1 (okT_not (okT_val (o_call t 21 rfl rfl (by kernel_rfl) rfl (okA_cons (ok_idx (o_var (by kernel_rfl)) ok_int) okA_nil)))))))) (okB_cons (okS_ret ok_bool) okB_nil) okB_nil) (okB_cons (okS_if (okT_not (okT_val (o_call t 23 rfl rfl (by kernel_rfl) rfl (okA_cons (o_var (by kernel_rfl)) (okA_cons (ok_idx (o_var (by kernel_rfl)) ok_int) (okA_cons (ok_add (o_var (by kernel_rfl)) ok_int) okA_nil)))))) (okB_cons (okS_ret ok_bool) okB_nil) okB_nil) okB_nil))) (okB_cons (s_setLc (i := 7) [("_law_pair", 6)] (by kernel_rfl) (by kernel_rfl) rfl (okI_val (ok_idx (o_var (by kernel_rfl)) ok_int)) (go_var (by kernel_rfl)) okC_none (ok_idx (o_var (by kernel_rfl)) ok_int) (by intro env h; cases env; cases h; kernel_rfl)) (okB_cons (okS_if (okT_cmp (op := .ne) (o_var (by kernel_rfl)) (o_sortedSet (blt t (by kernel_rfl)) (blt t (by kernel_rfl)) (o_var (by kernel_rfl)))) (okB_cons (okS_ret ok_bool) okB_nil) okB_nil) (okB_cons (okS_ret (ok_or (ok_cmp (op := .is) (ok_idx (o_var (by kernel_rfl)) ok_int) ok_none) (ok_one (o_call t 22 rfl rfl (by kernel_rfl) rfl (okA_cons (o_var (by kernel_rfl)) (okA_cons (ok_idx (o_var (by kernel_rfl)) ok_int) (okA_cons (o_str (by kernel_rfl)) okA_nil))))))) okB_nil)))))))))))
theorem b24 (t : Tie tab G cx) (hd : 0 < d) : OkB G ⟨n24, defScope s24, cx, d, fun _ => true, true, true⟩ (defBody s24) f24.body :=
  (okB_cons (okS_if (okT_cmp (op := .eq) (ok_idx (o_var (by kernel_rfl)) ok_int) (o_str (by kernel_rfl))) (okB_cons (okS_ret (ok_tup (okA_cons (o_str (by kernel_rfl)) (okA_cons (o_setdef (o_var (by kernel_rfl)) (ok_idx (o_var (by kernel_rfl)) ok_int) (ok_len (blt t (by kernel_rfl)) (o_var (by kernel_rfl)))) okA_nil)))) okB_nil) okB_nil) (okB_cons (okS_if (okT_cmp (op := .eq) (ok_idx (o_var (by kernel_rfl)) ok_int) (o_str (by kernel_rfl))) (okB_cons (okS_ret (ok_tup (okA_cons (o_str (by kernel_rfl)) (okA_cons (o_call t 24 rfl rfl (by kernel_rfl) rfl (okA_cons (ok_idx (o_var (by kernel_rfl)) ok_int) (okA_cons (o_var (by kernel_rfl)) okA_nil))) okA_nil)))) okB_nil) okB_nil) (okB_cons (okS_if (okT_cmp (op := .eq) (ok_idx (o_var (by kernel_rfl)) ok_int) (o_str (by kernel_rfl))) (okB_cons (okS_asg (ok_tup (okA_cons (o_call t 24 rfl rfl (by kernel_rfl) rfl (okA_cons (ok_idx (o_var (by kernel_rfl)) ok_int) (okA_cons (o_var (by kernel_rfl)) okA_nil))) (okA_cons (ok_idx (o_var (by kernel_rfl)) ok_int) okA_nil))) (okG_tup (okGs_cons (g_var (by kernel_rfl)) (okGs_cons (okG_tup (okGs_cons (g_var (by kernel_rfl)) (okGs_cons (g_var (by kernel_rfl)) okGs_nil))) okGs_nil))) (hw := by intro env h; cases env; cases h; kernel_rfl)) (okB_cons (okS_asg (ok_ite (okT_cmp (op := .is) (o_var (by kernel_rfl)) ok_none) ok_none (o_setdef (o_var (by kernel_rfl)) (o_var (by kernel_rfl)) (ok_len (blt t (by kernel_rfl)) (o_var (by kernel_rfl))))) (g_var (by kernel_rfl))) (okB_cons (okS_ret (ok_tup (okA_cons (o_str (by kernel_rfl)) (okA_cons (o_var (by kernel_rfl)) (okA_cons (ok_tup (okA_cons (o_var (by kernel_rfl)) (okA_cons (o_var (by kernel_rfl)) okA_nil))) (okA_cons (o_call t 24 rfl rfl (by kernel_rfl) rfl (okA_cons (ok_idx (o_var (by kernel_rfl)) ok_int) (okA_cons (o_var (by kernel_rfl)) okA_nil))) okA_nil)))))) okB_nil))) okB_nil) (okB_cons (okS_if (okT_cmp (op := .ne) (ok_idx (o_var (by kernel_rfl)) ok_int) (o_str (by kernel_rfl))) (okB_cons (okS_ret (o_var (by kernel_rfl))) okB_nil) okB_nil) (okB_cons (okS_asg (ok_tuple (blt t (by kernel_rfl)) (o_lc [("_law_label", 6), ("_law_part", 7)] (by kernel_rfl) rfl (okI_val (ok_idx (o_var (by kernel_rfl)) ok_int)) (okGo_tup (okGos_cons (go_var (by kernel_rfl)) (okGos_cons (go_var (by kernel_rfl)) okGos_nil))) okC_none (ok_tup (okA_cons (o_var (by kernel_rfl)) (okA_cons (o_call t 24 rfl rfl (by kernel_rfl) rfl (okA_cons (o_var (by kernel_rfl)) (okA_cons (o_var (by kernel_rfl)) okA_nil))) okA_nil))))) (g_var (by kernel_rfl))) (okB_cons (okS_ret (ok_tup (okA_cons (o_str (by kernel_rfl)) (okA_cons (o_var (by kernel_rfl)) (okA_cons (ok_ite (okT_cmp (op := .is) (ok_idx (o_var (by kernel_rfl)) ok_int) ok_none) ok_none (o_setdef (o_var (by kernel_rfl)) (ok_idx (o_var (by kernel_rfl)) ok_int) (ok_len (blt t (by kernel_rfl)) (o_var (by kernel_rfl))))) okA_nil))))) okB_nil))))))
theorem b25 (t : Tie tab G cx) (hd : 0 < d) : OkB G ⟨n25, defScope s25, cx, d, fun _ => true, true, true⟩ (defBody s25) f25.body :=
  (okB_cons (okS_asg (ok_lst (okA_cons ok_none (okA_cons ok_int (okA_cons (o_str (by kernel_rfl)) (okA_cons (ok_lst (okA_cons (o_str (by kernel_rfl)) okA_nil)) (okA_cons (ok_tup okA_nil) (okA_cons (ok_tup (okA_cons (o_str (by kernel_rfl)) (okA_cons ok_int okA_nil))) (okA_cons (ok_tup (okA_cons (o_str (by kernel_rfl)) (okA_cons (ok_neg ok_int) okA_nil))) (okA_cons (ok_tup (okA_cons (o_str (by kernel_rfl)) (okA_cons ok_bool okA_nil))) (okA_cons (ok_tup (okA_cons (o_str (by kernel_rfl)) (okA_cons ok_int okA_nil))) (okA_cons (ok_tup (okA_cons (o_str (by kernel_rfl)) (okA_cons (o_str (by kernel_rfl)) okA_nil))) (okA_cons (ok_tup (okA_cons (o_str (by kernel_rfl)) okA_nil)) okA_nil)))))))))))) (g_var (by kernel_rfl))) (okB_cons (okS_asg (ok_add (o_var (by kernel_rfl)) (ok_lst (okA_cons (ok_tup (okA_cons (o_str (by kernel_rfl)) (okA_cons (o_var (by kernel_rfl)) (okA_cons (ok_tup (okA_cons (ok_tup okA_nil) (okA_cons ok_none okA_nil))) okA_nil)))) (okA_cons (ok_tup (okA_cons (o_str (by kernel_rfl)) (okA_cons (o_var (by kernel_rfl)) (okA_cons (ok_tup (okA_cons (ok_tup (okA_cons (o_str (by kernel_rfl)) (okA_cons (o_str (by kernel_rfl)) okA_nil))) (okA_cons ok_none okA_nil))) (okA_cons (o_var (by kernel_rfl)) okA_nil))))) (okA_cons (ok_tup (okA_cons (o_str (by kernel_rfl)) (okA_cons (o_var (by kernel_rfl)) (okA_cons (ok_tup (okA_cons (o_str (by kernel_rfl)) (okA_cons ok_none okA_nil))) (okA_cons (o_var (by kernel_rfl)) okA_nil))))) okA_nil))))) (g_var (by kernel_rfl))) (okB_cons (okS_asg (ok_add (o_var (by kernel_rfl)) (ok_lst (okA_cons (ok_tup (okA_cons (o_str (by kernel_rfl)) (okA_cons (o_var (by kernel_rfl)) (okA_cons (ok_tup (okA_cons (ok_tup (okA_cons (o_str (by kernel_rfl)) okA_nil)) (okA_cons ok_none okA_nil))) (okA_cons (o_var (by kernel_rfl)) okA_nil))))) (okA_cons (ok_tup (okA_cons (o_str (by kernel_rfl)) (okA_cons (o_var (by kernel_rfl)) (okA_cons (ok_tup (okA_cons (ok_tup okA_nil) (okA_cons ok_int okA_nil))) (okA_cons (ok_tup (okA_cons (o_str (by kernel_rfl)) (okA_cons (ok_tup okA_nil) (okA_cons ok_int okA_nil)))) okA_nil))))) (okA_cons (ok_tup (okA_cons (o_str (by kernel_rfl)) (okA_cons (ok_tup okA_nil) (okA_cons (o_str (by kernel_rfl)) okA_nil)))) (okA_cons (ok_tup (okA_cons (o_str (by kernel_rfl)) (okA_cons (ok_tup okA_nil) okA_nil))) okA_nil)))))) (g_var (by kernel_rfl))) (okB_cons (okS_asg (ok_add (o_var (by kernel_rfl)) (ok_lst (okA_cons (ok_tup (okA_cons (o_str (by kernel_rfl)) (okA_cons (ok_tup (okA_cons (ok_tup (okA_cons (o_str (by kernel_rfl)) (okA_cons (o_var (by kernel_rfl)) okA_nil))) (okA_cons (ok_tup (okA_cons (o_str (by kernel_rfl)) (okA_cons (o_var (by kernel_rfl)) okA_nil))) okA_nil))) (okA_cons ok_none okA_nil)))) (okA_cons (ok_tup (okA_cons (o_str (by kernel_rfl)) (okA_cons (ok_tup (okA_cons (ok_tup (okA_cons (o_str (by kernel_rfl)) (okA_cons (o_var (by kernel_rfl)) okA_nil))) (okA_cons (ok_tup (okA_cons (o_str (by kernel_rfl)) (okA_cons (o_var (by kernel_rfl)) okA_nil))) okA_nil))) (okA_cons ok_none okA_nil)))) (okA_cons (ok_tup (okA_cons (o_str (by kernel_rfl)) okA_nil)) okA_nil))))) (g_var (by kernel_rfl))) (okB_cons (okS_asg (ok_add (o_var (by kernel_rfl)) (ok_lst (okA_cons (ok_tup (okA_cons (o_str (by kernel_rfl)) (okA_cons (ok_lst okA_nil) (okA_cons ok_none okA_nil)))) okA_nil))) (g_var (by kernel_rfl))) (okB_cons (okS_asg (ok_add (o_var (by kernel_rfl)) (ok_lst (okA_cons (ok_tup (okA_cons (o_str (by kernel_rfl)) (okA_cons (ok_tup (okA_cons (ok_tup (okA_cons (o_str (by kernel_rfl)) (okA_cons (ok_tup (okA_cons (o_str (by kernel_rfl)) (okA_cons ok_int okA_nil))) okA_nil))) okA_nil)) (okA_cons ok_int okA_nil)))) (okA_cons (ok_tup (okA_cons (o_str (by kernel_rfl)) (okA_cons (ok_tup (okA_cons (o_str (by kernel_rfl)) (okA_cons ok_int okA_nil))) (okA_cons (ok_tup (okA_cons (ok_tup okA_nil) (okA_cons ok_int okA_nil))) (okA_cons (o_var (by kernel_rfl)) okA_nil))))) okA_nil)))) (g_var (by kernel_rfl))) (okB_cons (okS_asg (ok_add (o_var (by kernel_rfl)) (ok_lst (okA_cons (ok_tup (okA_cons (o_str (by kernel_rfl)) (okA_cons (ok_tup (okA_cons (ok_tup (okA_cons (o_str (by kernel_rfl)) (okA_cons (o_var (by kernel_rfl)) okA_nil))) okA_nil)) (okA_cons ok_none okA_nil)))) okA_nil))) (g_var (by kernel_rfl))) (okB_cons (okS_asg (ok_add (o_var (by kernel_rfl)) (ok_lst (okA_cons (ok_tup (okA_cons (o_str (by kernel_rfl)) (okA_cons (ok_tup (okA_cons (o_str (by kernel_rfl)) (okA_cons (o_var (by kernel_rfl)) (okA_cons (ok_tup (okA_cons (ok_tup okA_nil) (okA_cons ok_none okA_nil))) (okA_cons (o_var (by kernel_rfl)) okA_nil))))) okA_nil))) (okA_cons (ok_tup (okA_cons (o_str (by kernel_rfl)) (okA_cons (ok_tup (okA_cons (ok_tup (okA_cons (o_str (by kernel_rfl)) (okA_cons (o_var (by kernel_rfl)) okA_nil))) (okA_cons (ok_tup (okA_cons (o_str (by kernel_rfl)) (okA_cons (o_var (by kernel_rfl)) okA_nil))) okA_nil))) (okA_cons ok_int okA_nil)))) okA_nil)))) (g_var (by kernel_rfl))) (okB_cons (okS_asg (ok_add (o_var (by kernel_rfl)) (ok_lst (okA_cons (ok_tup (okA_cons (o_str (by kernel_rfl)) (okA_cons (o_var (by kernel_rfl)) (okA_cons (ok_tup (okA_cons (ok_tup (okA_cons (o_str (by kernel_rfl)) (okA_cons (o_str (by kernel_rfl)) okA_nil))) (okA_cons ok_int okA_nil))) (okA_cons (o_var (by kernel_rfl)) okA_nil))))) okA_nil))) (g_var (by kernel_rfl))) (okB_cons (okS_ret (ok_idx (o_var (by kernel_rfl)) (ok_mod (o_var (by kernel_rfl)) (ok_len (blt t (by kernel_rfl)) (o_var (by kernel_rfl)))))) okB_nil))))))))))
theorem b26 (t : Tie tab G cx) (hd : 0 < d) : OkB G ⟨n26, defScope s26, cx, d, fun _ => true, true, true⟩ (defBody s26) f26.body :=
  (okB_cons (okS_asg (ok_idx (ok_lst (okA_cons ok_int (okA_cons ok_int (okA_cons ok_int (okA_cons ok_int (okA_cons ok_int okA_nil)))))) (ok_mod (o_var (by kernel_rfl)) ok_int)) (g_var (by kernel_rfl))) (okB_cons (okS_if (okT_cmp (op := .gt) (o_var (by kernel_rfl)) ok_int) (okB_cons (okS_asg (ok_tup (okA_cons (o_str (by kernel_rfl)) (okA_cons (ok_tuple (blt t (by kernel_rfl)) (o_lc [("_law_at", 3)] (by kernel_rfl) rfl (okI_rng1 (blt t (by kernel_rfl)) (okA_cons ok_int okA_nil)) (go_var (by kernel_rfl)) okC_none (ok_tup (okA_cons (ok_idx (o_str (by kernel_rfl)) (o_var (by kernel_rfl))) (okA_cons (ok_tup (okA_cons (o_str (by kernel_rfl)) okA_nil)) okA_nil))))) (okA_cons ok_none okA_nil)))) (g_var (by kernel_rfl))) (okB_cons (okS_asg (ok_tup (okA_cons (o_str (by kernel_rfl)) (okA_cons (ok_tuple (blt t (by kernel_rfl)) (o_lc [("_law_at", 3)] (by kernel_rfl) rfl (okI_rng1 (blt t (by kernel_rfl)) (okA_cons ok_int okA_nil)) (go_var (by kernel_rfl)) okC_none (ok_tup (okA_cons (ok_idx (o_str (by kernel_rfl)) (o_var (by kernel_rfl))) (okA_cons (o_var (by kernel_rfl)) okA_nil))))) (okA_cons ok_none okA_nil)))) (g_var (by kernel_rfl))) (okB_cons (okS_ret (ok_tup (okA_cons (o_str (by kernel_rfl)) (okA_cons (ok_tup (okA_cons (o_str (by kernel_rfl)) (okA_cons (ok_tup (okA_cons (o_str (by kernel_rfl)) (okA_cons (o_var (by kernel_rfl)) okA_nil))) okA_nil))) (okA_cons (ok_tup (okA_cons (ok_tup okA_nil) (okA_cons ok_none okA_nil))) (okA_cons (o_call t 27 rfl rfl (by kernel_rfl) rfl (okA_cons (ok_sub (o_var (by kernel_rfl)) ok_int) okA_nil)) okA_nil)))))) okB_nil))) okB_nil) (okB_cons (okS_asg (ok_tup (okA_cons (o_str (by kernel_rfl)) okA_nil)) (g_var (by kernel_rfl))) (okB_cons (okS_for (okI_rng1 (blt t (by kernel_rfl)) (okA_cons (ok_sub (o_var (by kernel_rfl)) ok_int) okA_nil)) (g_var (by kernel_rfl)) (okB_cons (okS_asg (ok_tup (okA_cons (o_str (by kernel_rfl)) (okA_cons (o_var (by kernel_rfl)) okA_nil))) (g_var (by kernel_rfl))) okB_nil)) (okB_cons (okS_ret (o_var (by kernel_rfl))) okB_nil)))))
theorem b27 (t : Tie tab G cx) (hd : 0 < d) : OkB G ⟨n27, defScope s27, cx, d, fun _ => true, true, true⟩ (defBody s27) f27.body :=
  (okB_cons (okS_ret (ok_tup (okA_cons (o_str (by kernel_rfl)) (okA_cons (ok_tuple (blt t (by kernel_rfl)) (o_lc [("_law_at", 1)] (by kernel_rfl) rfl (okI_rng1 (blt t (by kernel_rfl)) (okA_cons (o_var (by kernel_rfl)) okA_nil)) (go_var (by kernel_rfl)) okC_none (ok_tup (okA_cons (ok_idx (o_str (by kernel_rfl)) (o_var (by kernel_rfl))) (okA_cons (ok_tup (okA_cons (o_str (by kernel_rfl)) okA_nil)) okA_nil))))) (okA_cons ok_none okA_nil))))) okB_nil)
theorem b28 (t : Tie tab G cx) (hd : 0 < d) : OkB G ⟨n28, defScope s28, cx, d, fun _ => true, true, true⟩ (defBody s28) f28.body :=
  (okB_cons (okS_asg (o_call t 23 rfl rfl (by kernel_rfl) rfl (okA_cons ok_dic0 (okA_cons (o_var (by kernel_rfl)) (okA_cons ok_int okA_nil)))) (g_var (by kernel_rfl))) (okB_cons (s_try (e := tab.cls[1]) t rfl rfl (by kernel_rfl) rfl (okB_cons (okS_ret (ok_and (ok_cmp (op := .eq) (o_call t 9 rfl rfl (by kernel_rfl) rfl (okA_cons (o_var (by kernel_rfl)) okA_nil)) (o_var (by kernel_rfl))) (ok_and (ok_cmp (op := .eq) (o_call t 15 rfl rfl (by kernel_rfl) rfl (okA_cons (o_var (by kernel_rfl)) okA_nil)) (o_call t 24 rfl rfl (by kernel_rfl) rfl (okA_cons (o_var (by kernel_rfl)) (okA_cons ok_dic0 okA_nil)))) (ok_one (o_var (by kernel_rfl)))))) okB_nil) (okH_ret (oks_not (os_var (by kernel_rfl))))) okB_nil))
theorem b29 (t : Tie tab G cx) (hd : 0 < d) : OkB G ⟨n29, defScope s29, cx, d, fun _ => true, true, true⟩ (defBody s29) f29.body :=
  (okB_cons (okS_for (okI_rng1 (blt t (by kernel_rfl)) (okA_cons ok_int okA_nil)) (g_var (by kernel_rfl)) (okB_cons (okS_asg (o_call t 20 rfl rfl (by kernel_rfl) rfl (okA_cons (o_var (by kernel_rfl)) (okA_cons (ok_mul ok_int (o_var (by kernel_rfl))) okA_nil))) (g_var (by kernel_rfl))) (okB_cons (okS_asg (o_call t 19 rfl rfl (by kernel_rfl) rfl (okA_cons (o_var (by kernel_rfl)) (okA_cons ok_int (okA_cons ok_bool okA_nil)))) (g_var (by kernel_rfl))) (okB_cons (okS_asg (o_call t 16 rfl rfl (by kernel_rfl) rfl (okA_cons (o_var (by kernel_rfl)) (okA_cons (ok_add (ok_mul ok_int (o_var (by kernel_rfl))) ok_int) okA_nil))) (g_var (by kernel_rfl))) (okB_cons (okS_asg (ok_tup (okA_cons (o_str (by kernel_rfl)) (okA_cons (ok_tup (okA_cons (o_str (by kernel_rfl)) (okA_cons (o_var (by kernel_rfl)) (okA_cons (ok_tup (okA_cons (ok_tup (okA_cons (o_str (by kernel_rfl)) (okA_cons (o_str (by kernel_rfl)) okA_nil))) (okA_cons (ok_idx (ok_lst (okA_cons ok_none (okA_cons ok_int (okA_cons ok_int (okA_cons ok_int okA_nil))))) (ok_mod (o_var (by kernel_rfl)) ok_int)) okA_nil))) (okA_cons (ok_tup (okA_cons (o_str (by kernel_rfl)) (okA_cons (ok_idx (ok_lst (okA_cons ok_int (okA_cons ok_int (okA_cons ok_int (okA_cons ok_int okA_nil))))) (ok_mod (ok_fdiv (o_var (by kernel_rfl)) ok_int) ok_int)) okA_nil))) okA_nil))))) okA_nil))) (g_var (by kernel_rfl))) (okB_cons (okS_if (okT_of (okT_or (okT_not (okT_val (o_call t 28 rfl rfl (by kernel_rfl) rfl (okA_cons (o_var (by kernel_rfl)) okA_nil)))) (okT_or (okT_not (okT_val (o_call t 28 rfl rfl (by kernel_rfl) rfl (okA_cons (o_var (by kernel_rfl)) okA_nil)))) (okW_or1 (okT_not (okT_val (o_call t 28 rfl rfl (by kernel_rfl) rfl (okA_cons (o_call t 25 rfl rfl (by kernel_rfl) rfl (okA_cons (ok_fdiv (o_var (by kernel_rfl)) ok_int) (okA_cons (o_var (by kernel_rfl)) okA_nil))) okA_nil)))))))) (okB_cons (okS_ret ok_bool) okB_nil) okB_nil) (okB_cons (okS_if (okT_not (okT_val (o_call t 28 rfl rfl (by kernel_rfl) rfl (okA_cons (ok_tup (okA_cons (o_str (by kernel_rfl)) (okA_cons (ok_tup (okA_cons (ok_tup (okA_cons (o_str (by kernel_rfl)) (okA_cons (o_call t 25 rfl rfl (by kernel_rfl) rfl (okA_cons (ok_fdiv (o_var (by kernel_rfl)) ok_int) (okA_cons (o_var (by kernel_rfl)) okA_nil))) okA_nil))) okA_nil)) (okA_cons ok_none okA_nil)))) okA_nil)))) (okB_cons (okS_ret ok_bool) okB_nil) okB_nil) okB_nil))))))) (okB_cons (okS_ret (o_call t 28 rfl rfl (by kernel_rfl) rfl (okA_cons (o_call t 26 rfl rfl (by kernel_rfl) rfl (okA_cons (o_call t 16 rfl rfl (by kernel_rfl) rfl (okA_cons (o_var (by kernel_rfl)) (okA_cons ok_int okA_nil))) okA_nil)) okA_nil))) okB_nil))
theorem b30 (t : Tie tab G cx) (hd : 0 < d) : OkB G ⟨n30, defScope s30, cx, d, fun _ => true, true, true⟩ (defBody s30) f30.body :=
  (okB_cons (s_try (e := tab.cls[0]) t rfl rfl (by kernel_rfl) rfl (okB_cons (okS_ret (o_call t 29 rfl rfl (by kernel_rfl) rfl (okA_cons (o_var (by kernel_rfl)) okA_nil))) okB_nil) (okH_ret oks_bool)) okB_nil)
end
theorem e0 : Entry d0 := ⟨by kernel_rfl, fun kV doc pm an cdv ct us hl => match us, hl with | [_], _ => rfl, by kernel_rfl, rfl⟩
theorem e1 : Entry d1 := ⟨by kernel_rfl, fun kV doc pm an cdv ct us hl => match us, hl with | [_], _ => rfl, by kernel_rfl, rfl⟩
theorem e2 : Entry d2 := ⟨by kernel_rfl, fun kV doc pm an cdv ct us hl => match us, hl with | [_], _ => rfl, by kernel_rfl, rfl⟩
theorem e3 : Entry d3 := ⟨by kernel_rfl, fun kV doc pm an cdv ct us hl => match us, hl with | [_, _, _], _ => rfl, by kernel_rfl, rfl⟩
theorem e4 : Entry d4 := ⟨by kernel_rfl, fun kV doc pm an cdv ct us hl => match us, hl with | [_, _, _], _ => rfl, by kernel_rfl, rfl⟩
theorem e5 : Entry d5 := ⟨by kernel_rfl, fun kV doc pm an cdv ct us hl => match us, hl with | [_, _], _ => rfl, by kernel_rfl, rfl⟩
theorem e6 : Entry d6 := ⟨by kernel_rfl, fun kV doc pm an cdv ct us hl => match us, hl with | [_, _], _ => rfl, by kernel_rfl, rfl⟩
theorem e7 : Entry d7 := ⟨by kernel_rfl, fun kV doc pm an cdv ct us hl => match us, hl with | [_, _], _ => rfl, by kernel_rfl, rfl⟩
theorem e8 : Entry d8 := ⟨by kernel_rfl, fun kV doc pm an cdv ct us hl => match us, hl with | [_, _], _ => rfl, by kernel_rfl, rfl⟩
theorem e9 : Entry d9 := ⟨by kernel_rfl, fun kV doc pm an cdv ct us hl => match us, hl with | [_], _ => rfl, by kernel_rfl, rfl⟩
theorem e10 : Entry d10 := ⟨by kernel_rfl, fun kV doc pm an cdv ct us hl => match us, hl with | [_], _ => rfl, by kernel_rfl, rfl⟩
theorem e11 : Entry d11 := ⟨by kernel_rfl, fun kV doc pm an cdv ct us hl => match us, hl with | [_], _ => rfl, by kernel_rfl, rfl⟩
theorem e12 : Entry d12 := ⟨by kernel_rfl, fun kV doc pm an cdv ct us hl => match us, hl with | [_, _], _ => rfl, by kernel_rfl, rfl⟩
theorem e13 : Entry d13 := ⟨by kernel_rfl, fun kV doc pm an cdv ct us hl => match us, hl with | [_, _], _ => rfl, by kernel_rfl, rfl⟩
theorem e14 : Entry d14 := ⟨by kernel_rfl, fun kV doc pm an cdv ct us hl => match us, hl with | [_, _], _ => rfl, by kernel_rfl, rfl⟩
theorem e15 : Entry d15 := ⟨by kernel_rfl, fun kV doc pm an cdv ct us hl => match us, hl with | [_], _ => rfl, by kernel_rfl, rfl⟩
theorem e16 : Entry d16 := ⟨by kernel_rfl, fun kV doc pm an cdv ct us hl => match us, hl with | [_, _], _ => rfl, by kernel_rfl, rfl⟩
theorem e17 : Entry d17 := ⟨by kernel_rfl, fun kV doc pm an cdv ct us hl => match us, hl with | [_, _], _ => rfl, by kernel_rfl, rfl⟩
theorem e18 : Entry d18 := ⟨by kernel_rfl, fun kV doc pm an cdv ct us hl => match us, hl with | [_, _], _ => rfl, by kernel_rfl, rfl⟩
theorem e19 : Entry d19 := ⟨by kernel_rfl, fun kV doc pm an cdv ct us hl => match us, hl with | [_, _, _], _ => rfl, by kernel_rfl, rfl⟩
theorem e20 : Entry d20 := ⟨by kernel_rfl, fun kV doc pm an cdv ct us hl => match us, hl with | [_, _], _ => rfl, by kernel_rfl, rfl⟩
theorem e21 : Entry d21 := ⟨by kernel_rfl, fun kV doc pm an cdv ct us hl => match us, hl with | [_], _ => rfl, by kernel_rfl, rfl⟩
theorem e22 : Entry d22 := ⟨by kernel_rfl, fun kV doc pm an cdv ct us hl => match us, hl with | [_, _, _], _ => rfl, by kernel_rfl, rfl⟩
theorem e23 : Entry d23 := ⟨by kernel_rfl, fun kV doc pm an cdv ct us hl => match us, hl with | [_, _, _], _ => rfl, by kernel_rfl, rfl⟩
theorem e24 : Entry d24 := ⟨by kernel_rfl, fun kV doc pm an cdv ct us hl => match us, hl with | [_, _], _ => rfl, by kernel_rfl, rfl⟩
theorem e25 : Entry d25 := ⟨by kernel_rfl, fun kV doc pm an cdv ct us hl => match us, hl with | [_, _], _ => rfl, by kernel_rfl, rfl⟩
theorem e26 : Entry d26 := ⟨by kernel_rfl, fun kV doc pm an cdv ct us hl => match us, hl with | [_], _ => rfl, by kernel_rfl, rfl⟩
theorem e27 : Entry d27 := ⟨by kernel_rfl, fun kV doc pm an cdv ct us hl => match us, hl with | [_], _ => rfl, by kernel_rfl, rfl⟩
theorem e28 : Entry d28 := ⟨by kernel_rfl, fun kV doc pm an cdv ct us hl => match us, hl with | [_], _ => rfl, by kernel_rfl, rfl⟩
theorem e29 : Entry d29 := ⟨by kernel_rfl, fun kV doc pm an cdv ct us hl => match us, hl with | [_], _ => rfl, by kernel_rfl, rfl⟩
theorem e30 : Entry d30 := ⟨by kernel_rfl, fun kV doc pm an cdv ct us hl => match us, hl with | [_], _ => rfl, by kernel_rfl, rfl⟩
theorem en : ∀ (g : Nat) (e : DT), tab.fns[g]? = some e → Entry e
  | 0, e, h => (show d0 = e from Option.some.inj h) ▸ e0
  | 1, e, h => (show d1 = e from Option.some.inj h) ▸ e1
  | 2, e, h => (show d2 = e from Option.some.inj h) ▸ e2
  | 3, e, h => (show d3 = e from Option.some.inj h) ▸ e3
  | 4, e, h => (show d4 = e from Option.some.inj h) ▸ e4
  | 5, e, h => (show d5 = e from Option.some.inj h) ▸ e5
  | 6, e, h => (show d6 = e from Option.some.inj h) ▸ e6
  | 7, e, h => (show d7 = e from Option.some.inj h) ▸ e7
  | 8, e, h => (show d8 = e from Option.some.inj h) ▸ e8
  | 9, e, h => (show d9 = e from Option.some.inj h) ▸ e9
  | 10, e, h => (show d10 = e from Option.some.inj h) ▸ e10
  | 11, e, h => (show d11 = e from Option.some.inj h) ▸ e11
  | 12, e, h => (show d12 = e from Option.some.inj h) ▸ e12
  | 13, e, h => (show d13 = e from Option.some.inj h) ▸ e13
  | 14, e, h => (show d14 = e from Option.some.inj h) ▸ e14
  | 15, e, h => (show d15 = e from Option.some.inj h) ▸ e15
  | 16, e, h => (show d16 = e from Option.some.inj h) ▸ e16
  | 17, e, h => (show d17 = e from Option.some.inj h) ▸ e17
  | 18, e, h => (show d18 = e from Option.some.inj h) ▸ e18
  | 19, e, h => (show d19 = e from Option.some.inj h) ▸ e19
  | 20, e, h => (show d20 = e from Option.some.inj h) ▸ e20
  | 21, e, h => (show d21 = e from Option.some.inj h) ▸ e21
  | 22, e, h => (show d22 = e from Option.some.inj h) ▸ e22
  | 23, e, h => (show d23 = e from Option.some.inj h) ▸ e23
  | 24, e, h => (show d24 = e from Option.some.inj h) ▸ e24
  | 25, e, h => (show d25 = e from Option.some.inj h) ▸ e25
  | 26, e, h => (show d26 = e from Option.some.inj h) ▸ e26
  | 27, e, h => (show d27 = e from Option.some.inj h) ▸ e27
  | 28, e, h => (show d28 = e from Option.some.inj h) ▸ e28
  | 29, e, h => (show d29 = e from Option.some.inj h) ▸ e29
  | 30, e, h => (show d30 = e from Option.some.inj h) ▸ e30
  | n + 31, e, h => (nomatch (show (none : Option DT) = some e from h))
theorem bodies : ∀ (g : Nat) (e : DT) (cx : MP.Cx) (d : Nat) (G : Gp), tab.fns[g]? = some e → Tie tab G cx → 0 < d → OkB G ⟨e.N, defScope e.st, cx, d, fun _ => true, true, true⟩ (defBody e.st) e.fn.body
  | 0, e, cx, d, G, h, t, hd => by
    have q : d0 = e := Option.some.inj h
    subst q
    exact b0 t hd
  | 1, e, cx, d, G, h, t, hd => by
    have q : d1 = e := Option.some.inj h
    subst q
    exact b1 t hd
  | 2, e, cx, d, G, h, t, hd => by
    have q : d2 = e := Option.some.inj h
    subst q
    exact b2 t hd
  | 3, e, cx, d, G, h, t, hd => by
    have q : d3 = e := Option.some.inj h
    subst q
    exact b3 t hd
  | 4, e, cx, d, G, h, t, hd => by
    have q : d4 = e := Option.some.inj h
    subst q
    exact b4 t hd
  | 5, e, cx, d, G, h, t, hd => by
    have q : d5 = e := Option.some.inj h
    subst q
    exact b5 t hd
  | 6, e, cx, d, G, h, t, hd => by
    have q : d6 = e := Option.some.inj h
    subst q
    exact b6 t hd
  | 7, e, cx, d, G, h, t, hd => by
    have q : d7 = e := Option.some.inj h
    subst q
    exact b7 t hd
  | 8, e, cx, d, G, h, t, hd => by
    have q : d8 = e := Option.some.inj h
    subst q
    exact b8 t hd
  | 9, e, cx, d, G, h, t, hd => by
    have q : d9 = e := Option.some.inj h
    subst q
    exact b9 t hd
  | 10, e, cx, d, G, h, t, hd => by
    have q : d10 = e := Option.some.inj h
    subst q
    exact b10 t hd
  | 11, e, cx, d, G, h, t, hd => by
    have q : d11 = e := Option.some.inj h
    subst q
    exact b11 t hd
  | 12, e, cx, d, G, h, t, hd => by
    have q : d12 = e := Option.some.inj h
    subst q
    exact b12 t hd
  | 13, e, cx, d, G, h, t, hd => by
    have q : d13 = e := Option.some.inj h
    subst q
    exact b13 t hd
  | 14, e, cx, d, G, h, t, hd => by
    have q : d14 = e := Option.some.inj h
    subst q
    exact b14 t hd
  | 15, e, cx, d, G, h, t, hd => by
    have q : d15 = e := Option.some.inj h
    subst q
    exact b15 t hd
  | 16, e, cx, d, G, h, t, hd => by
    have q : d16 = e := Option.some.inj h
    subst q
    exact b16 t hd
  | 17, e, cx, d, G, h, t, hd => by
    have q : d17 = e := Option.some.inj h
    subst q
    exact b17 t hd
  | 18, e, cx, d, G, h, t, hd => by
    have q : d18 = e := Option.some.inj h
    subst q
    exact b18 t hd
  | 19, e, cx, d, G, h, t, hd => by
    have q : d19 = e := Option.some.inj h
    subst q
    exact b19 t hd
  | 20, e, cx, d, G, h, t, hd => by
    have q : d20 = e := Option.some.inj h
    subst q
    exact b20 t hd
  | 21, e, cx, d, G, h, t, hd => by
    have q : d21 = e := Option.some.inj h
    subst q
    exact b21 t hd
  | 22, e, cx, d, G, h, t, hd => by
    have q : d22 = e := Option.some.inj h
    subst q
    exact b22 t hd
  | 23, e, cx, d, G, h, t, hd => by
    have q : d23 = e := Option.some.inj h
    subst q
    exact b23 t hd
  | 24, e, cx, d, G, h, t, hd => by
    have q : d24 = e := Option.some.inj h
    subst q
    exact b24 t hd
  | 25, e, cx, d, G, h, t, hd => by
    have q : d25 = e := Option.some.inj h
    subst q
    exact b25 t hd
  | 26, e, cx, d, G, h, t, hd => by
    have q : d26 = e := Option.some.inj h
    subst q
    exact b26 t hd
  | 27, e, cx, d, G, h, t, hd => by
    have q : d27 = e := Option.some.inj h
    subst q
    exact b27 t hd
  | 28, e, cx, d, G, h, t, hd => by
    have q : d28 = e := Option.some.inj h
    subst q
    exact b28 t hd
  | 29, e, cx, d, G, h, t, hd => by
    have q : d29 = e := Option.some.inj h
    subst q
    exact b29 t hd
  | 30, e, cx, d, G, h, t, hd => by
    have q : d30 = e := Option.some.inj h
    subst q
    exact b30 t hd
  | n + 31, e, cx, d, G, h, t, hd => (nomatch (show (none : Option DT) = some e from h))
theorem good : tab.good = true := by kernel_rfl
theorem cls_eq : tab.p.classes = treeOf tab.cls.length (tab.cls.map (·.k)) := by kernel_rfl
theorem fns_eq : tab.p.fns = treeOf tab.fns.length (tab.fns.map (·.fn)) := by kernel_rfl
end K02
set_option Elab.async false
set_option linter.all false
set_option maxRecDepth 100000
set_option maxHeartbeats 0
namespace K02
open PySem PySem.Spec PyProof.Rows L2 Snd
def loose0 : List Str := ["SortError", "BadSort", "TooBig", "LETTERS", "LONGEST", "MOST_PARTS", "MOST_NESTED", "MOST_COUNT", "PLAIN", "is_label", "is_count", "Kinds", "is_sort", "check_sort", "Counted", "counted", "_law_cell_at", "_law_numbers", "_law_by", "_law_sort", "_law_draws", "_law_name_fine", "_law_count_fine", "_law_fine", "_law_counted", "_law_odd", "_law_deep", "_law_row_of", "_law_judged", "_law_all_right"]
abbrev loose : List Str := loose0
abbrev R : PySem.W.OpenRow := PySem.W.OpenLaw.row PySem.Challenge.rw_sortjudge_k02_whole_sorts
theorem main : ∀ ns : List Int, ns.length ≤ 63 → ∃ m, (MP.cxN tab.p tab.eqm 300).call 30 [.ref 0] (Snd.M0 (ns.map .int)) = .ok (.bool true) m := fun ns _ => main0 ns
theorem run (w : World) : HandSHeadRun.RunEq R (PySem.W.view R.prog [33]) (hookX 6 tab) (obX 6 tab) 6000 loose w := by
  intro os
  kernel_rfl
end K02
open PySem PySem.W PySem.Calls PyProof.Rows
theorem PySem.Challenge.cw_sortjudge_k02_whole_sorts_holds : PySem.Challenge.rw_sortjudge_k02_whole_sorts.Holds := by
  w_on; o_law
  refine HandSHeadRun.head_any (r := K02.R) (q := view K02.R.prog [33]) (H := Snd.hookX 6 K02.tab) (ob := Snd.obX 6 K02.tab) (M := 6000) (loose := K02.loose) (d := HandSHeadRun.topDef K02.R.prog 33) (kwd := []) (Snd.obX_eq 6 K02.tab)
    (by kernel_rfl) (fun s => by kernel_rfl) K02.run (by kernel_rfl) (by kernel_rfl) (by kernel_rfl) (by rfl) (by first | assumption | decide +kernel) (by decide +kernel) ⟨rfl, rfl, rfl, rfl, rfl, by decide +kernel⟩ ?hw ?hc
  case hw => w_witness2
  case hc => exact Snd.walk_law (l := PySem.Challenge.rw_sortjudge_k02_whole_sorts) (N := 300) (by decide) rfl (by kernel_rfl) (by kernel_rfl) (g := 30) (e := K02.d30) rfl rfl K02.good K02.cls_eq K02.fns_eq K02.en K02.bodies K02.main
