import PyProof.Rows.All
import Wide.All
import OpenK.AllK
import Wide.FinOn
import HandS.ForMost
import HandS.ForExc
import HandS.Wide
import HandS.Conv
import HandS.Flow
import HandS.StrMore
import HandS.ExcIs
import HandS.ExcField
import HandS.TryMany
import HandS.IsInst
import HandS.Deep
import HandS.TupAny
import HandS.Style
import HandS.Small
import HandS.ExcInit
import PySem.Challenge.RW_answertrees_k82_refusals_made
section
/-! Mi1: a small language over plain data: values, objects, the evaluator. No kit in sight. -/
namespace Mi
abbrev Tx := List Nat
/-- plain data: texts are lists of codes; lst, dct: lists and dicts that nobody changes any more, by value; ref: an object by its number; fn: a def of the module; exc: a caught exception, its class and its one field; scr: the script -/
inductive D where
  | non | bl (b : Bool) | int (i : Int) | str (s : Tx) | tup (xs : List D) | lst (xs : List D) | dct (kvs : List (D × D)) | ref (i : Nat) | fn (k : Nat) | exc (c : Nat) (xs : List D) | scr (is : List Int)
  deriving Inhabited, Repr
mutual
def D.dec : (a b : D) → Decidable (a = b)
  | .non, .non => isTrue rfl
  | .bl a, .bl b => if h : a = b then isTrue (by rw [h]) else isFalse (fun e => h (D.bl.inj e))
  | .int a, .int b => if h : a = b then isTrue (by rw [h]) else isFalse (fun e => h (D.int.inj e))
  | .str a, .str b => if h : a = b then isTrue (by rw [h]) else isFalse (fun e => h (D.str.inj e))
  | .ref a, .ref b => if h : a = b then isTrue (by rw [h]) else isFalse (fun e => h (D.ref.inj e))
  | .fn a, .fn b => if h : a = b then isTrue (by rw [h]) else isFalse (fun e => h (D.fn.inj e))
  | .tup a, .tup b => match D.decL a b with | isTrue h => isTrue (by rw [h]) | isFalse h => isFalse (fun e => h (D.tup.inj e))
  | .lst a, .lst b => match D.decL a b with | isTrue h => isTrue (by rw [h]) | isFalse h => isFalse (fun e => h (D.lst.inj e))
  | .dct a, .dct b => match D.decK a b with | isTrue h => isTrue (by rw [h]) | isFalse h => isFalse (fun e => h (D.dct.inj e))
  | .exc c a, .exc d b => if h0 : c = d then (match D.decL a b with | isTrue h => isTrue (by rw [h, h0]) | isFalse h => isFalse (fun e => h (D.exc.inj e).2)) else isFalse (fun e => h0 (D.exc.inj e).1)
  | .non, .bl _ | .non, .int _ | .non, .str _ | .non, .tup _ | .non, .lst _ | .non, .dct _ | .non, .ref _ | .non, .fn _ | .non, .exc _ _ | .non, .scr _ => isFalse nofun
  | .bl _, .non | .bl _, .int _ | .bl _, .str _ | .bl _, .tup _ | .bl _, .lst _ | .bl _, .dct _ | .bl _, .ref _ | .bl _, .fn _ | .bl _, .exc _ _ | .bl _, .scr _ => isFalse nofun
  | .int _, .non | .int _, .bl _ | .int _, .str _ | .int _, .tup _ | .int _, .lst _ | .int _, .dct _ | .int _, .ref _ | .int _, .fn _ | .int _, .exc _ _ | .int _, .scr _ => isFalse nofun
  | .str _, .non | .str _, .bl _ | .str _, .int _ | .str _, .tup _ | .str _, .lst _ | .str _, .dct _ | .str _, .ref _ | .str _, .fn _ | .str _, .exc _ _ | .str _, .scr _ => isFalse nofun
  | .tup _, .non | .tup _, .bl _ | .tup _, .int _ | .tup _, .str _ | .tup _, .lst _ | .tup _, .dct _ | .tup _, .ref _ | .tup _, .fn _ | .tup _, .exc _ _ | .tup _, .scr _ => isFalse nofun
  | .lst _, .non | .lst _, .bl _ | .lst _, .int _ | .lst _, .str _ | .lst _, .tup _ | .lst _, .dct _ | .lst _, .ref _ | .lst _, .fn _ | .lst _, .exc _ _ | .lst _, .scr _ => isFalse nofun
  | .dct _, .non | .dct _, .bl _ | .dct _, .int _ | .dct _, .str _ | .dct _, .tup _ | .dct _, .lst _ | .dct _, .ref _ | .dct _, .fn _ | .dct _, .exc _ _ | .dct _, .scr _ => isFalse nofun
  | .ref _, .non | .ref _, .bl _ | .ref _, .int _ | .ref _, .str _ | .ref _, .tup _ | .ref _, .lst _ | .ref _, .dct _ | .ref _, .fn _ | .ref _, .exc _ _ | .ref _, .scr _ => isFalse nofun
  | .fn _, .non | .fn _, .bl _ | .fn _, .int _ | .fn _, .str _ | .fn _, .tup _ | .fn _, .lst _ | .fn _, .dct _ | .fn _, .ref _ | .fn _, .exc _ _ | .fn _, .scr _ => isFalse nofun
  | .exc _ _, .non | .exc _ _, .bl _ | .exc _ _, .int _ | .exc _ _, .str _ | .exc _ _, .tup _ | .exc _ _, .lst _ | .exc _ _, .dct _ | .exc _ _, .ref _ | .exc _ _, .fn _ | .exc _ _, .scr _ => isFalse nofun
  | .scr a, .scr b => if h : a = b then isTrue (by rw [h]) else isFalse (fun e => h (D.scr.inj e))
  | .scr _, .non | .scr _, .bl _ | .scr _, .int _ | .scr _, .str _ | .scr _, .tup _ | .scr _, .lst _ | .scr _, .dct _ | .scr _, .ref _ | .scr _, .fn _ | .scr _, .exc _ _ => isFalse nofun
def D.decL : (a b : List D) → Decidable (a = b)
  | [], [] => isTrue rfl
  | [], _ :: _ => isFalse nofun
  | _ :: _, [] => isFalse nofun
  | a :: as, b :: bs => match D.dec a b, D.decL as bs with
    | isTrue h, isTrue h' => isTrue (by rw [h, h'])
    | isFalse h, _ => isFalse (fun e => h (List.cons.inj e).1)
    | _, isFalse h => isFalse (fun e => h (List.cons.inj e).2)
def D.decK : (a b : List (D × D)) → Decidable (a = b)
  | [], [] => isTrue rfl
  | [], _ :: _ => isFalse nofun
  | _ :: _, [] => isFalse nofun
  | (a, x) :: as, (b, y) :: bs => match D.dec a b, D.dec x y, D.decK as bs with
    | isTrue h, isTrue h', isTrue h'' => isTrue (by rw [h, h', h''])
    | isFalse h, _, _ => isFalse (fun e => h (Prod.mk.inj (List.cons.inj e).1).1)
    | _, isFalse h, _ => isFalse (fun e => h (Prod.mk.inj (List.cons.inj e).1).2)
    | _, _, isFalse h => isFalse (fun e => h (List.cons.inj e).2)
end
instance : DecidableEq D := D.dec

/-- objects that may change: a list, a dict, an instance of an own class -/
inductive Ob where
  | lst (xs : List D) | dct (kvs : List (D × D)) | ins (c : Nat) (fs : List (Tx × D))
  deriving Inhabited, Repr, DecidableEq
abbrev M := List Ob
/-- what comes of an expression: a value, or an exception (its class, its field) -/
inductive R (α : Type) where
  | ok (a : α) (m : M)
  | ex (c : Nat) (v : List D) (m : M)
  deriving Repr
/-- none: the evaluator has no answer -/
abbrev O (α : Type) := Option (R α)
def bnd {α β : Type} : O α → (α → M → O β) → O β
  | some (.ok a m), f => f a m
  | some (.ex c v m), _ => some (.ex c v m)
  | none, _ => none
@[simp] theorem bnd_ok {α β : Type} (a : α) (m : M) (f : α → M → O β) : bnd (some (.ok a m)) f = f a m := rfl
@[simp] theorem bnd_ex {α β : Type} (c : Nat) (v : List D) (m : M) (f : α → M → O β) : bnd (some (.ex c v m)) f = some (.ex c v m) := rfl
@[simp] theorem bnd_none {α β : Type} (f : α → M → O β) : bnd none f = none := rfl
abbrev okk {α : Type} (a : α) (m : M) : O α := some (.ok a m)
/-- a value, where there is one -/
def lift {α : Type} (o : Option α) (m : M) : O α := match o with | some a => some (.ok a m) | none => none
@[simp] theorem lift_some {α : Type} (a : α) (m : M) : lift (some a) m = some (.ok a m) := rfl
@[simp] theorem lift_none {α : Type} (m : M) : lift (none : Option α) m = none := rfl

/-- the longest sequence -/
def line : Nat := 16777216
/-! ### data -/
mutual
/-- all refs in it are below n -/
def D.bw (n : Nat) : D → Bool
  | .ref i => decide (i < n)
  | .tup xs => D.bwL n xs
  | .lst xs => D.bwL n xs
  | .dct kvs => D.bwK n kvs
  | .exc _ xs => D.bwL n xs
  | _ => true
def D.bwL (n : Nat) : List D → Bool
  | [] => true
  | x :: r => D.bw n x && D.bwL n r
def D.bwK (n : Nat) : List (D × D) → Bool
  | [] => true
  | (k, x) :: r => D.bw n k && (D.bw n x && D.bwK n r)
end
def Ob.bw (n : Nat) : Ob → Bool
  | .lst xs => D.bwL n xs
  | .dct kvs => D.bwK n kvs
  | .ins _ fs => fs.all fun p => p.2.bw n
mutual
/-- each ref replaced -/
def D.rep (g : Nat → Option D) : D → Option D
  | .ref i => g i
  | .tup xs => (D.repL g xs).map .tup
  | .lst xs => (D.repL g xs).map .lst
  | .dct kvs => (D.repK g kvs).map .dct
  | .exc c xs => (D.repL g xs).map (.exc c)
  | .non => some .non
  | .bl b => some (.bl b)
  | .int i => some (.int i)
  | .str s => some (.str s)
  | .fn k => some (.fn k)
  | .scr is => some (.scr is)
def D.repL (g : Nat → Option D) : List D → Option (List D)
  | [] => some []
  | x :: r => match D.rep g x, D.repL g r with | some y, some s => some (y :: s) | _, _ => none
def D.repK (g : Nat → Option D) : List (D × D) → Option (List (D × D))
  | [] => some []
  | (k, x) :: r => match D.rep g k, D.rep g x, D.repK g r with | some k', some y, some s => some ((k', y) :: s) | _, _, _ => none
end
/-- a ref told by value, where its object is a list or a dict from n on -/
def frz (m : M) (n : Nat) : Nat → Nat → Option D
  | 0, _ => none
  | f + 1, i => if i < n then some (.ref i) else match m[i]? with
    | some (.lst xs) => (D.repL (frz m n f) xs).map .lst
    | some (.dct kvs) => (D.repK (frz m n f) kvs).map .dct
    | _ => none
def deep : Nat := 12
/-- all refs told by value, where they can -/
def full (m : M) (d : D) : Option D := D.rep (frz m 0 deep) d
/-- the objects ahead are as they were, or refer to such alone -/
def okPre (n : Nat) : M → M → Bool
  | [], _ => true
  | _ :: _, [] => false
  | a :: r, b :: s => (decide (a = b) || b.bw n) && okPre n r s
/-- a def hands back: its own lists and dicts by value, its objects forgotten; else as they are -/
def back (m : M) (d : D) (m' : M) : O D :=
  if okPre m.length m m' then match D.rep (frz m' m.length deep) d with
    | some d' => okk d' (m'.take m.length)
    | none => okk d m'
  else okk d m'

/-- the items of a list -/
def lstOf (m : M) : D → Option (List D)
  | .lst xs => some xs
  | .ref i => match m[i]? with | some (.lst xs) => some xs | _ => none
  | _ => none
/-- the items of a list, the script's too -/
def lseqOf (m : M) : D → Option (List D)
  | .scr is => some (is.map .int)
  | d => lstOf m d
/-- the items of a list or a tuple -/
def seqOf (m : M) : D → Option (List D)
  | .tup xs => some xs
  | .lst xs => some xs
  | .scr is => some (is.map .int)
  | .ref i => match m[i]? with | some (.lst xs) => some xs | _ => none
  | _ => none
def kvsOf (m : M) : D → Option (List (D × D))
  | .dct kvs => some kvs
  | .ref i => match m[i]? with | some (.dct kvs) => some kvs | _ => none
  | _ => none
def lenOf (m : M) : D → Option Nat
  | .str s => some s.length
  | .tup xs => some xs.length
  | .lst xs => some xs.length
  | .dct kvs => some kvs.length
  | .scr is => some is.length
  | .ref i => match m[i]? with | some (.lst xs) => some xs.length | some (.dct kvs) => some kvs.length | _ => none
  | _ => none
def truth (m : M) : D → Option Bool
  | .non => some false
  | .bl b => some b
  | .int i => some (decide (i ≠ 0))
  | d => (lenOf m d).map fun n => decide (n ≠ 0)

/-! ### == and < -/
mutual
/-- == of data without refs -/
def D.eqv : D → D → Bool
  | .non, .non => true
  | .bl a, .bl b => decide (a = b)
  | .bl a, .int j => decide ((if a then 1 else 0) = j)
  | .int i, .bl b => decide (i = (if b then 1 else 0))
  | .int a, .int b => decide (a = b)
  | .str a, .str b => decide (a = b)
  | .tup a, .tup b => D.eqvL a b
  | .lst a, .lst b => D.eqvL a b
  | _, _ => false
def D.eqvL : List D → List D → Bool
  | [], [] => true
  | a :: r, b :: s => D.eqv a b && D.eqvL r s
  | _, _ => false
end
def okT (s : Tx) : Bool := s.all fun c => decide (c < 256)
mutual
/-- data that may be compared, so deep at most -/
def D.okd : Nat → D → Bool
  | _, .non => true
  | _, .bl _ => true
  | _, .int _ => true
  | _, .str s => okT s
  | n + 1, .tup xs => D.okdL n xs
  | n + 1, .lst xs => D.okdL n xs
  | _, _ => false
def D.okdL : Nat → List D → Bool
  | _, [] => true
  | n, x :: r => D.okd n x && D.okdL n r
end
def D.flat : D → Bool
  | .non => true
  | .bl _ => true
  | .int _ => true
  | .str _ => true
  | _ => false
/-- x == y -/
def eqD (m : M) (x y : D) : Option Bool :=
  if x.flat && y.flat then (match x, y with
    | .bl _, .int _ => none
    | .int _, .bl _ => none
    | _, _ => some (D.eqv x y))
  else match full m x, full m y with
    | some a, some b => if a.okd 40 && b.okd 40 then some (D.eqv a b) else none
    | _, _ => none
/-- a text before another -/
def ltT : Tx → Tx → Bool
  | [], [] => false
  | [], _ :: _ => true
  | _ :: _, [] => false
  | a :: r, b :: s => if a < b then true else if b < a then false else ltT r s
def D.lt : D → D → Option Bool
  | .int a, .int b => some (decide (a < b))
  | .str a, .str b => some (ltT a b)
  | _, _ => none
def D.le (a b : D) : Option Bool := (D.lt b a).map fun c => !c

/-! ### texts -/
/-- the places behind the front piece, where it stands at the front -/
def front (S l : Tx) : Bool := S.isPrefixOf l
def consHead (c : Nat) : List Tx → List Tx
  | [] => [[c]]
  | h :: t => (c :: h) :: t
def spF (S : Tx) : Nat → Tx → List Tx
  | 0, l => [l]
  | _ + 1, [] => [[]]
  | n + 1, c :: r => if front S (c :: r) then [] :: spF S n ((c :: r).drop S.length) else consHead c (spF S n r)
/-- split -/
def splitT (S l : Tx) : List Tx := spF S (l.length + 1) l
/-- partition -/
def partT (S : Tx) : Tx → Tx × Tx × Tx
  | [] => ([], [], [])
  | c :: r => if front S (c :: r) then ([], S, (c :: r).drop S.length) else let p := partT S r; (c :: p.1, p.2)
def joinT (S : Tx) : List Tx → Tx
  | [] => []
  | [x] => x
  | x :: y :: r => x ++ S ++ joinT S (y :: r)
def lstripT (S : Tx) (l : Tx) : Tx := l.dropWhile fun c => S.contains c
def rstripT (S : Tx) (l : Tx) : Tx := (lstripT S l.reverse).reverse
def replF (S T : Tx) : Nat → Tx → Tx
  | 0, l => l
  | _ + 1, [] => []
  | n + 1, c :: r => if front S (c :: r) then T ++ replF S T n ((c :: r).drop S.length) else c :: replF S T n r
def replT (S T l : Tx) : Tx := replF S T (l.length + 1) l
def findT (S : Tx) : Tx → Nat → Option Nat
  | [], k => if S = [] then some k else none
  | c :: r, k => if front S (c :: r) then some k else findT S r (k + 1)
def lowT (l : Tx) : Tx := l.map fun c => if 65 ≤ c ∧ c ≤ 90 then c + 32 else c
def natT (n : Nat) : Tx := (Nat.toDigits 10 n).map Char.toNat
def intT (i : Int) : Tx := if i < 0 then 45 :: natT i.natAbs else natT i.natAbs
def isDig (c : Nat) : Bool := decide (48 ≤ c) && decide (c ≤ 57)
def valT (l : Tx) : Nat := l.foldl (fun a c => a * 10 + (c - 48)) 0
def ofT (xs : List Tx) : List D := xs.map .str
def asT : List D → Option (List Tx)
  | [] => some []
  | .str s :: r => (asT r).map (s :: ·)
  | _ :: _ => none
def asI : List D → Option (List Int)
  | [] => some []
  | .int s :: r => (asI r).map (s :: ·)
  | _ :: _ => none
def asB : List D → Option (List Bool)
  | [] => some []
  | .bl s :: r => (asB r).map (s :: ·)
  | _ :: _ => none
def sumLen (xs : List Tx) : Nat := (xs.map List.length).sum

/-! ### dicts -/
def dget (kvs : List (D × D)) (k : D) : Option D := (kvs.find? fun p => decide (p.1 = k)).map (·.2)
def dhas (kvs : List (D × D)) (k : D) : Bool := kvs.any fun p => decide (p.1 = k)
def dput (kvs : List (D × D)) (k v : D) : List (D × D) := if dhas kvs k then kvs.map fun p => if p.1 = k then (p.1, v) else p else kvs ++ [(k, v)]
mutual
def D.key : D → Bool
  | .non => true
  | .int _ => true
  | .str _ => true
  | .tup xs => D.keyL xs
  | _ => false
def D.keyL : List D → Bool
  | [] => true
  | x :: r => D.key x && D.keyL r
end
/-- a key that is carried by value -/
def D.leaf : D → Bool
  | .non => true
  | .int _ => true
  | .str _ => true
  | _ => false
/-- whether a key goes with these -/
def keyOk (kvs : List (D × D)) (k : D) : Bool := k.key && kvs.all fun p => p.1.leaf == k.leaf

/-! ### operators -/
inductive O2 where | add | sub | mul | fdiv | mod | pow | band | shl | shr
  deriving DecidableEq, Repr
inductive C2 where | eq | ne | lt | le | gt | ge | isin | notin | is | isnot
  deriving DecidableEq, Repr
def wide (a : Int) : Bool := decide (a.natAbs < 2 ^ 4000)
def bin2 (m : M) : O2 → D → D → Option D
  | .add, .int a, .int b => some (.int (a + b))
  | .add, .str a, .str b => if a.length + b.length ≤ line then some (.str (a ++ b)) else none
  | .add, x, y => match lstOf m x, lstOf m y with
      | some a, some b => if a.length + b.length ≤ line then some (.lst (a ++ b)) else none
      | _, _ => none
  | .sub, .int a, .int b => some (.int (a - b))
  | .mul, .int a, .int b => if wide a && wide b then some (.int (a * b)) else none
  | .fdiv, .int a, .int b => if 0 < b ∧ wide b then some (.int (a / b)) else none
  | .mod, .int a, .int b => if 0 < b then some (.int (a % b)) else none
  | .pow, .int a, .int b => if 0 ≤ b ∧ b ≤ 100 ∧ wide a then some (.int (a ^ b.toNat)) else none
  | .band, .int a, .int b => if b = 1 then some (.int (a % 2)) else none
  | .shl, .int a, .int b => if 0 ≤ b ∧ b ≤ 1000 ∧ a.natAbs < 2 ^ 64 then some (.int (a * 2 ^ b.toNat)) else none
  | .shr, .int a, .int b => if 0 ≤ b ∧ b ≤ 1000 then some (.int (a / 2 ^ b.toNat)) else none
  | _, _, _ => none
def isIn (m : M) (x y : D) : Option Bool := match y with
  | .str t => match x with | .str [c] => some (t.contains c) | _ => none
  | _ => match kvsOf m y with
    | some kvs => if keyOk kvs x then some (dhas kvs x) else none
    | none => match seqOf m y with
      | some ys => if x.flat && ys.all D.flat then some (ys.any fun z => D.eqv z x) else none
      | none => none
def cmp2 (m : M) : C2 → D → D → Option Bool
  | .eq, x, y => eqD m x y
  | .ne, x, y => (eqD m x y).map fun c => !c
  | .lt, x, y => D.lt x y
  | .gt, x, y => D.lt y x
  | .le, x, y => D.le x y
  | .ge, x, y => D.le y x
  | .isin, x, y => isIn m x y
  | .notin, x, y => (isIn m x y).map fun c => !c
  | .is, x, .non => some (decide (x = .non))
  | .isnot, x, .non => some (!decide (x = .non))
  | _, _, _ => none

/-! ### places and slices -/
def ix (n : Nat) (i : Int) : Option Nat := if 0 ≤ i ∧ i < n then some i.toNat else if i < 0 ∧ -(n : Int) ≤ i then some (i + n).toNat else none
def clip (n : Nat) (d : Nat) : D → Option Nat
  | .int i => some (if i < 0 then (i + n).toNat else min i.toNat n)
  | .non => some d
  | _ => none
def cut {α : Type} (xs : List α) (lo hi : Nat) : List α := (xs.take hi).drop lo
def item (m : M) (x i : D) : Option D := match kvsOf m x with
  | some kvs => if keyOk kvs i then dget kvs i else none
  | none => match x, i with
    | .str s, .int k => (ix s.length k).bind fun j => (s[j]?).map fun c => .str [c]
    | _, .int k => (seqOf m x).bind fun xs => (ix xs.length k).bind fun j => xs[j]?
    | _, _ => none
def slice (m : M) (x lo hi : D) : Option D := match x with
  | .str s => match clip s.length 0 lo, clip s.length s.length hi with | some a, some b => some (.str (cut s a b)) | _, _ => none
  | .tup s => match clip s.length 0 lo, clip s.length s.length hi with | some a, some b => some (.tup (cut s a b)) | _, _ => none
  | _ => match lseqOf m x with
    | some s => match clip s.length 0 lo, clip s.length s.length hi with | some a, some b => some (.lst (cut s a b)) | _, _ => none
    | none => none
/-- x[i] = v -/
def putItem (m : M) (x i v : D) : Option M := match x with
  | .ref a => match m[a]? with
    | some (.lst xs) => match i with
      | .int k => (ix xs.length k).map fun j => m.set a (.lst (xs.set j v))
      | _ => none
    | some (.dct kvs) => if keyOk kvs i ∧ kvs.length < line then some (m.set a (.dct (dput kvs i v))) else none
    | _ => none
  | _ => none
def getF (fs : List (Tx × D)) (f : Tx) : Option D := (fs.find? fun p => decide (p.1 = f)).map (·.2)
def putF (fs : List (Tx × D)) (f : Tx) (v : D) : List (Tx × D) := match fs with
  | [] => [(f, v)]
  | (g, x) :: r => if g = f then (g, v) :: r else (g, x) :: putF r f v
end Mi

end
section
/-! Mi2: the syntax and the evaluator -/
namespace Mi
/-- the types that isinstance is asked for -/
inductive Ty where | str | int | bool | tuple | list | dict | vErr | ex (c : Nat)
  deriving DecidableEq, Repr
/-- built-ins of values -/
inductive Bi where | abs | all | any | int | len | max1 | max2 | min1 | min2 | str | sum
  deriving DecidableEq, Repr
/-- built-ins of something that is walked -/
inductive Bw where | list | tuple | sorted | dict | sortset
  deriving DecidableEq, Repr
/-- methods of built-in types -/
inductive Bm where | append | extend | pop0 | pop1 | insert | index | get1 | get2 | setdefault | update | endswith | startswith | find | isdigit | join | lower | lstrip | partition | replace | split | strip0 | strip
  deriving DecidableEq, Repr
inductive Tg where
  | nm (i : Nat) | nil | cons (t r : Tg) | tp (t : Tg)
  deriving DecidableEq, Repr
inductive Ex where
  | var (i : Nat) | con (d : D) | glo (x : Tx) (d : D) | fnv (k : Nat)
  | nil | cons (e r : Ex)
  | tup (es : Ex) | lst (al : Bool) (es : Ex) | newd | dsp (es : Ex)
  | bin (o : O2) (a b : Ex) | cmp (o : C2) (a b : Ex) | chn (o p : C2) (a b c : Ex) | neg (a : Ex)
  | vnot (a : Ex) | vand (a b : Ex) | vor (a b : Ex) | ife (c a b : Ex)
  | idx (a i : Ex) | slc (a lo hi : Ex) | rev (a : Ex) | att (a : Ex) (f : Tx)
  | cal (k : Nat) (es : Ex) | clv (i : Nat) (es : Ex) | mth (a : Ex) (f : Tx) (es : Ex) | mak (c : Nat) (es : Ex)
  | bi (b : Bi) (es : Ex) | bw (al : Bool) (b : Bw) (it : Ex) | bm (b : Bm) (a : Ex) (es : Ex) | isi (a : Ex) (ts : List Ty)
  | srk (it : Ex) (own : List (Tx × Nat)) (i : Nat) (e : Ex)
  | lc (al : Bool) (own : List (Tx × Nat)) (t : Tg) (it : Ex) (c : Ex) (e : Ex)
  | fst (es : Ex)
  -- tests
  | tru (e : Ex) | tnot (c : Ex) | tand (a b : Ex) | tor (a b : Ex) | yes
  -- what is walked
  | ipl (e : Ex) | rg1 (a : Ex) | rg2 (a b : Ex) | enu (it : Ex) | zip (a b : Ex) | rvs (e : Ex) | itm (e : Ex) | vls (e : Ex)
  deriving Repr
def Ex.isNil : Ex → Bool
  | .nil => true
  | _ => false
inductive Sm where
  | skip | seq (a b : Sm)
  | asg (t : Tg) (e : Ex) | par (t : Tg) (es : Ex) | sub (o i e : Ex) | att (o : Ex) (f : Tx) (e : Ex) | aug (i : Nat) (e : Ex) | exp (e : Ex)
  | ret (e : Ex) | retN | ife (c : Ex) (a b : Sm) | whl (c : Ex) (b : Sm) | for (t : Tg) (it : Ex) (b : Sm) | cont
  | rse (c : Nat) (es : Ex)
  | tri (b : Sm) (cs : List Nat) (n : Option Nat) (s : Sm) (more : Sm)
  deriving Repr
structure Fn where
  np : Nat
  nv : Nat
  body : Sm
  fz : Bool
structure Tb where
  fns : Nat → Option Fn
  meth : Nat → Tx → Option Nat
  init : Nat → Option Nat
  sub : Nat → Nat → Bool
  /-- an exception's class: whether it bears a field -/
  fld : Nat → Bool

abbrev Env := List (Option D)
inductive SR where
  | nx (Γ : Env) (m : M) | rt (d : D) (m : M) | ct (Γ : Env) (m : M) | ex (c : Nat) (v : List D) (Γ : Env) (m : M)
  deriving Repr

/-! ### what is walked: the items, and the objects that must stay as they are meanwhile -/
structure It where
  xs : List D
  ws : List (Nat × Ob)
def wsOk (m : M) (ws : List (Nat × Ob)) : Bool := ws.all fun p => decide (m[p.1]? = some p.2)
def walk (m : M) : D → Option It
  | .tup xs => some ⟨xs, []⟩
  | .lst xs => some ⟨xs, []⟩
  | .scr is => some ⟨is.map .int, []⟩
  | .dct kvs => some ⟨kvs.map (·.1), []⟩
  | .str s => some ⟨s.map fun c => .str [c], []⟩
  | .ref i => match m[i]? with
    | some (.lst xs) => some ⟨xs, [(i, .lst xs)]⟩
    | some (.dct kvs) => some ⟨kvs.map (·.1), [(i, .dct kvs)]⟩
    | _ => none
  | _ => none
def dwalk (m : M) (f : D × D → D) : D → Option It
  | .dct kvs => some ⟨kvs.map f, []⟩
  | .ref i => match m[i]? with
    | some (.dct kvs) => some ⟨kvs.map f, [(i, .dct kvs)]⟩
    | _ => none
  | _ => none
def enumL : Nat → List D → List D
  | _, [] => []
  | k, x :: r => .tup [.int k, x] :: enumL (k + 1) r
def zipL : List D → List D → List D
  | x :: r, y :: s => .tup [x, y] :: zipL r s
  | _, _ => []
def rangeL (lo hi : Int) : List D := (List.range (hi - lo).toNat).map fun k => .int (lo + (k : Nat))

/-! ### built-ins -/
/-- the least, the first of such -/
def least : D → List D → Option D
  | x, [] => some x
  | x, y :: r => match D.lt y x with | some true => least y r | some false => least x r | none => none
def most : D → List D → Option D
  | x, [] => some x
  | x, y :: r => match D.lt x y with | some true => most y r | some false => most x r | none => none
def sumI (xs : List Int) : Int := xs.foldl (· + ·) 0
def evBi (m : M) : Bi → List D → Option D
  | .abs, [.int i] => some (.int (if i < 0 then -i else i))
  | .all, [x] => (lstOf m x).bind fun xs => (asB xs).map fun bs => .bl (bs.all id)
  | .any, [x] => (lstOf m x).bind fun xs => (asB xs).map fun bs => .bl (bs.any id)
  | .int, [.int i] => some (.int i)
  | .int, [.bl b] => some (.int (if b then 1 else 0))
  | .int, [.str s] => if natT (valT s) = s ∧ s.length ≤ 600 then some (.int (valT s)) else none
  | .len, [x] => (lenOf m x).map fun (n : Nat) => .int (n : Int)
  | .str, [.int i] => if 0 ≤ i ∧ i < 10 ^ 500 then some (.str (natT i.toNat)) else none
  | .max2, [.int i, .int j] => some (.int (if j > i then j else i))
  | .min2, [.int i, .int j] => some (.int (if j < i then j else i))
  | .max1, [x] => (lstOf m x).bind fun xs => (asI xs).bind fun is => match is with | i :: r => some (.int (r.foldl (fun a b => if b > a then b else a) i)) | [] => none
  | .min1, [x] => (lstOf m x).bind fun xs => (asI xs).bind fun is => match is with | i :: r => some (.int (r.foldl (fun a b => if b < a then b else a) i)) | [] => none
  | .sum, [x] => (lstOf m x).bind fun xs => (asI xs).map fun is => .int (sumI is)
  | _, _ => none
mutual
/-- data of one kind, place by place: what sorted may compare -/
def D.alike : D → D → Bool
  | .int _, .int _ => true
  | .str _, .str _ => true
  | .bl _, .bl _ => true
  | .non, .non => true
  | .tup a, .tup b => D.alikeL a b
  | _, _ => false
def D.alikeL : List D → List D → Bool
  | [], _ => true
  | _, [] => true
  | a :: r, b :: s => D.alike a b && D.alikeL r s
end
def leD (a b : D) : Bool := match D.lt b a with | some true => false | _ => true
/-- all pairs can be compared -/
def cmpAll (xs : List D) : Bool := xs.all fun x => xs.all fun y => (D.lt x y).isSome
def sortD (xs : List D) : Option (List D) := if cmpAll xs then some (xs.mergeSort leD) else none
def dedup : List D → List D
  | [] => []
  | x :: r => x :: (dedup r).filter fun y => decide (y ≠ x)
def ofPairs : List D → List (D × D) → Option (List (D × D))
  | [], acc => some acc
  | .tup [k, v] :: r, acc => if keyOk acc k then ofPairs r (dput acc k v) else none
  | _ :: _, _ => none
def evBw : Bw → List D → Option D
  | .list, xs => some (.lst xs)
  | .tuple, xs => some (.tup xs)
  | .sorted, xs => (sortD xs).map .lst
  | .dict, xs => (ofPairs xs []).map .dct
  | .sortset, xs => (asT xs).bind fun _ => (sortD (dedup xs)).map .lst
/-- a method of a built-in type: what it tells, and the objects behind -/
def evBm (m : M) : Bm → D → List D → Option (D × M)
  | .append, .ref i, [x] => match m[i]? with
    | some (.lst xs) => if xs.length < line then some (.non, m.set i (.lst (xs ++ [x]))) else none
    | _ => none
  | .extend, .ref i, [x] => match m[i]?, x with
    | some (.lst xs), .ref j => if i = j then none else match m[j]? with
      | some (.lst ys) => if xs.length + ys.length < line then some (.non, m.set i (.lst (xs ++ ys))) else none
      | _ => none
    | some (.lst xs), .lst ys => if xs.length + ys.length < line then some (.non, m.set i (.lst (xs ++ ys))) else none
    | some (.lst xs), .tup ys => if xs.length + ys.length < line then some (.non, m.set i (.lst (xs ++ ys))) else none
    | _, _ => none
  | .pop0, .ref i, [] => match m[i]? with
    | some (.lst xs) => (xs[xs.length - 1]?).map fun x => (x, m.set i (.lst xs.dropLast))
    | _ => none
  | .pop1, .ref i, [.int k] => match m[i]? with
    | some (.lst xs) => (ix xs.length k).bind fun j => (xs[j]?).map fun x => (x, m.set i (.lst (xs.eraseIdx j)))
    | _ => none
  | .insert, .ref i, [.int k, x] => match m[i]? with
    | some (.lst xs) => if 0 ≤ k ∧ k ≤ xs.length ∧ xs.length < line then some (.non, m.set i (.lst (xs.insertIdx k.toNat x))) else none
    | _ => none
  | .index, x, [y] => (lstOf m x).bind fun xs => ((full m (.lst xs)).bind fun xs' => match xs' with | .lst zs => some zs | _ => none).bind fun zs => (full m y).bind fun y' =>
      if y'.okd 40 ∧ zs.all (D.okd 40) then (zs.findIdx? fun z => D.eqv z y').map fun k => (.int k, m) else none
  | .get1, x, [k] => (kvsOf m x).bind fun kvs => if keyOk kvs k then some ((dget kvs k).getD .non, m) else none
  | .get2, x, [k, y] => (kvsOf m x).bind fun kvs => if keyOk kvs k then some ((dget kvs k).getD y, m) else none
  | .setdefault, .ref i, [k, y] => match m[i]? with
    | some (.dct kvs) => if keyOk kvs k ∧ kvs.length < line then (match dget kvs k with
      | some v => some (v, m)
      | none => some (y, m.set i (.dct (dput kvs k y)))) else none
    | _ => none
  | .update, .ref i, [x] => match m[i]?, kvsOf m x with
    | some (.dct kvs), some more => if (more.all fun p => keyOk kvs p.1) ∧ kvs.length + more.length < line ∧ x ≠ .ref i then some (.non, m.set i (.dct (more.foldl (fun acc p => dput acc p.1 p.2) kvs))) else none
    | _, _ => none
  | .endswith, .str s, [.str t] => some (.bl (front t.reverse s.reverse), m)
  | .startswith, .str s, [.str t] => some (.bl (front t s), m)
  | .find, .str s, [.str t] => some (match findT t s 0 with | some k => .int k | none => .int (-1), m)
  | .isdigit, .str s, [] => if s.all fun c => c < 128 then some (.bl (decide (s ≠ []) && s.all isDig), m) else none
  | .join, .str s, [x] => (seqOf m x).bind fun xs => (asT xs).bind fun ts => if sumLen ts + ts.length * s.length ≤ line then some (.str (joinT s ts), m) else none
  | .lower, .str s, [] => if s.length ≤ 5000000 ∧ s.all (fun c => c < 128) then some (.str (lowT s), m) else none
  | .lstrip, .str s, [.str t] => some (.str (lstripT t s), m)
  | .strip, .str s, [.str t] => some (.str (rstripT t (lstripT t s)), m)
  | .strip0, .str s, [] => if s.all fun c => decide (32 ≤ c) && decide (c < 127) then some (.str (rstripT [32] (lstripT [32] s)), m) else none
  | .partition, .str s, [.str t] => if t ≠ [] ∧ t.all (fun c => c < 256) then (let p := partT t s; some (.tup [.str p.1, .str p.2.1, .str p.2.2], m)) else none
  | .replace, .str s, [.str t, .str u] => if t ≠ [] ∧ s.length * (u.length + 1) ≤ line then some (.str (replT t u s), m) else none
  | .split, .str s, [.str t] => if t ≠ [] ∧ t.all (fun c => c < 256) ∧ s.length + 2 ≤ line then some (.lst (ofT (splitT t s)), m) else none
  | _, _, _ => none
/-- whether the receiver is of the method's type -/
def bmTy (m : M) (b : Bm) (x : D) : Bool := match b with
  | .append | .extend | .pop0 | .pop1 | .insert => (match x with | .ref i => (match m[i]? with | some (.lst _) => true | _ => false) | _ => false)
  | .index => (lstOf m x).isSome
  | .get1 | .get2 | .setdefault | .update => (kvsOf m x).isSome
  | _ => (match x with | .str _ => true | _ => false)
def isTy (m : M) (T : Tb) : D → Ty → Option Bool
  | .exc c _, .ex d => some (T.sub c d)
  | .exc _ _, .vErr => some true
  | .exc _ _, _ => none
  | .fn _, _ => none
  | .scr _, t => some (decide (t = .list))
  | .str _, t => some (decide (t = .str))
  | .int _, t => some (decide (t = .int))
  | .bl _, t => some (decide (t = .int) || decide (t = .bool))
  | .non, _ => some false
  | .tup _, t => some (decide (t = .tuple))
  | .lst _, t => some (decide (t = .list))
  | .dct _, t => some (decide (t = .dict))
  | .ref i, t => match m[i]? with
    | some (.lst _) => some (decide (t = .list))
    | some (.dct _) => some (decide (t = .dict))
    | _ => none
def isTys (m : M) (T : Tb) (d : D) : List Ty → Option Bool
  | [] => some false
  | t :: r => match isTy m T d t with | some true => some true | some false => isTys m T d r | none => none

/-! ### targets -/
mutual
def asgT (m : M) : Tg → D → Env → Option Env
  | .nm i, d, Γ => some (Γ.set i (some d))
  | .tp t, d, Γ => (match d with | .tup xs => some xs | d => seqOf m d).bind fun xs => asgL m t xs Γ
  | .nil, _, _ => none
  | .cons _ _, _, _ => none
def asgL (m : M) : Tg → List D → Env → Option Env
  | .nil, [], Γ => some Γ
  | .cons t r, x :: xs, Γ => (asgT m t x Γ).bind (asgL m r xs)
  | _, _, _ => none
end
def wipe (Γ : Env) : List Nat → Env
  | [] => Γ
  | v :: vs => (wipe Γ vs).set v none
def slots (own : List (Tx × Nat)) : List Nat := own.map (·.2)

/-- a new list: by value, or an object -/
def mk (al : Bool) (xs : List D) (m : M) : O D := if al then okk (.ref m.length) (m ++ [.lst xs]) else okk (.lst xs) m
/-- a comprehension's turns; f: the item's test and element -/
def lcGo (f : D → M → O (Option D)) (ws : List (Nat × Ob)) : List D → List D → M → O (List D)
  | [], acc, m => if wsOk m ws then okk acc m else none
  | x :: r, acc, m => if wsOk m ws then bnd (f x m) fun o m' => lcGo f ws r (match o with | some y => acc ++ [y] | none => acc) m' else none
/-- no exception leaves a comprehension -/
def noEx {α : Type} : O α → O α
  | some (.ok a m) => some (.ok a m)
  | _ => none
def pairsOf : List D → Option (List (D × D))
  | [] => some []
  | k :: v :: r => (pairsOf r).map ((k, v) :: ·)
  | _ => none
def txtOf : D → Option Tx
  | .str s => some s
  | .int i => if 0 ≤ i ∧ i < 10 ^ 500 then some (natT i.toNat) else none
  | _ => none
def txts : List D → Option Tx
  | [] => some []
  | x :: r => match txtOf x, txts r with | some s, some t => some (s ++ t) | _, _ => none

def asInt (d : D) (m : M) : O D := match d with | .int _ => okk d m | _ => none
section
variable (T : Tb) (C : Nat → List D → M → O D)
mutual
/-- an expression -/
def ev : Ex → Env → M → O D
  | .var i, Γ, m => match Γ[i]? with | some (some d) => okk d m | _ => none
  | .con d, _, m => okk d m
  | .glo _ d, _, m => okk d m
  | .fnv k, _, m => okk (.fn k) m
  | .tup es, Γ, m => bnd (evA es Γ m) fun xs m => if xs.length ≤ line then okk (.tup xs) m else none
  | .lst al es, Γ, m => bnd (evA es Γ m) fun xs m => if xs.length ≤ line then mk al xs m else none
  | .newd, _, m => okk (.ref m.length) (m ++ [.dct []])
  | .dsp es, Γ, m => bnd (evA es Γ m) fun xs m => match pairsOf xs with | some ps => (match ofPairs (ps.map fun p => .tup [p.1, p.2]) [] with | some kvs => okk (.dct kvs) m | none => none) | none => none
  | .bin o a b, Γ, m => bnd (ev a Γ m) fun x m => bnd (ev b Γ m) fun y m => lift (bin2 m o x y) m
  | .cmp o a b, Γ, m => bnd (ev a Γ m) fun x m => bnd (ev b Γ m) fun y m => lift ((cmp2 m o x y).map .bl) m
  | .chn o p a b c, Γ, m => bnd (ev a Γ m) fun x m => bnd (ev b Γ m) fun y m => match cmp2 m o x y with
    | some true => bnd (ev c Γ m) fun z m => lift ((cmp2 m p y z).map .bl) m
    | some false => okk (.bl false) m
    | none => none
  | .neg a, Γ, m => bnd (ev a Γ m) fun x m => match x with | .int i => okk (.int (-i)) m | _ => none
  | .vnot a, Γ, m => bnd (ev a Γ m) fun x m => lift ((truth m x).map fun b => .bl (!b)) m
  | .vand a b, Γ, m => bnd (ev a Γ m) fun x m => match truth m x with | some true => ev b Γ m | some false => okk x m | none => none
  | .vor a b, Γ, m => bnd (ev a Γ m) fun x m => match truth m x with | some true => okk x m | some false => ev b Γ m | none => none
  | .ife c a b, Γ, m => bnd (evC c Γ m) fun t m => if t then ev a Γ m else ev b Γ m
  | .idx a i, Γ, m => bnd (ev a Γ m) fun x m => bnd (ev i Γ m) fun y m => lift (item m x y) m
  | .slc a lo hi, Γ, m => bnd (ev a Γ m) fun x m => bnd (if lo.isNil then okk .non m else bnd (ev lo Γ m) asInt) fun y m => bnd (if hi.isNil then okk .non m else bnd (ev hi Γ m) asInt) fun z m => lift (slice m x y z) m
  | .rev a, Γ, m => bnd (ev a Γ m) fun x m => match x with | .tup _ => none | _ => lift ((seqOf m x).map fun xs => .lst xs.reverse) m
  | .att a f, Γ, m => bnd (ev a Γ m) fun x m => match x with
    | .exc _ [v] => okk v m
    | _ => none
  | .cal k es, Γ, m => bnd (evA es Γ m) fun xs m => C k xs m
  | .clv i es, Γ, m => match Γ[i]? with
    | some (some (.fn k)) => bnd (evA es Γ m) fun xs m => C k xs m
    | _ => none
  | .mth a f es, Γ, m => bnd (ev a Γ m) fun x m => bnd (evA es Γ m) fun xs m => match x with
    | .ref i => (match m[i]? with | some (.ins c fs) => (match getF fs f, T.meth c f with | none, some k => C k (x :: xs) m | _, _ => none) | _ => none)
    | _ => none
  | .mak c es, Γ, m => bnd (evA es Γ m) fun xs m => match T.init c with
    | some k => bnd (C k (.ref m.length :: xs) (m ++ [.ins c []])) fun d m' => if d = .non then okk (.ref m.length) m' else none
    | none => none
  | .bi b es, Γ, m => bnd (evA es Γ m) fun xs m => lift (evBi m b xs) m
  | .bw al b it, Γ, m => bnd (evI it Γ m) fun w m => match evBw b w.xs with | some (.lst xs) => mk al xs m | o => lift o m
  | .bm b a es, Γ, m => bnd (ev a Γ m) fun x m => if bmTy m b x then bnd (evA es Γ m) fun xs m => (match evBm m b x xs with | some (d, m') => okk d m' | none => none) else none
  | .isi a ts, Γ, m => bnd (ev a Γ m) fun x m => lift ((isTys m T x ts).map .bl) m
  | .srk it own i e, Γ, m => bnd (evI it Γ m) fun w m => bnd (noEx (lcGo (fun x m => bnd (ev e ((wipe Γ (slots own)).set i (some x)) m) fun y m => okk (some (.tup [y, x])) m) [] w.xs [] m)) fun ks m =>
      match sortD (ks.map fun k => match k with | .tup [y, _] => y | d => d) with
      | some _ => okk (.lst ((ks.mergeSort fun a b => match a, b with | .tup [x, _], .tup [y, _] => leD x y | _, _ => true).map fun k => match k with | .tup [_, x] => x | d => d)) m
      | none => none
  | .lc al own t it c e, Γ, m => bnd (evI it Γ m) fun w m => bnd (noEx (lcGo (fun x m => match asgT m t x (wipe Γ (slots own)) with
      | some Γ' => bnd (evC c Γ' m) fun b m => if b then bnd (ev e Γ' m) fun y m => okk (some y) m else okk none m
      | none => none) w.ws w.xs [] m)) fun ys m => mk al ys m
  | .fst es, Γ, m => bnd (evA es Γ m) fun xs m => match txts xs with | some s => if s.length ≤ line then okk (.str s) m else none | none => none
  | _, _, _ => none
/-- arguments, from the left -/
def evA : Ex → Env → M → O (List D)
  | .nil, _, m => okk [] m
  | .cons e r, Γ, m => bnd (ev e Γ m) fun x m => bnd (evA r Γ m) fun xs m => okk (x :: xs) m
  | _, _, _ => none
/-- a test -/
def evC : Ex → Env → M → O Bool
  | .yes, _, m => okk true m
  | .tru e, Γ, m => bnd (ev e Γ m) fun x m => lift (truth m x) m
  | .tnot c, Γ, m => bnd (evC c Γ m) fun b m => okk (!b) m
  | .tand a b, Γ, m => bnd (evC a Γ m) fun x m => if x then evC b Γ m else okk false m
  | .tor a b, Γ, m => bnd (evC a Γ m) fun x m => if x then okk true m else evC b Γ m
  | _, _, _ => none
/-- what is walked -/
def evI : Ex → Env → M → O It
  | .ipl e, Γ, m => bnd (ev e Γ m) fun x m => lift (walk m x) m
  | .rg1 a, Γ, m => bnd (ev a Γ m) fun x m => match x with | .int i => if -(2 ^ 60) ≤ i ∧ i ≤ 16777216 then okk ⟨rangeL 0 i, []⟩ m else none | _ => none
  | .rg2 a b, Γ, m => bnd (ev a Γ m) fun x m => bnd (ev b Γ m) fun y m => match x, y with
    | .int i, .int j => if -(2 ^ 60) ≤ i ∧ i < 2 ^ 60 ∧ -(2 ^ 60) ≤ j ∧ j < 2 ^ 60 ∧ j - i ≤ 16777216 then okk ⟨rangeL i j, []⟩ m else none
    | _, _ => none
  | .enu it, Γ, m => bnd (evI it Γ m) fun w m => okk ⟨enumL 0 w.xs, w.ws⟩ m
  | .zip a b, Γ, m => bnd (evI a Γ m) fun w m => bnd (evI b Γ m) fun v m => okk ⟨zipL w.xs v.xs, w.ws ++ v.ws⟩ m
  | .rvs e, Γ, m => bnd (ev e Γ m) fun x m => match x with
    | .str _ => none
    | _ => match kvsOf m x with | some _ => none | none => lift ((walk m x).map fun w => ⟨w.xs.reverse, w.ws⟩) m
  | .itm e, Γ, m => bnd (ev e Γ m) fun x m => lift (dwalk m (fun p => .tup [p.1, p.2]) x) m
  | .vls e, Γ, m => bnd (ev e Γ m) fun x m => lift (dwalk m (fun p => p.2) x) m
  | _, _, _ => none
end

/-! ### statements -/
def sb {α : Type} (Γ : Env) (o : O α) (f : α → M → Option SR) : Option SR := match o with
  | some (.ok a m) => f a m
  | some (.ex c v m) => some (.ex c v Γ m)
  | none => none
def forGo (f : D → Env → M → Option SR) (ws : List (Nat × Ob)) : List D → Env → M → Option SR
  | [], Γ, m => if wsOk m ws then some (.nx Γ m) else none
  | x :: r, Γ, m => if wsOk m ws then (match f x Γ m with
    | some (.nx Γ' m') => forGo f ws r Γ' m'
    | some (.ct Γ' m') => forGo f ws r Γ' m'
    | o => o) else none
def whlGo (c : Env → M → O Bool) (b : Env → M → Option SR) (Γ : Env) (m : M) : Option SR := match c Γ m with
  | some (.ok true m') => (match b Γ m' with
    | some (.nx Γ' m'') => whlGo c b Γ' m''
    | some (.ct Γ' m'') => whlGo c b Γ' m''
    | o => o)
  | some (.ok false m') => some (.nx Γ m')
  | some (.ex e v m') => some (.ex e v Γ m')
  | none => none partial_fixpoint
/-- an except suite: no exception leaves it; its name goes -/
def suiR (n : Option Nat) (c : Nat) (v : List D) (f : Env → M → Option SR) (Γ : Env) (m : M) : Option SR := match n with
  | none => (match f Γ m with
    | some (.ex _ _ _ _) => none
    | o => o)
  | some i => (match f (Γ.set i (some (.exc c v))) m with
    | some (.nx Γ' m') => some (.nx (Γ'.set i none) m')
    | some (.ct Γ' m') => some (.ct (Γ'.set i none) m')
    | some (.rt d m') => some (.rt d m')
    | _ => none)
mutual
def exS : Sm → Env → M → Option SR
  | .skip, Γ, m => some (.nx Γ m)
  | .seq a b, Γ, m => (match exS a Γ m with
    | some (.nx Γ' m') => exS b Γ' m'
    | o => o)
  | .asg t e, Γ, m => sb Γ (ev T C e Γ m) fun d m => (asgT m t d Γ).map fun Γ' => .nx Γ' m
  | .par t es, Γ, m => sb Γ (evA T C es Γ m) fun ds m => (asgL m t ds Γ).map fun Γ' => .nx Γ' m
  | .sub o i e, Γ, m => sb Γ (ev T C e Γ m) fun d m => sb Γ (ev T C o Γ m) fun x m => sb Γ (ev T C i Γ m) fun y m => (putItem m x y d).map fun m' => .nx Γ m'
  | .att o f e, Γ, m => sb Γ (ev T C e Γ m) fun d m => sb Γ (ev T C o Γ m) fun x m => match x with
    | .ref i => (match m[i]? with | some (.ins c fs) => if fs.length < 900 then some (.nx Γ (m.set i (.ins c (putF fs f d)))) else none | _ => none)
    | _ => none
  | .aug i e, Γ, m => match Γ[i]? with
    | some (some (.int k)) => sb Γ (ev T C e Γ m) fun d m => (match d with | .int j => some (.nx (Γ.set i (some (.int (k + j)))) m) | _ => none)
    | _ => none
  | .exp e, Γ, m => sb Γ (ev T C e Γ m) fun _ m => some (.nx Γ m)
  | .ret e, Γ, m => sb Γ (ev T C e Γ m) fun d m => some (.rt d m)
  | .retN, _, m => some (.rt .non m)
  | .ife c a b, Γ, m => sb Γ (evC T C c Γ m) fun t m => if t then exS a Γ m else exS b Γ m
  | .whl c b, Γ, m => whlGo (evC T C c) (exS b) Γ m
  | .for t it b, Γ, m => sb Γ (evI T C it Γ m) fun w m => forGo (fun x Γ m => match asgT m t x Γ with | some Γ' => exS b Γ' m | none => none) w.ws w.xs Γ m
  | .cont, Γ, m => some (.ct Γ m)
  | .rse c es, Γ, m => sb Γ (evA T C es Γ m) fun xs m => (match xs with | [x] => some (.ex c (if T.fld c then [x] else []) Γ m) | _ => none)
  | .tri b cs n s more, Γ, m => (match exS b Γ m with
    | some (.ex c v Γ' m') => if cs.any (T.sub c) then suiR n c v (exS s) Γ' m' else hdS more c v Γ' m'
    | o => o)
/-- the further clauses of a try -/
def hdS : Sm → Nat → List D → Env → M → Option SR
  | .skip, c, v, Γ, m => some (.ex c v Γ m)
  | .tri _ cs n s more, c, v, Γ, m => if cs.any (T.sub c) then suiR n c v (exS s) Γ m else hdS more c v Γ m
  | _, _, _, _, _ => none
end
end
def start (nv : Nat) (ds : List D) : Env := ds.map some ++ List.replicate (nv - ds.length) none
/-- a def called; fuel: how many calls deep -/
def callN (T : Tb) : Nat → Nat → List D → M → O D
  | 0, _, _, _ => none
  | n + 1, k, ds, m => match T.fns k with
    | none => none
    | some f => if ds.length = f.np then (match exS T (callN T n) f.body (start f.nv ds) m with
      | some (.rt d m') => if f.fz then back m d m' else okk d m'
      | some (.nx _ m') => if f.fz then back m .non m' else okk .non m'
      | some (.ex c v _ m') => some (.ex c v m')
      | _ => none) else none
/-- a comprehension's turn -/
def lcF (T : Tb) (C : Nat → List D → M → O D) (Γ : Env) (own : List (Tx × Nat)) (t : Tg) (c e : Ex) (x : D) (m : M) : O (Option D) := match asgT m t x (wipe Γ (slots own)) with
  | some Γ' => bnd (evC T C c Γ' m) fun b m => if b then bnd (ev T C e Γ' m) fun y m => okk (some y) m else okk none m
  | none => none
theorem ev_lc {T : Tb} {C : Nat → List D → M → O D} {al : Bool} {own : List (Tx × Nat)} {t : Tg} {it c e : Ex} {Γ : Env} {m : M} : ev T C (.lc al own t it c e) Γ m = bnd (evI T C it Γ m) fun w m => bnd (noEx (lcGo (lcF T C Γ own t c e) w.ws w.xs [] m)) fun ys m => mk al ys m := rfl
theorem ev_lc_ok {T : Tb} {C : Nat → List D → M → O D} {own : List (Tx × Nat)} {t : Tg} {it c e : Ex} {Γ : Env} {m m1 m2 : M} {w : It} {ys : List D} (h1 : evI T C it Γ m = some (.ok w m1)) (h2 : lcGo (lcF T C Γ own t c e) w.ws w.xs [] m1 = some (.ok ys m2)) : ev T C (.lc false own t it c e) Γ m = some (.ok (.lst ys) m2) := by
  rw [ev_lc, h1, bnd_ok, h2]; rfl
theorem ev_bm_ok {T : Tb} {C : Nat → List D → M → O D} {b : Bm} {a es : Ex} {Γ : Env} {m m1 m2 m3 : M} {x d : D} {xs : List D} (h1 : ev T C a Γ m = some (.ok x m1)) (h2 : bmTy m1 b x = true) (h3 : evA T C es Γ m1 = some (.ok xs m2)) (h4 : evBm m2 b x xs = some (d, m3)) : ev T C (.bm b a es) Γ m = some (.ok d m3) := by
  unfold ev; rw [h1, bnd_ok, if_pos h2, h3, bnd_ok, h4]
theorem evA_one {T : Tb} {C : Nat → List D → M → O D} {e : Ex} {Γ : Env} {m m1 : M} {x : D} (h : ev T C e Γ m = some (.ok x m1)) : evA T C (.cons e .nil) Γ m = some (.ok [x] m1) := by
  simp [evA, h]
theorem evA_two {T : Tb} {C : Nat → List D → M → O D} {e f : Ex} {Γ : Env} {m m1 m2 : M} {x y : D} (h : ev T C e Γ m = some (.ok x m1)) (h' : ev T C f Γ m1 = some (.ok y m2)) : evA T C (.cons e (.cons f .nil)) Γ m = some (.ok [x, y] m2) := by
  simp [evA, h, h']
theorem evA_three {T : Tb} {C : Nat → List D → M → O D} {e f g : Ex} {Γ : Env} {m m1 m2 m3 : M} {x y z : D} (h : ev T C e Γ m = some (.ok x m1)) (h' : ev T C f Γ m1 = some (.ok y m2)) (h'' : ev T C g Γ m2 = some (.ok z m3)) : evA T C (.cons e (.cons f (.cons g .nil))) Γ m = some (.ok [x, y, z] m3) := by
  simp [evA, h, h', h'']
theorem ev_cal_ok {T : Tb} {C : Nat → List D → M → O D} {k : Nat} {es : Ex} {Γ : Env} {m m1 m2 : M} {xs : List D} {d : D} (h1 : evA T C es Γ m = some (.ok xs m1)) (h2 : C k xs m1 = some (.ok d m2)) : ev T C (.cal k es) Γ m = some (.ok d m2) := by
  unfold ev; rw [h1, bnd_ok]; exact h2
theorem ev_var_ok {T : Tb} {C : Nat → List D → M → O D} {i : Nat} {Γ : Env} {m : M} {d : D} (h : Γ[i]? = some (some d)) : ev T C (.var i) Γ m = some (.ok d m) := by
  unfold ev; rw [h]
theorem seq_nx {T : Tb} {C : Nat → List D → M → O D} {a b : Sm} {Γ Γ1 : Env} {m m1 : M} {r : Option SR} (h : exS T C a Γ m = some (.nx Γ1 m1)) (h2 : exS T C b Γ1 m1 = r) : exS T C (.seq a b) Γ m = r := by
  unfold exS; rw [h]; exact h2
theorem seq_rt {T : Tb} {C : Nat → List D → M → O D} {a b : Sm} {Γ : Env} {m m1 : M} {d : D} (h : exS T C a Γ m = some (.rt d m1)) : exS T C (.seq a b) Γ m = some (.rt d m1) := by
  unfold exS; rw [h]
theorem seq_ex {T : Tb} {C : Nat → List D → M → O D} {a b : Sm} {Γ Γ1 : Env} {m m1 : M} {c : Nat} {v : List D} (h : exS T C a Γ m = some (.ex c v Γ1 m1)) : exS T C (.seq a b) Γ m = some (.ex c v Γ1 m1) := by
  unfold exS; rw [h]
theorem asg_ok {T : Tb} {C : Nat → List D → M → O D} {i : Nat} {e : Ex} {Γ : Env} {m m1 : M} {d : D} (h : ev T C e Γ m = some (.ok d m1)) : exS T C (.asg (.nm i) e) Γ m = some (.nx (Γ.set i (some d)) m1) := by
  unfold exS; rw [h]; rfl
theorem ret_ok {T : Tb} {C : Nat → List D → M → O D} {e : Ex} {Γ : Env} {m m1 : M} {d : D} (h : ev T C e Γ m = some (.ok d m1)) : exS T C (.ret e) Γ m = some (.rt d m1) := by
  unfold exS; rw [h]; rfl
theorem call_rt {T : Tb} {n k : Nat} {ds : List D} {m m1 : M} {f : Fn} {d : D} (hf : T.fns k = some f) (hl : ds.length = f.np) (hz : f.fz = false) (h : exS T (callN T n) f.body (start f.nv ds) m = some (.rt d m1)) : callN T (n + 1) k ds m = some (.ok d m1) := by
  unfold callN; rw [hf]; dsimp only; rw [if_pos hl, h]; dsimp only; rw [if_neg (by rw [hz]; exact Bool.false_ne_true)]
theorem call_rtz {T : Tb} {n k : Nat} {ds : List D} {m m1 : M} {f : Fn} {d : D} (hf : T.fns k = some f) (hl : ds.length = f.np) (hz : f.fz = true) (h : exS T (callN T n) f.body (start f.nv ds) m = some (.rt d m1)) : callN T (n + 1) k ds m = back m d m1 := by
  unfold callN; rw [hf]; dsimp only; rw [if_pos hl, h]; dsimp only; rw [if_pos hz]
/-- handing back data without refs -/
theorem back_plain {m m' : M} {d : D} (h : ∀ g, D.rep g d = some d) : back m d m' = okk d (m'.take m.length) ∨ back m d m' = okk d m' := by
  unfold back
  split
  · rw [h]; exact .inl rfl
  · exact .inr rfl
/-- a loop whose body goes on -/
theorem forGo_inv {f : D → Env → M → Option SR} {I : Env → M → Prop} : ∀ (xs : List D) (Γ : Env) (m : M), I Γ m → (∀ x ∈ xs, ∀ Γ m, I Γ m → ∃ Γ' m', f x Γ m = some (.nx Γ' m') ∧ I Γ' m') → ∃ Γ' m', forGo f [] xs Γ m = some (.nx Γ' m') ∧ I Γ' m'
  | [], Γ, m, h, _ => ⟨Γ, m, by simp [forGo, wsOk], h⟩
  | x :: r, Γ, m, h, hs => by
    obtain ⟨Γ1, m1, e, h1⟩ := hs x List.mem_cons_self Γ m h
    obtain ⟨Γ', m', e', h'⟩ := forGo_inv r Γ1 m1 h1 fun x hx => hs x (List.mem_cons_of_mem _ hx)
    exact ⟨Γ', m', by simp [forGo, wsOk, e, e'], h'⟩
def forF (T : Tb) (C : Nat → List D → M → O D) (t : Tg) (b : Sm) (x : D) (Γ : Env) (m : M) : Option SR := match asgT m t x Γ with
  | some Γ' => exS T C b Γ' m
  | none => none
theorem for_ok {T : Tb} {C : Nat → List D → M → O D} {t : Tg} {it : Ex} {b : Sm} {Γ : Env} {m m1 : M} {w : It} (h : evI T C it Γ m = some (.ok w m1)) : exS T C (.for t it b) Γ m = forGo (forF T C t b) w.ws w.xs Γ m1 := by
  show sb Γ (evI T C it Γ m) _ = _
  rw [h]; rfl
end Mi

end
section
set_option Elab.async false
set_option linter.all false
set_option maxRecDepth 100000
set_option maxHeartbeats 2000000
/-! Mi3: what it means that the kit's abstract heap bears plain data; readings made of the evaluator -/
namespace Mi
open PySem PySem.Spec PyProof.Rows L2 TL

/-- what the module holds: its written part, where its defs and classes stand -/
structure Stc where
  K : PySem.W.Frag
  fad : Nat → Option Addr
  cad : Nat → Option Addr
  xad : Nat → Option Addr
  xfn : Str
/-- hid: lists that nobody may name: a comprehension's, while it is made -/
structure Sta extends Stc where
  hid : List Addr := []
def toS (s : Tx) : Str := ⟨s.toArray⟩
theorem toS_len (s : Tx) : (toS s).length = s.length := by simp [toS, Str.length]
theorem tl_toS (s : Tx) : tl (toS s) = s := rfl
theorem toS_tl (x : Str) : toS (tl x) = x := mk_tl x
theorem toS_inj {s t : Tx} (h : toS s = toS t) : s = t := by have := congrArg tl h; simpa [tl_toS] using this

/-- a list that nobody changes -/
def SqF (K : PySem.W.Frag) (H : Hp) (a : Addr) (xs : List V) : Prop :=
  (∃ o, H a = some (.frz o (.lst xs))) ∨
    ∃ (o : Obj) (its : Array Value) (n : Nat), K.lookup a = some o ∧ o.cls = .type "list" ∧ o.dict = none ∧ o.data = .seq its n ∧ its.size ≤ sizeLine ∧ Vals xs its.toList
theorem SqF.sq {K : PySem.W.Frag} {H : Hp} {a : Addr} {xs : List V} (h : SqF K H a xs) : SqL K H a xs := by
  rcases h with ⟨o, h⟩ | h
  · exact .inl (.inr ⟨o, h⟩)
  · exact .inr h
/-- at a: a caught exception of the class cls, its own dict at dd -/
def EXO (a : Addr) (cls : Value) (dd : Option Addr) : HO := .ext fun h => ∃ (oe : Obj) (vs : Array Value), h.get? a = some oe ∧ Zc cls dd oe ∧ oe.data = .fields vs
/-- an exception's own dict bears the field -/
def XF (Z : Sta) (ρ : List Addr) (H : Hp) (vs : List V) (dd : Option Addr) : Prop := (vs = [] ∧ dd = none) ∨ ∃ a fs xv, vs = [xv] ∧ dd = some a ∧ a ∉ ρ ∧ H a = some (.xd fs) ∧ fs.lookup Z.xfn = some xv
section
variable (Z : Sta) (ρ : List Addr) (H : Hp)
mutual
def RV : D → V → Prop
  | .scr is, v => ∃ a, v = .ref a ∧ SqF Z.K H a (is.map V.int) ∧ is.length ≤ line
  | .non, v => v = .non
  | .bl b, v => v = .bl b
  | .int i, v => v = .int i
  | .str s, v => v = .str (toS s) ∧ s.length ≤ line
  | .tup xs, v => ∃ a vs, v = .ref a ∧ SqT Z.K H a vs ∧ xs.length ≤ line ∧ RVs xs vs
  | .lst xs, v => ∃ a vs, v = .ref a ∧ H a = some (.lst vs) ∧ a ∉ ρ ++ Z.hid ∧ xs.length ≤ line ∧ RVs xs vs
  | .dct _, _ => False
  | .ref i, v => ∃ a, v = .ref a ∧ ρ[i]? = some a
  | .fn k, v => ∃ a, v = .ref a ∧ Z.fad k = some a
  | .exc c xs, v => ∃ a C dd vs, v = .ref a ∧ H a = some (EXO a (.ref C) dd) ∧ a ∉ ρ ∧ Z.xad c = some C ∧ RVs xs vs ∧ XF Z ρ H vs dd
def RVs : List D → List V → Prop
  | [], vs => vs = []
  | x :: r, vs => ∃ v vr, vs = v :: vr ∧ RV x v ∧ RVs r vr
end
/-- attributes -/
def RF : List (Tx × D) → List (Str × V) → Prop
  | [], l => l = []
  | (f, d) :: r, l => ∃ v lr, l = (toS f, v) :: lr ∧ RV Z ρ H d v ∧ RF r lr
def RO (a : Addr) : Ob → Prop
  | .lst xs => ∃ vs, H a = some (.lst vs) ∧ xs.length ≤ line ∧ RVs Z ρ H xs vs
  | .dct _ => False
  | .ins c fs => ∃ C dx vfs, Z.cad c = some C ∧ H a = some (.ins C dx vfs) ∧ RF Z ρ H fs vfs
/-- an exception that flies: its class, its own dict -/
def RX (c : Nat) (xs : List D) (cls : Value) (dd : Option Addr) : Prop :=
  ∃ C vs, Z.xad c = some C ∧ cls = .ref C ∧ RVs Z ρ H xs vs ∧ XF Z ρ H vs dd
end
/-- the objects stand at ρ -/
structure Rel (Z : Sta) (ρ : List Addr) (H : Hp) (m : M) : Prop where
  len : ρ.length = m.length
  nd : ρ.Nodup
  ob : ∀ (i : Nat) (a : Addr) (o : Ob), ρ[i]? = some a → m[i]? = some o → RO Z ρ H a o
  hd : ∀ a ∈ Z.hid, a ∉ ρ ∧ ∃ o, H a = some o
structure Ext (ρ : List Addr) (H : Hp) (ρ' : List Addr) (H' : Hp) : Prop where
  pre : ∃ new, ρ' = ρ ++ new ∧ ∀ p ∈ new, H p = none
  tup : ∀ a xs, H a = some (.tup xs) → H' a = some (.tup xs)
  frz : ∀ a o u, H a = some (.frz o u) → H' a = some (.frz o u)
  keep : ∀ a o, a ∉ ρ → H a = some o → H' a = some o
  free : ∀ a, H' a = none → H a = none
section
variable {Z : Sta} {ρ ρ1 ρ2 : List Addr} {H H1 H2 : Hp} {m m1 m2 : M}
theorem Ext.refl : Ext ρ H ρ H := ⟨⟨[], by simp, by simp⟩, fun _ _ h => h, fun _ _ _ h => h, fun _ _ _ h => h, fun _ h => h⟩
theorem Ext.trans (a : Ext ρ H ρ1 H1) (b : Ext ρ1 H1 ρ2 H2) : Ext ρ H ρ2 H2 := by
  obtain ⟨n1, e1, f1⟩ := a.pre
  obtain ⟨n2, e2, f2⟩ := b.pre
  refine ⟨⟨n1 ++ n2, by rw [e2, e1, List.append_assoc], fun p hp => ?_⟩, fun x xs h => b.tup _ _ (a.tup _ _ h), fun x o u h => b.frz _ _ _ (a.frz _ _ _ h), fun x o hx h => ?_, fun x h => a.free _ (b.free _ h)⟩
  · rcases List.mem_append.mp hp with hp | hp
    · exact f1 p hp
    · exact a.free p (f2 p hp)
  · have h1 := a.keep x o hx h
    refine b.keep x o (fun hm => ?_) h1
    rw [e1] at hm
    rcases List.mem_append.mp hm with hm | hm
    · exact hx hm
    · rw [f1 x hm] at h; cases h
theorem Ext.notin (e : Ext ρ H ρ1 H1) {a : Addr} {o : HO} (h : H a = some o) (n : a ∉ ρ) : a ∉ ρ1 := fun hm => by
  obtain ⟨n1, e1, f1⟩ := e.pre
  rw [e1] at hm
  rcases List.mem_append.mp hm with hm | hm
  · exact n hm
  · rw [f1 a hm] at h; cases h
theorem Ext.notinH (e : Ext ρ H ρ1 H1) {a : Addr} {o : HO} {hid : List Addr} (h : H a = some o) (n : a ∉ ρ ++ hid) : a ∉ ρ1 ++ hid := fun hm => by
  rcases List.mem_append.mp hm with hm | hm
  · exact e.notin h (fun z => n (List.mem_append_left _ z)) hm
  · exact n (List.mem_append_right _ hm)
theorem Ext.get (e : Ext ρ H ρ1 H1) {i : Nat} {a : Addr} (h : ρ[i]? = some a) : ρ1[i]? = some a := by
  obtain ⟨n1, e1, _⟩ := e.pre
  rw [e1, List.getElem?_append_left (List.getElem?_eq_some_iff.mp h).1]
  exact h
theorem SqT.ext {K : PySem.W.Frag} {a : Addr} {vs : List V} (e : Ext ρ H ρ1 H1) (h : SqT K H a vs) : SqT K H1 a vs := by
  rcases h with (h | ⟨o, h⟩) | h
  · exact .inl (.inl (e.tup _ _ h))
  · exact .inl (.inr ⟨o, e.frz _ _ _ h⟩)
  · exact .inr h
theorem XF.ext {vs : List V} {dd : Option Addr} (e : Ext ρ H ρ1 H1) (h : XF Z ρ H vs dd) : XF Z ρ1 H1 vs dd := by
  rcases h with h | ⟨a, fs, xv, q1, q2, q3, q4, q5⟩
  · exact .inl h
  · exact .inr ⟨a, fs, xv, q1, q2, e.notin q4 q3, e.keep _ _ q3 q4, q5⟩
mutual
theorem RV.ext (e : Ext ρ H ρ1 H1) : ∀ {d : D} {v : V}, RV Z ρ H d v → RV Z ρ1 H1 d v
  | .non, _, h => h
  | .bl _, _, h => h
  | .int _, _, h => h
  | .str _, _, h => h
  | .tup xs, _, h => by
    unfold RV at h ⊢
    obtain ⟨a, vs, e1, e2, e3, e4⟩ := h
    exact ⟨a, vs, e1, SqT.ext e e2, e3, RVs.ext e e4⟩
  | .lst xs, _, h => by
    unfold RV at h ⊢
    obtain ⟨a, vs, e1, e2, e3, e4, e5⟩ := h
    exact ⟨a, vs, e1, e.keep _ _ (fun z => e3 (List.mem_append_left _ z)) e2, e.notinH e2 e3, e4, RVs.ext e e5⟩
  | .dct _, _, h => by unfold RV at h; exact h.elim
  | .ref i, _, h => by
    unfold RV at h ⊢
    obtain ⟨a, e1, e2⟩ := h
    exact ⟨a, e1, e.get e2⟩
  | .fn k, _, h => h
  | .exc c xs, _, h => by
    unfold RV at h ⊢
    obtain ⟨a, C, dd, vs, e1, e2, e3, e4, e5, e6⟩ := h
    exact ⟨a, C, dd, vs, e1, e.keep _ _ e3 e2, e.notin e2 e3, e4, RVs.ext e e5, e6.ext e⟩
  | .scr is, _, h => by
    unfold RV at h ⊢
    obtain ⟨a, e1, e2, e3⟩ := h
    refine ⟨a, e1, ?_, e3⟩
    rcases e2 with ⟨o, h⟩ | h
    · exact .inl ⟨o, e.frz _ _ _ h⟩
    · exact .inr h
theorem RVs.ext (e : Ext ρ H ρ1 H1) : ∀ {ds : List D} {vs : List V}, RVs Z ρ H ds vs → RVs Z ρ1 H1 ds vs
  | [], _, h => h
  | x :: r, _, h => by
    unfold RVs at h ⊢
    obtain ⟨v, vr, e1, e2, e3⟩ := h
    exact ⟨v, vr, e1, RV.ext e e2, RVs.ext e e3⟩
end
theorem RF.ext (e : Ext ρ H ρ1 H1) : ∀ {fs : List (Tx × D)} {l : List (Str × V)}, RF Z ρ H fs l → RF Z ρ1 H1 fs l
  | [], _, h => h
  | (f, d) :: r, _, h => by
    unfold RF at h ⊢
    obtain ⟨v, lr, e1, e2, e3⟩ := h
    exact ⟨v, lr, e1, e2.ext e, RF.ext e e3⟩
theorem RX.ext (e : Ext ρ H ρ1 H1) {c : Nat} {xs : List D} {cls : Value} {dd : Option Addr} (h : RX Z ρ H c xs cls dd) : RX Z ρ1 H1 c xs cls dd := by
  obtain ⟨C, vs, h1, h2, h3, h4⟩ := h
  exact ⟨C, vs, h1, h2, h3.ext e, h4.ext e⟩
theorem RVs.length : ∀ {ds : List D} {vs : List V}, RVs Z ρ H ds vs → vs.length = ds.length
  | [], _, h => by unfold RVs at h; rw [h]; rfl
  | x :: r, _, h => by
    unfold RVs at h
    obtain ⟨v, vr, e1, _, e3⟩ := h
    rw [e1, List.length_cons, RVs.length e3, List.length_cons]
theorem RVs.get : ∀ {ds : List D} {vs : List V} {i : Nat} {d : D}, RVs Z ρ H ds vs → ds[i]? = some d → ∃ v, vs[i]? = some v ∧ RV Z ρ H d v
  | [], _, _, _, _, h => by simp at h
  | x :: r, _, 0, d, h, h2 => by
    unfold RVs at h
    obtain ⟨v, vr, e1, e2, _⟩ := h
    simp at h2; subst h2
    exact ⟨v, by rw [e1]; rfl, e2⟩
  | x :: r, _, i + 1, d, h, h2 => by
    unfold RVs at h
    obtain ⟨v, vr, e1, _, e3⟩ := h
    obtain ⟨v', h3, h4⟩ := RVs.get (i := i) e3 (by simpa using h2)
    exact ⟨v', by rw [e1]; simpa using h3, h4⟩
theorem RVs.append : ∀ {ds es : List D} {vs ws : List V}, RVs Z ρ H ds vs → RVs Z ρ H es ws → RVs Z ρ H (ds ++ es) (vs ++ ws)
  | [], _, _, _, h, h2 => by unfold RVs at h; rw [h]; exact h2
  | x :: r, _, _, _, h, h2 => by
    unfold RVs at h
    obtain ⟨v, vr, e1, e2, e3⟩ := h
    rw [e1, List.cons_append, List.cons_append]
    exact ⟨v, _, rfl, e2, RVs.append e3 h2⟩
theorem RVs.one {d : D} {v : V} (h : RV Z ρ H d v) : RVs Z ρ H [d] [v] := ⟨v, [], rfl, h, rfl⟩
theorem RVs.take : ∀ {ds : List D} {vs : List V} (n : Nat), RVs Z ρ H ds vs → RVs Z ρ H (ds.take n) (vs.take n)
  | _, _, 0, _ => by simp [RVs]
  | [], _, n + 1, h => by unfold RVs at h; rw [h]; simp [RVs]
  | x :: r, _, n + 1, h => by
    unfold RVs at h
    obtain ⟨v, vr, e1, e2, e3⟩ := h
    rw [e1, List.take_succ_cons, List.take_succ_cons]
    exact ⟨v, _, rfl, e2, RVs.take n e3⟩
theorem RVs.drop : ∀ {ds : List D} {vs : List V} (n : Nat), RVs Z ρ H ds vs → RVs Z ρ H (ds.drop n) (vs.drop n)
  | _, _, 0, h => h
  | [], _, n + 1, h => by unfold RVs at h; rw [h]; simp [RVs]
  | x :: r, _, n + 1, h => by
    unfold RVs at h
    obtain ⟨v, vr, e1, _, e3⟩ := h
    rw [e1, List.drop_succ_cons, List.drop_succ_cons]
    exact RVs.drop n e3
theorem RVs.nil : RVs Z ρ H [] [] := rfl
theorem RVs.reverse : ∀ {ds : List D} {vs : List V}, RVs Z ρ H ds vs → RVs Z ρ H ds.reverse vs.reverse
  | [], _, h => by unfold RVs at h; rw [h]; exact RVs.nil
  | x :: r, _, h => by
    unfold RVs at h
    obtain ⟨v, vr, e1, e2, e3⟩ := h
    rw [e1, List.reverse_cons, List.reverse_cons]
    exact RVs.append (RVs.reverse e3) (RVs.one e2)
theorem RVs.set : ∀ {ds : List D} {vs : List V} {d : D} {v : V} (i : Nat), RVs Z ρ H ds vs → RV Z ρ H d v → RVs Z ρ H (ds.set i d) (vs.set i v)
  | [], _, _, _, _, h, _ => by unfold RVs at h; rw [h]; exact RVs.nil
  | x :: r, _, d, v, 0, h, q => by
    unfold RVs at h
    obtain ⟨v', vr, e1, e2, e3⟩ := h
    rw [e1]
    exact ⟨v, vr, rfl, q, e3⟩
  | x :: r, _, d, v, i + 1, h, q => by
    unfold RVs at h
    obtain ⟨v', vr, e1, e2, e3⟩ := h
    rw [e1]
    exact ⟨v', _, rfl, e2, RVs.set i e3 q⟩
theorem RVs.ints : ∀ {is : List Int}, RVs Z ρ H (is.map D.int) (is.map V.int)
  | [] => RVs.nil
  | i :: r => ⟨.int i, _, rfl, rfl, RVs.ints⟩
theorem RVs.strs : ∀ {is : List Tx}, (∀ s ∈ is, s.length ≤ line) → RVs Z ρ H (is.map D.str) ((is.map toS).map V.str)
  | [], _ => RVs.nil
  | i :: r, h => ⟨.str (toS i), _, rfl, ⟨rfl, h i List.mem_cons_self⟩, RVs.strs fun s hs => h s (List.mem_cons_of_mem _ hs)⟩
end

/-! ### what is wanted behind a step of the evaluator -/
/-- E: the wish about exceptions; Rp: how what comes is borne -/
def PO {α β : Type} (Z : Sta) (Rp : List Addr → Hp → α → β → Prop) (E : XK) (ρ : List Addr) (H : Hp) (Q : β → Hp → Prop) : O α → Prop
  | some (.ok a m') => ∀ b ρ' H', Ext ρ H ρ' H' → Rel Z ρ' H' m' → Rp ρ' H' a b → Q b H'
  | some (.ex c xs m') => ∀ cls dd ρ' H', Ext ρ H ρ' H' → Rel Z ρ' H' m' → RX Z ρ' H' c xs cls dd → E cls dd H'
  | none => False
section
variable {α β α' β' : Type} {Z : Sta} {Rp : List Addr → Hp → α → β → Prop} {Rp' : List Addr → Hp → α' → β' → Prop} {E : XK} {ρ ρ1 : List Addr} {H H1 : Hp} {Q Q' : β → Hp → Prop} {m : M}
theorem PO.ext {r : O α} (e : Ext ρ H ρ1 H1) (h : PO Z Rp E ρ H Q r) : PO Z Rp E ρ1 H1 Q r := by
  match r, h with
  | some (.ok a m'), h => exact fun b ρ' H' e' => h b ρ' H' (e.trans e')
  | some (.ex c xs m'), h => exact fun cls dd ρ' H' e' => h cls dd ρ' H' (e.trans e')
theorem PO.mono {r : O α} (hq : ∀ b H', Q b H' → Q' b H') (h : PO Z Rp E ρ H Q r) : PO Z Rp E ρ H Q' r := by
  match r, h with
  | some (.ok a m'), h => exact fun b ρ' H' e' h1 h2 => hq _ _ (h b ρ' H' e' h1 h2)
  | some (.ex c xs m'), h => exact h
/-- a step, then the rest: the step wants what the rest wants -/
theorem PO.bnd {r : O α'} {k : α' → M → O α} (h : PO Z Rp E ρ H Q (bnd r k)) :
    PO Z Rp' E ρ H (fun b H1 => ∃ a ρ1 m1, Ext ρ H ρ1 H1 ∧ Rel Z ρ1 H1 m1 ∧ Rp' ρ1 H1 a b ∧ PO Z Rp E ρ1 H1 Q (k a m1)) r := by
  match r, h with
  | some (.ok a m'), h => exact fun b ρ' H' e h1 h2 => ⟨a, ρ', m', e, h1, h2, PO.ext e h⟩
  | some (.ex c xs m'), h => exact h
theorem PO.lift {o : Option α} (h : PO Z Rp E ρ H Q (lift o m)) : ∃ a, o = some a ∧ ∀ b ρ' H', Ext ρ H ρ' H' → Rel Z ρ' H' m → Rp ρ' H' a b → Q b H' := by
  cases o with
  | none => exact h.elim
  | some a => exact ⟨a, rfl, h⟩
end
/-- the slots bear the environment -/
def RS (Z : Sta) (ρ : List Addr) (H : Hp) (Γ : Env) (σ : L2.St) : Prop := Γ.length = σ.length ∧ ∀ (i : Nat) (d : D), Γ[i]? = some (some d) → ∃ v, σ[i]? = some (some v) ∧ RV Z ρ H d v
section
variable {Z : Sta} {ρ ρ1 : List Addr} {H H1 : Hp} {Γ : Env} {σ : L2.St}
theorem RS.ext (e : Ext ρ H ρ1 H1) (h : RS Z ρ H Γ σ) : RS Z ρ1 H1 Γ σ := ⟨h.1, fun i d q => let ⟨v, q1, q2⟩ := h.2 i d q; ⟨v, q1, q2.ext e⟩⟩
theorem RS.set {d : D} {v : V} (i : Nat) (h : RS Z ρ H Γ σ) (r : RV Z ρ H d v) : RS Z ρ H (Γ.set i (some d)) (σ.set i (some v)) := by
  refine ⟨by simp [h.1], fun j e q => ?_⟩
  by_cases hj : i = j
  · subst hj
    by_cases hl : i < Γ.length
    · rw [List.getElem?_set_self hl] at q
      cases q
      exact ⟨v, by rw [List.getElem?_set_self (by rw [← h.1]; exact hl)], r⟩
    · rw [List.getElem?_eq_none (by simpa using hl)] at q; cases q
  · rw [List.getElem?_set_ne hj] at q
    obtain ⟨v', q1, q2⟩ := h.2 j e q
    exact ⟨v', by rw [List.getElem?_set_ne hj]; exact q1, q2⟩
theorem RS.unset {o : Option V} (i : Nat) (h : RS Z ρ H Γ σ) : RS Z ρ H (Γ.set i none) (σ.set i o) := by
  refine ⟨by simp [h.1], fun j e q => ?_⟩
  by_cases hj : i = j
  · subst hj
    by_cases hl : i < Γ.length
    · rw [List.getElem?_set_self hl] at q; cases q
    · rw [List.getElem?_eq_none (by simpa using hl)] at q; cases q
  · rw [List.getElem?_set_ne hj] at q
    obtain ⟨v', q1, q2⟩ := h.2 j e q
    exact ⟨v', by rw [List.getElem?_set_ne hj]; exact q1, q2⟩
theorem RS.wipe (h : RS Z ρ H Γ σ) : ∀ vs : List Nat, RS Z ρ H (Mi.wipe Γ vs) (L2.wipe σ vs)
  | [] => h
  | v :: vs => (RS.wipe h vs).unset v
end
/-- the readings -/
def iE (Z : Sta) (W : WX) (f : Env → M → O D) : TE := fun σ H Q => ∃ ρ Γ m, Rel Z ρ H m ∧ RS Z ρ H Γ σ ∧ PO Z (RV Z) (fun c d H' => W c d σ H') ρ H Q (f Γ m)
def iA (Z : Sta) (W : WX) (f : Env → M → O (List D)) : TA := fun σ H Q => ∃ ρ Γ m, Rel Z ρ H m ∧ RS Z ρ H Γ σ ∧ PO Z (RVs Z) (fun c d H' => W c d σ H') ρ H Q (f Γ m)
def iC (Z : Sta) (W : WX) (f : Env → M → O Bool) : TT := fun σ H Q => ∃ ρ Γ m, Rel Z ρ H m ∧ RS Z ρ H Γ σ ∧ PO Z (fun _ _ a b => a = b) (fun c d H' => W c d σ H') ρ H Q (f Γ m)
theorem _root_.L2.PE.imp {X : Cx} {e : Expr} {t t' : TE} (h : PE X e t) (hi : ∀ σ H Q, t' σ H Q → t σ H Q) : PE X e t' := ⟨fun pins s σ H Q I q => h.run pins s σ H Q I (hi _ _ _ q)⟩
theorem _root_.L2.PT.imp {X : Cx} {e : Expr} {t t' : TT} (h : PT X e t) (hi : ∀ σ H Q, t' σ H Q → t σ H Q) : PT X e t' := ⟨fun pins s σ H Q I q => h.run pins s σ H Q I (hi _ _ _ q)⟩
theorem _root_.L2.PA.imp {X : Cx} {e : List Expr} {t t' : TA} (h : PA X e t) (hi : ∀ σ H Q, t' σ H Q → t σ H Q) : PA X e t' := ⟨fun pos pins s σ H Q I q => h.run pos pins s σ H Q I (hi _ _ _ q)⟩
theorem _root_.L2.PS.imp {X : Cx} {e : Stmt} {t t' : TS} (h : PS X e t) (hi : ∀ D σ H, t' D σ H → t D σ H) : PS X e t' := ⟨fun pins s σ H D I q => h.run pins s σ H D I (hi _ _ _ q)⟩
theorem _root_.L2.PSs.imp {X : Cx} {e : List Stmt} {t t' : TS} (h : PSs X e t) (hi : ∀ D σ H, t' D σ H → t D σ H) : PSs X e t' := ⟨fun pins s σ H D I q => h.run pins s σ H D I (hi _ _ _ q)⟩
end Mi

end
section
set_option Elab.async false
set_option linter.all false
set_option maxRecDepth 100000
set_option maxHeartbeats 2000000
/-! Mi4: operators by values -/
namespace Mi
open PySem PySem.Spec PyProof.Rows L2 TL

theorem line_eq : line = sizeLine := by rw [sizeLine_eq]; rfl
theorem Rel.has {Z : Sta} {ρ : List Addr} {H : Hp} {m : M} (r : Rel Z ρ H m) {a : Addr} (h : a ∈ ρ) : ∃ o, H a = some o := by
  obtain ⟨i, hi, e⟩ := List.mem_iff_getElem.mp h
  have hm : i < m.length := by rw [← r.len]; exact hi
  have q := r.ob i a m[i] (by rw [← e]; exact List.getElem?_eq_getElem hi) (List.getElem?_eq_getElem hm)
  cases hx : m[i] with
  | lst xs => rw [hx] at q; obtain ⟨vs, h, _⟩ := q; exact ⟨_, h⟩
  | dct kvs => rw [hx] at q; exact q.elim
  | ins c fs => rw [hx] at q; obtain ⟨C, dx, vfs, _, h, _⟩ := q; exact ⟨_, h⟩
theorem Rel.notin {Z : Sta} {ρ : List Addr} {H : Hp} {m : M} (r : Rel Z ρ H m) {a : Addr} (h : H a = none) : a ∉ ρ := fun hm => by
  obtain ⟨o, e⟩ := r.has hm
  rw [h] at e; cases e
theorem Rel.notinH {Z : Sta} {ρ : List Addr} {H : Hp} {m : M} (r : Rel Z ρ H m) {a : Addr} (h : H a = none) : a ∉ ρ ++ Z.hid := fun hm => by
  rcases List.mem_append.mp hm with hm | hm
  · exact r.notin h hm
  · obtain ⟨_, o, e⟩ := r.hd a hm
    rw [h] at e; cases e
theorem Ext.has {ρ ρ1 : List Addr} {H H1 : Hp} (e : Ext ρ H ρ1 H1) {a : Addr} {o : HO} (h : H a = some o) : ∃ o, H1 a = some o := by
  cases q : H1 a with
  | none => rw [e.free a q] at h; cases h
  | some u => exact ⟨u, rfl⟩
theorem Rel.hd_ext {Z : Sta} {ρ ρ1 : List Addr} {H H1 : Hp} {m : M} (r : Rel Z ρ H m) (e : Ext ρ H ρ1 H1) : ∀ a ∈ Z.hid, a ∉ ρ1 ∧ ∃ o, H1 a = some o := fun a ha => by
  obtain ⟨h1, o, h2⟩ := r.hd a ha
  exact ⟨e.notin h2 h1, e.has h2⟩
theorem Ext.new {ρ : List Addr} {H : Hp} {p : Addr} {o : HO} (h : H p = none) : Ext ρ H ρ (upd H p o) := by
  have k : ∀ a u, H a = some u → upd H p o a = some u := fun a u e => by rw [upd_ne (ne_of_none e h)]; exact e
  refine ⟨⟨[], by simp, by simp⟩, fun a xs e => k _ _ e, fun a o u e => k _ _ e, fun a u _ e => k _ _ e, fun a e => ?_⟩
  cases q : H a with
  | none => rfl
  | some u => rw [k a u q] at e; cases e
theorem RO.ext {Z : Sta} {ρ ρ' : List Addr} {H H' : Hp} (e : Ext ρ H ρ' H') {a : Addr} {o : Ob} (h : H' a = H a) (r : RO Z ρ H a o) : RO Z ρ' H' a o := by
  cases o with
  | lst xs => obtain ⟨vs, h1, h2, h3⟩ := r; exact ⟨vs, h.trans h1, h2, h3.ext e⟩
  | dct kvs => exact r.elim
  | ins c fs => obtain ⟨C, dx, vfs, h0, h1, h2⟩ := r; exact ⟨C, dx, vfs, h0, h.trans h1, h2.ext e⟩
theorem Rel.same {Z : Sta} {ρ : List Addr} {H H' : Hp} {m : M} (r : Rel Z ρ H m) (e : Ext ρ H ρ H') (k : ∀ a ∈ ρ, H' a = H a) : Rel Z ρ H' m :=
  ⟨r.len, r.nd, fun i a o h1 h2 => RO.ext e (k a (List.mem_of_getElem? h1)) (r.ob i a o h1 h2), r.hd_ext e⟩
theorem Rel.new {Z : Sta} {ρ : List Addr} {H : Hp} {m : M} {p : Addr} {o : HO} (r : Rel Z ρ H m) (h : H p = none) : Rel Z ρ (upd H p o) m :=
  r.same (Ext.new h) fun a ha => upd_ne fun e => r.notin h (e ▸ ha)
/-- a value, and, of a list by value, that it is new -/
def RVF (Z : Sta) (H0 : Hp) (ρ : List Addr) (H : Hp) (d : D) (v : V) : Prop := RV Z ρ H d v ∧ ∀ xs, d = .lst xs → ∃ a, v = .ref a ∧ H0 a = none
theorem RVF.lst {Z : Sta} {ρ : List Addr} {H : Hp} {p : Addr} {ds : List D} {vs : List V} {m : M} (r : Rel Z ρ H m) (h : H p = none) (hl : ds.length ≤ line) (hv : RVs Z ρ H ds vs) : RVF Z H ρ (upd H p (.lst vs)) (.lst ds) (.ref p) := by
  refine ⟨?_, fun xs _ => ⟨p, rfl, h⟩⟩
  unfold RV
  exact ⟨p, vs, rfl, upd_same, r.notinH h, hl, hv.ext (Ext.new h)⟩
theorem RV.tupN {Z : Sta} {ρ : List Addr} {H : Hp} {p : Addr} {ds : List D} {vs : List V} (h : H p = none) (hl : ds.length ≤ line) (hv : RVs Z ρ H ds vs) : RV Z ρ (upd H p (.tup vs)) (.tup ds) (.ref p) := by
  unfold RV
  exact ⟨p, vs, rfl, .inl (.inl upd_same), hl, hv.ext (Ext.new h)⟩
section
variable {Z : Sta} {H0 : Hp} {ρ : List Addr} {H : Hp}
theorem RVF.int {i : Int} {v : V} : RVF Z H0 ρ H (.int i) v ↔ v = .int i := ⟨fun h => h.1, fun h => ⟨h, fun _ e => nomatch e⟩⟩
theorem RVF.bl {i : Bool} {v : V} : RVF Z H0 ρ H (.bl i) v ↔ v = .bl i := ⟨fun h => h.1, fun h => ⟨h, fun _ e => nomatch e⟩⟩
theorem RVF.str {i : Mi.Tx} {v : V} : RVF Z H0 ρ H (.str i) v ↔ v = .str (toS i) ∧ i.length ≤ line := ⟨fun h => h.1, fun h => ⟨h, fun _ e => nomatch e⟩⟩
theorem RV.int_inv {i : Int} {v : V} (h : RV Z ρ H (.int i) v) : v = .int i := h
theorem RV.str_inv {i : Mi.Tx} {v : V} (h : RV Z ρ H (.str i) v) : v = .str (toS i) ∧ i.length ≤ line := h
end
def op2 : O2 → Operator
  | .add => .Add | .sub => .Sub | .mul => .Mult | .fdiv => .FloorDiv | .mod => .Mod | .pow => .Pow | .band => .BitAnd | .shl => .LShift | .shr => .RShift
def rB (Z : Sta) (o : O2) : R2 := fun x y H Q => ∃ ρ m dx dy d, Rel Z ρ H m ∧ RV Z ρ H dx x ∧ RV Z ρ H dy y ∧ bin2 m o dx dy = some d ∧ ∀ v ρ' H', Ext ρ H ρ' H' → Rel Z ρ' H' m → RVF Z H ρ' H' d v → Q v H'
theorem toS_app (a b : Mi.Tx) : toS a ++ toS b = toS (a ++ b) := ext_tl (by rw [tl_append]; rfl)
theorem wide_log {a : Int} (h : wide a = true) : a.natAbs.log2 < 4000 := PySem.Flt.log2_lt_of (by decide) (of_decide_eq_true h)
theorem lst_at {Z : Sta} {ρ : List Addr} {H : Hp} {m : M} {d : D} {xs : List D} {v : V} (r : Rel Z ρ H m) (h : RV Z ρ H d v) (e : lstOf m d = some xs) : ∃ a vs, v = .ref a ∧ H a = some (.lst vs) ∧ xs.length ≤ line ∧ RVs Z ρ H xs vs := by
  cases d with
  | lst ys =>
    cases e
    unfold RV at h
    obtain ⟨a, vs, e1, e2, _, e4, e5⟩ := h
    exact ⟨a, vs, e1, e2, e4, e5⟩
  | ref i =>
    unfold RV at h
    obtain ⟨a, e1, e2⟩ := h
    have e' : (match m[i]? with | some (Ob.lst xs) => some xs | _ => none) = some xs := e
    split at e'
    · rename_i zs q
      cases e'
      obtain ⟨vs, h1, h2, h3⟩ := r.ob i a _ e2 q
      exact ⟨a, vs, e1, h1, h2, h3⟩
    · cases e'
  | _ => cases e
theorem seq_at {Z : Sta} {ρ : List Addr} {H : Hp} {m : M} {d : D} {xs : List D} {v : V} (r : Rel Z ρ H m) (h : RV Z ρ H d v) (e : seqOf m d = some xs) : ∃ a vs, v = .ref a ∧ (SqL Z.K H a vs ∨ SqT Z.K H a vs) ∧ xs.length ≤ line ∧ RVs Z ρ H xs vs := by
  cases d with
  | lst ys =>
    obtain ⟨a, vs, h1, h2, h3, h4⟩ := lst_at r h (xs := xs) e
    exact ⟨a, vs, h1, .inl (SqL.of h2), h3, h4⟩
  | ref i =>
    obtain ⟨a, vs, h1, h2, h3, h4⟩ := lst_at r h (xs := xs) e
    exact ⟨a, vs, h1, .inl (SqL.of h2), h3, h4⟩
  | tup ys =>
    cases e
    unfold RV at h
    obtain ⟨a, vs, e1, e2, e4, e5⟩ := h
    exact ⟨a, vs, e1, .inr e2, e4, e5⟩
  | scr is =>
    cases e
    unfold RV at h
    obtain ⟨a, e1, e2, e3⟩ := h
    exact ⟨a, _, e1, .inl e2.sq, by simpa using e3, RVs.ints⟩
  | _ => cases e
section
variable {X : Cx} {Z : Sta}
theorem sBin (o : O2) : OpR X (binaryOp (op2 o)) (rB Z o) := by
  intro pins s σ H x y v u Q I rx ry h
  obtain ⟨ρ, m, dx, dy, d, hr, h1, h2, hb, q⟩ := h
  have fin : ∀ {w : V}, RVF Z H ρ H d w → Q w H := fun hw => q _ ρ H Ext.refl hr hw
  have ii : ∀ {i j : Int}, dx = .int i → dy = .int j → x = .int i ∧ y = .int j := fun e1 e2 => by subst e1 e2; exact ⟨h1, h2⟩
  cases o with
  | add =>
    unfold bin2 at hb
    split at hb <;> try (rename_i z1 z2; cases z1; done)
    · cases hb
      exact op_add pins s σ H x y v u Q I rx ry ⟨_, _, h1, h2, fin (RVF.int.mpr rfl)⟩
    · split at hb
      · cases hb
        rename_i hl
        refine op_add_str pins s σ H x y v u Q I rx ry ⟨_, _, h1.1, h2.1, by rw [toS_len, toS_len, ← line_eq]; exact hl, ?_⟩
        show Q (.str (toS _ ++ toS _)) H
        rw [toS_app]
        exact fin (RVF.str.mpr ⟨rfl, by simpa using hl⟩)
      · cases hb
    · split at hb
      · rename_i a b ea eb
        split at hb
        · rename_i hl
          cases hb
          obtain ⟨l1, vs, rfl, g1, _, r1⟩ := lst_at hr h1 ea
          obtain ⟨l2, ws, rfl, g2, _, r2⟩ := lst_at hr h2 eb
          refine op_cat pins s σ H _ _ v u Q I rx ry ⟨l1, l2, vs, ws, rfl, rfl, g1, g2, by rw [r1.length, r2.length, ← line_eq]; exact hl, fun p hp => ?_⟩
          exact q _ ρ _ (Ext.new hp) (hr.new hp) (RVF.lst hr hp (by simpa using hl) (r1.append r2))
        · cases hb
      · cases hb
    all_goals first | contradiction | (cases hb; done)
  | sub =>
    cases dx <;> cases dy <;> first | (cases hb; done) | skip
    cases hb
    exact op_sub pins s σ H x y v u Q I rx ry ⟨_, _, h1, h2, fin (RVF.int.mpr rfl)⟩
  | mul =>
    cases dx <;> cases dy <;> first | (cases hb; done) | skip
    rename_i i j
    have hb' : (if (wide i && wide j) = true then some (D.int (i * j)) else none) = some d := hb
    split at hb'
    · rename_i hw
      cases hb'
      rw [Bool.and_eq_true] at hw
      have w1 := wide_log hw.1
      have w2 := wide_log hw.2
      exact op_mulW pins s σ H x y v u Q I rx ry ⟨i, j, h1, h2, (by show i.natAbs.log2 + j.natAbs.log2 < 1000000; omega), fin (RVF.int.mpr rfl)⟩
    · cases hb'
  | fdiv =>
    cases dx <;> cases dy <;> first | (cases hb; done) | skip
    rename_i i j
    have hb' : (if 0 < j ∧ wide j = true then some (D.int (i / j)) else none) = some d := hb
    split at hb'
    · rename_i hw
      cases hb'
      have w2 := wide_log hw.2
      exact op_fdivW pins s σ H x y v u Q I rx ry ⟨i, j, h1, h2, ⟨hw.1, by omega⟩, fin (RVF.int.mpr rfl)⟩
    · cases hb'
  | mod =>
    cases dx <;> cases dy <;> first | (cases hb; done) | skip
    rename_i i j
    have hb' : (if 0 < j then some (D.int (i % j)) else none) = some d := hb
    split at hb'
    · rename_i hw
      cases hb'
      exact op_mod pins s σ H x y v u Q I rx ry ⟨i, j, h1, h2, hw, fin (RVF.int.mpr rfl)⟩
    · cases hb'
  | pow =>
    cases dx <;> cases dy <;> first | (cases hb; done) | skip
    rename_i i j
    have hb' : (if 0 ≤ j ∧ j ≤ 100 ∧ wide i = true then some (D.int (i ^ j.toNat)) else none) = some d := hb
    split at hb'
    · rename_i hw
      cases hb'
      have w2 := wide_log hw.2.2
      obtain ⟨t, rfl⟩ : ∃ t, v = Value.int i t := by rw [RV.int_inv h1] at rx; exact rx
      obtain ⟨t', rfl⟩ : ∃ t, u = Value.int j t := by rw [RV.int_inv h2] at ry; exact ry
      refine PyProof.Rows.pow_int hw.1 ?_ ⟨.int (i ^ j.toNat), H, I.tok _, ⟨_, rfl⟩, fin (RVF.int.mpr rfl)⟩
      have b : Builtin.Int.intBits i ≤ i.natAbs.log2 + 1 := by
        unfold Builtin.Int.intBits
        split <;> omega
      have b2 : (Builtin.Int.intBits i : Int) ≤ 4001 := by omega
      have : (Builtin.Int.intBits i : Int) * j ≤ 4001 * 100 := Int.mul_le_mul b2 hw.2.1 hw.1 (by omega)
      omega
    · cases hb'
  | band =>
    cases dx <;> cases dy <;> first | (cases hb; done) | skip
    rename_i i j
    have hb' : (if j = 1 then some (D.int (i % 2)) else none) = some d := hb
    split at hb'
    · rename_i hw
      cases hb'
      subst hw
      have e : Builtin.bitAnd i 1 = i % 2 := by
        have := Bits.bit_at (x := i) 0
        simpa using this
      refine op_and pins s σ H x y v u Q I rx ry ⟨i, 1, h1, h2, ?_⟩
      show Q (.int (Builtin.bitAnd i 1)) H
      rw [e]
      exact fin (RVF.int.mpr rfl)
    · cases hb'
  | shl =>
    cases dx <;> cases dy <;> first | (cases hb; done) | skip
    rename_i i j
    have hb' : (if 0 ≤ j ∧ j ≤ 1000 ∧ i.natAbs < 2 ^ 64 then some (D.int (i * 2 ^ j.toNat)) else none) = some d := hb
    split at hb'
    · rename_i hw
      cases hb'
      exact op_shl pins s σ H x y v u Q I rx ry ⟨i, j, h1, h2, ⟨hw.1, by omega, hw.2.2⟩, fin (RVF.int.mpr rfl)⟩
    · cases hb'
  | shr =>
    cases dx <;> cases dy <;> first | (cases hb; done) | skip
    rename_i i j
    have hb' : (if 0 ≤ j ∧ j ≤ 1000 then some (D.int (i / 2 ^ j.toNat)) else none) = some d := hb
    split at hb'
    · rename_i hw
      cases hb'
      exact op_shr pins s σ H x y v u Q I rx ry ⟨i, j, h1, h2, hw.1, fin (RVF.int.mpr rfl)⟩
    · cases hb'
end

/-! ### == -/
mutual
def toP : D → PyData
  | .bl b => .bool b
  | .int i => .int i
  | .str s => .str (toS s)
  | .tup xs => .tuple (toPs xs)
  | .lst xs => .list (toPs xs)
  | _ => .none
def toPs : List D → List PyData
  | [] => []
  | x :: r => toP x :: toPs r
end
theorem toS_beq (s t : Mi.Tx) : (toS s == toS t) = decide (s = t) := by
  by_cases h : s = t
  · subst h; simp
  · rw [decide_eq_false h, beq_eq_false_iff_ne]
    exact fun e => h (toS_inj e)
theorem okT_ok {s : Mi.Tx} (h : okT s = true) : PyData.strOk (toS s) = true := by
  unfold PyData.strOk toS
  unfold okT at h
  rw [List.all_eq_true] at h
  simp
  intro c hc
  have := h c hc
  simp at this
  omega
mutual
theorem okd_lay : ∀ {n : Nat} {d : D}, d.okd n = true → (toP d).canLay0 = true ∧ (toP d).depth ≤ n
  | n, .non, _ => by simp [toP, PyData.canLay0, PyData.depth]
  | n, .bl _, _ => by simp [toP, PyData.canLay0, PyData.depth]
  | n, .int _, _ => by simp [toP, PyData.canLay0, PyData.depth]
  | n, .str s, h => by
    have h' : okT s = true := by cases n <;> exact h
    simp [toP, PyData.canLay0, PyData.depth, okT_ok h']
  | 0, .tup _, h => by cases h
  | 0, .lst _, h => by cases h
  | n + 1, .tup xs, h => by
    have h' : D.okdL n xs = true := h
    obtain ⟨h1, h2⟩ := okds_lay h'
    simp [toP, PyData.canLay0, PyData.depth, h1, h2]
  | n + 1, .lst xs, h => by
    have h' : D.okdL n xs = true := h
    obtain ⟨h1, h2⟩ := okds_lay h'
    simp [toP, PyData.canLay0, PyData.depth, h1, h2]
  | n, .dct _, h => by cases n <;> cases h
  | n, .ref _, h => by cases n <;> cases h
  | n, .fn _, h => by cases n <;> cases h
  | n, .exc _ _, h => by cases n <;> cases h
  | n, .scr _, h => by cases n <;> cases h
theorem okds_lay : ∀ {n : Nat} {ds : List D}, D.okdL n ds = true → PyData.canLayAll0 (toPs ds) = true ∧ PyData.depthAll (toPs ds) ≤ n
  | n, [], _ => by simp [toPs, PyData.canLayAll0, PyData.depthAll]
  | n, x :: r, h => by
    have h' : (D.okd n x && D.okdL n r) = true := by cases n <;> exact h
    rw [Bool.and_eq_true] at h'
    obtain ⟨h1, h2⟩ := okd_lay h'.1
    obtain ⟨h3, h4⟩ := okds_lay h'.2
    simp only [toPs, PyData.canLayAll0, PyData.depthAll, h1, h3, Bool.and_self, true_and]
    omega
end
mutual
theorem eqv_toP : ∀ {n k : Nat} {a b : D}, a.okd n = true → b.okd k = true → PyData.eqv (toP a) (toP b) = D.eqv a b := by
  intro n k a b ha hb
  cases a with
  | tup xs =>
    cases n with
    | zero => cases ha
    | succ n =>
    cases b with
    | tup ys =>
      cases k with
      | zero => cases hb
      | succ k =>
        simp only [toP, PyData.eqv, D.eqv]
        exact eqvs_toP (n := n) (k := k) ha hb
    | dct _ => cases k <;> cases hb
    | ref _ => cases k <;> cases hb
    | fn _ => cases k <;> cases hb
    | exc _ _ => cases k <;> cases hb
    | scr _ => cases k <;> cases hb
    | _ => simp only [toP, PyData.eqv, D.eqv]
  | lst xs =>
    cases n with
    | zero => cases ha
    | succ n =>
    cases b with
    | lst ys =>
      cases k with
      | zero => cases hb
      | succ k =>
        simp only [toP, PyData.eqv, D.eqv]
        exact eqvs_toP (n := n) (k := k) ha hb
    | dct _ => cases k <;> cases hb
    | ref _ => cases k <;> cases hb
    | fn _ => cases k <;> cases hb
    | exc _ _ => cases k <;> cases hb
    | scr _ => cases k <;> cases hb
    | _ => simp only [toP, PyData.eqv, D.eqv]
  | dct _ => cases n <;> cases ha
  | ref _ => cases n <;> cases ha
  | fn _ => cases n <;> cases ha
  | exc _ _ => cases n <;> cases ha
  | scr _ => cases n <;> cases ha
  | _ =>
    cases b with
    | dct _ => cases k <;> cases hb
    | ref _ => cases k <;> cases hb
    | fn _ => cases k <;> cases hb
    | exc _ _ => cases k <;> cases hb
    | scr _ => cases k <;> cases hb
    | _ =>
      simp only [toP, PyData.eqv, D.eqv] <;> first
        | rfl
        | (exact toS_beq _ _)
        | (rw [Bool.eq_iff_iff]; simp)
theorem eqvs_toP : ∀ {n k : Nat} {a b : List D}, D.okdL n a = true → D.okdL k b = true → PyData.eqvAll (toPs a) (toPs b) = D.eqvL a b
  | n, k, [], [], _, _ => by simp only [toPs, PyData.eqvAll, D.eqvL]
  | n, k, [], _ :: _, _, _ => by simp only [toPs, PyData.eqvAll, D.eqvL]
  | n, k, _ :: _, [], _, _ => by simp only [toPs, PyData.eqvAll, D.eqvL]
  | n, k, x :: r, y :: s, ha, hb => by
    have h1 : (D.okd n x && D.okdL n r) = true := by cases n <;> exact ha
    have h2 : (D.okd k y && D.okdL k s) = true := by cases k <;> exact hb
    rw [Bool.and_eq_true] at h1 h2
    simp only [toPs, PyData.eqvAll, D.eqvL]
    rw [eqv_toP h1.1 h2.1, eqvs_toP h1.2 h2.2]
end
end Mi

end
section
set_option Elab.async false
set_option linter.all false
set_option maxRecDepth 100000
set_option maxHeartbeats 2000000
/-! Mi5: comparisons, truth, items, slices, built-ins by values -/
namespace Mi
open PySem PySem.Spec PyProof.Rows L2 TL
section
variable {Z : Sta} {ρ : List Addr} {H : Hp} {m : M}
mutual
theorem rep_dp {g : Nat → Option D} (hg : ∀ (i : Nat) a addr (k : Nat), g i = some a → ρ[i]? = some addr → a.okd k = true → Dp Z.K H (.ref addr) (toP a)) :
    ∀ {d : D} {v : V} {a : D} {k : Nat}, D.rep g d = some a → RV Z ρ H d v → a.okd k = true → Dp Z.K H v (toP a)
  | .non, _, _, _, h, r, _ => by
    cases h; unfold RV at r; subst r; simp only [toP]; exact .non
  | .bl b, _, _, _, h, r, _ => by
    cases h; unfold RV at r; subst r; simp only [toP]; exact .bl b
  | .int i, _, _, _, h, r, _ => by
    cases h; unfold RV at r; subst r; simp only [toP]; exact .int i
  | .str s, _, _, _, h, r, _ => by
    cases h; unfold RV at r; obtain ⟨r, _⟩ := r; subst r; simp only [toP]; exact .str _
  | .ref i, _, a, k, h, r, ho => by
    unfold RV at r
    obtain ⟨addr, e1, e2⟩ := r
    subst e1
    exact hg i a addr k h e2 ho
  | .tup xs, _, a, k, h, r, ho => by
    unfold RV at r
    obtain ⟨p, vs, e1, e2, _, e4⟩ := r
    subst e1
    have h' : (D.repL g xs).map D.tup = some a := h
    obtain ⟨ys, hy, rfl⟩ := Option.map_eq_some_iff.mp h'
    cases k with
    | zero => cases ho
    | succ k =>
      simp only [toP]
      exact .tup e2 (reps_dp hg hy e4 (k := k) ho)
  | .lst xs, _, a, k, h, r, ho => by
    unfold RV at r
    obtain ⟨p, vs, e1, e2, _, _, e4⟩ := r
    subst e1
    have h' : (D.repL g xs).map D.lst = some a := h
    obtain ⟨ys, hy, rfl⟩ := Option.map_eq_some_iff.mp h'
    cases k with
    | zero => cases ho
    | succ k =>
      simp only [toP]
      exact .lst (SqL.of e2) (reps_dp hg hy e4 (k := k) ho)
  | .dct _, _, _, _, _, r, _ => by unfold RV at r; exact r.elim
  | .exc c xs, _, a, k, h, r, ho => by
    have h' : (D.repL g xs).map (D.exc c) = some a := h
    obtain ⟨ys, hy, rfl⟩ := Option.map_eq_some_iff.mp h'
    cases k <;> cases ho
  | .fn _, _, _, k, h, _, ho => by cases h; cases k <;> cases ho
  | .scr _, _, _, k, h, _, ho => by cases h; cases k <;> cases ho
theorem reps_dp {g : Nat → Option D} (hg : ∀ (i : Nat) a addr (k : Nat), g i = some a → ρ[i]? = some addr → a.okd k = true → Dp Z.K H (.ref addr) (toP a)) :
    ∀ {ds : List D} {vs : List V} {as : List D} {k : Nat}, D.repL g ds = some as → RVs Z ρ H ds vs → D.okdL k as = true → DpAll Z.K H vs (toPs as)
  | [], _, _, _, h, r, _ => by
    cases h; unfold RVs at r; subst r; simp only [toPs]; exact .nil
  | x :: r, _, as, k, h, rv, ho => by
    unfold RVs at rv
    obtain ⟨v, vr, e1, e2, e3⟩ := rv
    subst e1
    have h' : (match D.rep g x, D.repL g r with | some y, some s => some (y :: s) | _, _ => none) = some as := h
    split at h'
    · rename_i y s hy hs
      cases h'
      have ho' : (D.okd k y && D.okdL k s) = true := by cases k <;> exact ho
      rw [Bool.and_eq_true] at ho'
      simp only [toPs]
      exact .cons (rep_dp hg hy e2 ho'.1) (reps_dp hg hs e3 ho'.2)
    · cases h'
end
theorem frz_dp (r : Rel Z ρ H m) : ∀ (f i : Nat) (a : D) (addr : Addr) (k : Nat), frz m 0 f i = some a → ρ[i]? = some addr → a.okd k = true → Dp Z.K H (.ref addr) (toP a)
  | 0, _, _, _, _, h, _, _ => by cases h
  | f + 1, i, a, addr, k, h, hi, ho => by
    unfold frz at h
    rw [if_neg (Nat.not_lt_zero _)] at h
    split at h
    · rename_i xs q
      obtain ⟨ys, hy, rfl⟩ := Option.map_eq_some_iff.mp h
      obtain ⟨vs, h1, _, h3⟩ := r.ob i addr _ hi q
      cases k with
      | zero => cases ho
      | succ k =>
        simp only [toP]
        exact .lst (SqL.of h1) (reps_dp (fun i a addr k => frz_dp r f i a addr k) hy h3 (k := k) ho)
    · rename_i kvs q
      exact (r.ob i addr _ hi q).elim
    · cases h
theorem full_dp (r : Rel Z ρ H m) {d a : D} {v : V} {k : Nat} (h : full m d = some a) (hv : RV Z ρ H d v) (ho : a.okd k = true) : Dp Z.K H v (toP a) :=
  rep_dp (fun i a addr k => frz_dp r deep i a addr k) h hv ho
end
def cmpOp : C2 → CmpOp
  | .eq => .Eq | .ne => .NotEq | .lt => .Lt | .le => .LtE | .gt => .Gt | .ge => .GtE | .isin => .In | .notin => .NotIn | .is => .Is | .isnot => .IsNot
def rC (Z : Sta) (o : C2) : R2 := fun x y H Q => ∃ ρ m dx dy b, Rel Z ρ H m ∧ RV Z ρ H dx x ∧ RV Z ρ H dy y ∧ cmp2 m o dx dy = some b ∧ Q (.bl b) H
theorem shaped_of {n : Nat} {a : D} (h : a.okd n = true) (hn : n ≤ 64) : SeqAt.shaped (toP a) = true := by
  obtain ⟨h1, h2⟩ := okd_lay h
  unfold SeqAt.shaped
  rw [h1]
  simp
  omega
theorem ltT_iff : ∀ (a b : Mi.Tx), ltT a b = decide (a < b)
  | [], [] => by simp [ltT]
  | [], _ :: _ => by simp [ltT]
  | _ :: _, [] => by simp [ltT]
  | x :: r, y :: s => by
    unfold ltT
    rw [ltT_iff r s, Bool.eq_iff_iff]
    by_cases h1 : x < y
    · simp [h1, List.cons_lt_cons_iff]
    · by_cases h2 : y < x
      · simp [h1, h2, List.cons_lt_cons_iff]
        intro e; omega
      · have e : x = y := by omega
        simp [h1, e, List.cons_lt_cons_iff]
section
variable {Z : Sta} {ρ : List Addr} {H : Hp} {m : M}
def fv : D → V
  | .bl b => .bl b
  | .int i => .int i
  | .str s => .str (toS s)
  | _ => .non
theorem RV.fv {d : D} {v : V} (h : RV Z ρ H d v) (f : d.flat = true) : v = fv d := by
  cases d with
  | non => exact h
  | bl b => exact h
  | int i => exact h
  | str s => exact h.1
  | _ => cases f
theorem fv_flat {d : D} (f : d.flat = true) : flatV (fv d) = true := by
  cases d with
  | non => rfl
  | bl b => rfl
  | int i => rfl
  | str s => rfl
  | _ => cases f
theorem fv_eqv : ∀ {a b : D}, a.flat = true → b.flat = true → eqV (fv a) (fv b) = D.eqv a b := by
  intro a b f1 f2
  cases a <;> first | (cases f1; done) | skip
  all_goals cases b <;> first | (cases f2; done) | skip
  all_goals
    simp only [eqV, D.eqv, fv] <;> first
      | rfl
      | (exact toS_beq _ _)
      | (rw [Bool.eq_iff_iff]; simp)
theorem eqD_scal {dx dy : D} {x y : V} {b : Bool} (h1 : RV Z ρ H dx x) (h2 : RV Z ρ H dy y) (f : (dx.flat && dy.flat) = true) (h : eqD m dx dy = some b) : scal x y = true ∧ decide (x = y) = b := by
  unfold eqD at h
  rw [if_pos f] at h
  rw [Bool.and_eq_true] at f
  obtain ⟨f1, f2⟩ := f
  rw [h1.fv f1, h2.fv f2]
  cases dx <;> first | (cases f1; done) | skip
  all_goals cases dy <;> first | (cases f2; done) | skip
  all_goals first | (cases h; done) | skip
  all_goals
    simp only [D.eqv, Option.some.injEq] at h
    subst h
    refine ⟨rfl, ?_⟩
    simp only [fv]
    first
      | rfl
      | (rw [Bool.eq_iff_iff]; simp; done)
      | (rw [Bool.eq_iff_iff]; simp; exact ⟨fun e => toS_inj e, fun e => by rw [e]⟩)
theorem flats {ds : List D} {vs : List V} : RVs Z ρ H ds vs → ds.all D.flat = true → vs.all flatV = true ∧ ∀ {x : D} {u : V}, RV Z ρ H x u → x.flat = true → inV u vs = ds.any fun z => D.eqv z x := by
  induction ds generalizing vs with
  | nil => intro h _; unfold RVs at h; subst h; exact ⟨rfl, fun _ _ => rfl⟩
  | cons d r ih =>
    intro h hf
    unfold RVs at h
    obtain ⟨v, vr, e1, e2, e3⟩ := h
    subst e1
    rw [List.all_cons, Bool.and_eq_true] at hf
    obtain ⟨i1, i2⟩ := ih e3 hf.2
    refine ⟨?_, fun {x u} hx fx => ?_⟩
    · rw [List.all_cons, i1, Bool.and_true, e2.fv hf.1]
      exact fv_flat hf.1
    · have := i2 hx fx
      unfold inV at this ⊢
      rw [List.any_cons, List.any_cons, this, e2.fv hf.1, hx.fv fx, fv_eqv hf.1 fx]
end
section
variable {X : Cx} {Z : Sta}
theorem isNon {ρ : List Addr} {H : Hp} {d : D} {v : V} (h : RV Z ρ H d v) : v = .non ↔ d = .non := by
  cases d with
  | non => exact ⟨fun _ => rfl, fun _ => h⟩
  | bl b => unfold RV at h; subst h; simp
  | int b => unfold RV at h; subst h; simp
  | str b => unfold RV at h; rw [h.1]; simp
  | tup b => unfold RV at h; obtain ⟨a, vs, e, _⟩ := h; subst e; simp
  | lst b => unfold RV at h; obtain ⟨a, vs, e, _⟩ := h; subst e; simp
  | dct b => unfold RV at h; exact h.elim
  | ref b => unfold RV at h; obtain ⟨a, e, _⟩ := h; subst e; simp
  | fn b => unfold RV at h; obtain ⟨a, e, _⟩ := h; subst e; simp
  | exc b c => unfold RV at h; obtain ⟨a, _, _, _, e, _⟩ := h; subst e; simp
  | scr b => unfold RV at h; obtain ⟨a, e, _⟩ := h; subst e; simp
theorem kvsOf_none {ρ : List Addr} {H : Hp} {m : M} {d : D} {v : V} (r : Rel Z ρ H m) (h : RV Z ρ H d v) : kvsOf m d = none := by
  cases d with
  | dct _ => unfold RV at h; exact h.elim
  | ref i =>
    unfold RV at h
    obtain ⟨a, _, e2⟩ := h
    show (match m[i]? with | some (Ob.dct kvs) => some kvs | _ => none) = none
    split
    · rename_i kvs q
      exact (r.ob i a _ e2 q).elim
    · rfl
  | _ => rfl
theorem sIn {ρ : List Addr} {m : M} {dx dy : D} {b : Bool} {x y : V} {H : Hp} (hr : Rel Z ρ H m) (h1 : RV Z ρ H dx x) (h2 : RV Z ρ H dy y) (h : isIn m dx dy = some b) (neg : Bool) :
    (∃ c j, x = .str (toS [c]) ∧ y = .str (toS j) ∧ b = j.contains c) ∨
    ∃ p xs, y = .ref p ∧ (SqL Z.K H p xs ∨ SqT Z.K H p xs) ∧ flatV x = true ∧ xs.all flatV = true ∧ inV x xs = b := by
  unfold isIn at h
  split at h
  · rename_i t
    split at h
    · rename_i c
      cases h
      exact .inl ⟨c, t, h1.1, h2.1, rfl⟩
    · cases h
  · rw [kvsOf_none hr h2] at h
    dsimp only at h
    split at h
    · rename_i ys hy
      split at h
      · rename_i hf
        rw [Bool.and_eq_true] at hf
        cases h
        obtain ⟨a, vs, e1, e2, _, e4⟩ := seq_at hr h2 hy
        obtain ⟨g1, g2⟩ := flats e4 hf.2
        refine .inr ⟨a, vs, e1, e2, ?_, g1, g2 h1 hf.1⟩
        rw [h1.fv hf.1]
        exact fv_flat hf.1
      · cases h
    · cases h
theorem sCmp (hu : X.A.units + 64 < cLine) (o : C2) (hk : X.K = Z.K) : OpR X (compareOp (cmpOp o)) (rC Z o) := by
  intro pins s σ H x y v u Q I rx ry h
  obtain ⟨ρ, m, dx, dy, b, hr, h1, h2, hb, q⟩ := h
  have heq : ∀ {c : Bool}, eqD m dx dy = some c → Q (.bl c) H → wpAny (model X.prog X.w) X.A (compareOp .Eq v u) (EP X pins σ Q) X.xe s := fun {c} hb q => by
    by_cases f : (dx.flat && dy.flat) = true
    · obtain ⟨e1, e2⟩ := eqD_scal h1 h2 f hb
      exact op_eq pins s σ H x y v u Q I rx ry ⟨e1, by rw [e2]; exact q⟩
    · unfold eqD at hb
      rw [if_neg f] at hb
      split at hb
      · rename_i a c' ha hc
        split at hb
        · rename_i ok
          rw [Bool.and_eq_true] at ok
          cases hb
          refine op_eqD hu pins s σ H x y v u Q I rx ry ⟨toP a, toP c', ?_, ?_, shaped_of ok.1 (by omega), shaped_of ok.2 (by omega), ?_⟩
          · rw [hk]; exact full_dp hr ha h1 ok.1
          · rw [hk]; exact full_dp hr hc h2 ok.2
          · rw [eqv_toP ok.1 ok.2]; exact q
        · cases hb
      · cases hb
  have hne : ∀ {c : Bool}, eqD m dx dy = some c → Q (.bl (!c)) H → wpAny (model X.prog X.w) X.A (compareOp .NotEq v u) (EP X pins σ Q) X.xe s := fun {c} hb q => by
    by_cases f : (dx.flat && dy.flat) = true
    · obtain ⟨e1, e2⟩ := eqD_scal h1 h2 f hb
      exact op_ne pins s σ H x y v u Q I rx ry ⟨e1, by rw [e2]; exact q⟩
    · unfold eqD at hb
      rw [if_neg f] at hb
      split at hb
      · rename_i a c' ha hc
        split at hb
        · rename_i ok
          rw [Bool.and_eq_true] at ok
          cases hb
          refine op_neD hu pins s σ H x y v u Q I rx ry ⟨toP a, toP c', ?_, ?_, shaped_of ok.1 (by omega), shaped_of ok.2 (by omega), ?_⟩
          · rw [hk]; exact full_dp hr ha h1 ok.1
          · rw [hk]; exact full_dp hr hc h2 ok.2
          · rw [eqv_toP ok.1 ok.2]; exact q
        · cases hb
      · cases hb
  cases o with
  | eq => exact heq hb q
  | ne =>
    obtain ⟨c, hc, e⟩ := Option.map_eq_some_iff.mp (show (eqD m dx dy).map (fun c => !c) = some b from hb)
    subst e
    exact hne hc q
  | lt =>
    cases dx <;> cases dy <;> first | (cases hb; done) | skip
    · cases hb
      exact op_lt pins s σ H x y v u Q I rx ry ⟨_, _, h1, h2, q⟩
    · cases hb
      rw [ltT_iff] at q
      exact op_lt_str pins s σ H x y v u Q I rx ry ⟨_, _, h1.1, h2.1, q⟩
  | gt =>
    cases dx <;> cases dy <;> first | (cases hb; done) | skip
    · cases hb
      exact op_gt pins s σ H x y v u Q I rx ry ⟨_, _, h1, h2, q⟩
    · cases hb
      rw [ltT_iff] at q
      exact op_gt_str pins s σ H x y v u Q I rx ry ⟨_, _, h1.1, h2.1, q⟩
  | le =>
    cases dx <;> cases dy <;> first | (cases hb; done) | skip
    · rename_i i j
      have e : (!decide (j < i)) = b := Option.some.inj hb
      have e2 : decide (i ≤ j) = b := by rw [← e, Bool.eq_iff_iff]; simp
      exact op_le pins s σ H x y v u Q I rx ry ⟨_, _, h1, h2, by show Q (.bl (decide (i ≤ j))) H; rw [e2]; exact q⟩
    · rename_i i j
      have e : (!ltT j i) = b := Option.some.inj hb
      rw [ltT_iff] at e
      exact op_le_str pins s σ H x y v u Q I rx ry ⟨_, _, h1.1, h2.1, by rw [← e] at q; exact q⟩
  | ge =>
    cases dx <;> cases dy <;> first | (cases hb; done) | skip
    · rename_i i j
      have e : (!decide (i < j)) = b := Option.some.inj hb
      have e2 : decide (j ≤ i) = b := by rw [← e, Bool.eq_iff_iff]; simp
      exact op_ge pins s σ H x y v u Q I rx ry ⟨_, _, h1, h2, by show Q (.bl (decide (j ≤ i))) H; rw [e2]; exact q⟩
    · rename_i i j
      have e : (!ltT i j) = b := Option.some.inj hb
      rw [ltT_iff] at e
      exact op_ge_str pins s σ H x y v u Q I rx ry ⟨_, _, h1.1, h2.1, by rw [← e] at q; exact q⟩
  | isin =>
    rcases sIn hr h1 h2 hb false with ⟨c, j, e1, e2, e3⟩ | ⟨p, xs, e1, e2, e3, e4, e5⟩
    · subst e1 e2 e3
      refine op_in_sign pins s σ H _ _ v u Q I rx ry ⟨c, toS j, rfl, rfl, ?_⟩
      have e : decide (c ∈ (toS j).cps.toList) = j.contains c := by
        rw [Bool.eq_iff_iff]
        simp [toS]
        exact decide_eq_true_iff
      rw [e]; exact q
    · subst e1 e5
      exact op_in_seq pins s σ H _ _ v u Q I rx ry ⟨p, xs, rfl, by rw [hk]; exact e2, e3, e4, q⟩
  | notin =>
    obtain ⟨c, hc, e⟩ := Option.map_eq_some_iff.mp (show (isIn m dx dy).map (fun c => !c) = some b from hb)
    subst e
    rcases sIn hr h1 h2 hc false with ⟨c, j, e1, e2, e3⟩ | ⟨p, xs, e1, e2, e3, e4, e5⟩
    · subst e1 e2 e3
      refine op_notIn_sign pins s σ H _ _ v u Q I rx ry ⟨c, toS j, rfl, rfl, ?_⟩
      have e : decide (c ∈ (toS j).cps.toList) = j.contains c := by
        rw [Bool.eq_iff_iff]
        simp [toS]
        exact decide_eq_true_iff
      rw [e]; exact q
    · subst e1 e5
      exact op_notIn_seq pins s σ H _ _ v u Q I rx ry ⟨p, xs, rfl, by rw [hk]; exact e2, e3, e4, q⟩
  | is =>
    cases dy <;> first | (cases hb; done) | skip
    have e : decide (dx = .non) = b := Option.some.inj hb
    refine op_isN pins s σ H x y v u Q I rx ry ⟨h2, ?_⟩
    rw [show decide (x = .non) = b from ?_]; exact q
    rw [← e, Bool.eq_iff_iff, decide_eq_true_eq, decide_eq_true_eq]
    exact isNon h1
  | isnot =>
    cases dy <;> first | (cases hb; done) | skip
    have e : (!decide (dx = .non)) = b := Option.some.inj hb
    refine op_notN pins s σ H x y v u Q I rx ry ⟨h2, ?_⟩
    rw [show (!decide (x = .non)) = b from ?_]; exact q
    rw [← e]
    congr 1
    rw [Bool.eq_iff_iff, decide_eq_true_eq, decide_eq_true_eq]
    exact isNon h1
end
end Mi

end
section
set_option Elab.async false
set_option linter.all false
set_option maxRecDepth 100000
set_option maxHeartbeats 2000000
/-! Mi6: truth, items, slices, built-ins by values -/
namespace Mi
open PySem PySem.Spec PyProof.Rows L2 TL
theorem line_le {n : Nat} (h : n ≤ line) : n ≤ sizeLine := by rw [← line_eq]; exact h
section
variable {Z : Sta} {ρ : List Addr} {H : Hp} {m : M}
theorem RV.rec_len {d : D} {v : V} (h : RV Z ρ H d v) (r : Rel Z ρ H m) {n : Nat} (e : lenOf m d = some n) : LenV Z.K v H n := by
  cases d with
  | str s =>
    cases e
    rw [h.1]
    exact ⟨by rw [toS_len]; exact line_le h.2, (toS_len s).symm⟩
  | tup xs =>
    cases e
    unfold RV at h
    obtain ⟨a, vs, e1, e2, _, e4⟩ := h
    subst e1
    exact .inr ⟨vs, e2, e4.length.symm⟩
  | lst xs =>
    cases e
    unfold RV at h
    obtain ⟨a, vs, e1, e2, _, _, e4⟩ := h
    subst e1
    exact .inl ⟨vs, SqL.of e2, e4.length.symm⟩
  | scr xs =>
    cases e
    unfold RV at h
    obtain ⟨a, e1, e2, _⟩ := h
    subst e1
    exact .inl ⟨_, e2.sq, by simp⟩
  | dct xs => unfold RV at h; exact h.elim
  | ref i =>
    unfold RV at h
    obtain ⟨a, e1, e2⟩ := h
    subst e1
    have e' : (match m[i]? with | some (Ob.lst xs) => some xs.length | some (Ob.dct kvs) => some kvs.length | _ => none) = some n := e
    split at e'
    · rename_i xs q
      cases e'
      obtain ⟨vs, h1, _, h3⟩ := r.ob i a _ e2 q
      exact .inl ⟨vs, SqL.of h1, h3.length.symm⟩
    · rename_i q
      exact (r.ob i a _ e2 q).elim
    · cases e'
  | _ => cases e
theorem truth_ok {d : D} {v : V} (h : RV Z ρ H d v) (r : Rel Z ρ H m) {b : Bool} (e : truth m d = some b) : TruV Z.K v H b := by
  have key : ∀ {n : Nat}, lenOf m d = some n → LenV Z.K v H n → TruV Z.K v H (decide (n ≠ 0)) := fun {n} _ hl => by
    cases v with
    | str y =>
      obtain ⟨h1, h2⟩ := hl
      refine ⟨h1, ?_⟩
      rw [h2, Bool.eq_iff_iff]
      simp
    | byt y =>
      obtain ⟨h1, h2⟩ := hl
      refine ⟨h1, ?_⟩
      rw [h2, Bool.eq_iff_iff]
      simp
    | ref p =>
      rcases hl with ⟨xs, h1, h2⟩ | ⟨xs, h1, h2⟩
      · refine .inl ⟨xs, h1, ?_⟩
        rw [h2, Bool.eq_iff_iff]
        cases xs <;> simp
      · refine .inr (.inl ⟨xs, h1, ?_⟩)
        rw [h2, Bool.eq_iff_iff]
        cases xs <;> simp
    | _ => exact hl.elim
  cases d with
  | non => cases e; unfold RV at h; subst h; rfl
  | bl b => cases e; unfold RV at h; subst h; rfl
  | int i =>
    cases e; unfold RV at h; subst h
    show decide (i ≠ 0) = (i != 0)
    rw [Bool.eq_iff_iff]; simp
  | _ =>
    unfold truth at e
    obtain ⟨n, e1, e2⟩ := Option.map_eq_some_iff.mp e
    rw [← e2]
    exact key e1 (RV.rec_len h r e1)
theorem ix_eq (n : Nat) (i : Int) : ix n i = ixN n i := by
  unfold ix ixN
  by_cases h0 : 0 ≤ i
  · by_cases h1 : i < n
    · rw [if_pos ⟨h0, h1⟩, if_pos h0, if_pos h1]
    · rw [if_neg (fun z => h1 z.2), if_pos h0, if_neg h1, if_neg (fun z => by omega)]
  · rw [if_neg (fun z => h0 z.1), if_neg h0]
    by_cases h1 : -(n : Int) ≤ i
    · rw [if_pos ⟨by omega, h1⟩, if_pos h1]
    · rw [if_neg (fun z => h1 z.2), if_neg h1]
theorem item_ok {dx dy d : D} {x y : V} (r : Rel Z ρ H m) (h1 : RV Z ρ H dx x) (h2 : RV Z ρ H dy y) (e : item m dx dy = some d) {Q : VK} (q : ∀ v, RV Z ρ H d v → Q v H) : rIx Z.K x y H Q := by
  unfold item at e
  rw [kvsOf_none r h1] at e
  dsimp only at e
  split at e
  · rename_i s k
    obtain ⟨j, e1, e2⟩ := Option.bind_eq_some_iff.mp e
    obtain ⟨c, e3, e4⟩ := Option.map_eq_some_iff.mp e2
    refine .inr (.inr ⟨toS s, k, c, h1.1, h2, by rw [toS_len]; exact line_le h1.2, ?_, q _ ?_⟩)
    · show (ixN s.length k).bind (fun j => s[j]?) = some c
      rw [← ix_eq, e1]
      exact e3
    · rw [← e4]
      exact ⟨rfl, by show 1 ≤ line; decide⟩
  · rename_i k _
    obtain ⟨xs, e1, e2⟩ := Option.bind_eq_some_iff.mp e
    obtain ⟨j, e3, e4⟩ := Option.bind_eq_some_iff.mp e2
    obtain ⟨a, vs, g1, g2, _, g4⟩ := seq_at r h1 e1
    obtain ⟨v, g5, g6⟩ := g4.get e4
    have at_ : atI vs k = some v := by
      show (ixN vs.length k).bind (fun j => vs[j]?) = some v
      rw [← ix_eq, g4.length, e3]
      exact g5
    rcases g2 with g2 | g2
    · exact .inl ⟨a, vs, k, v, g1, h2, g2, at_, q v g6⟩
    · exact .inr (.inl ⟨a, vs, k, v, g1, h2, g2, at_, q v g6⟩)
  · cases e
theorem lseq_at {d : D} {xs : List D} {v : V} (r : Rel Z ρ H m) (h : RV Z ρ H d v) (e : lseqOf m d = some xs) : ∃ a vs, v = .ref a ∧ SqL Z.K H a vs ∧ xs.length ≤ line ∧ RVs Z ρ H xs vs := by
  cases d with
  | scr is =>
    cases e
    unfold RV at h
    obtain ⟨a, e1, e2, e3⟩ := h
    exact ⟨a, _, e1, e2.sq, by simpa using e3, RVs.ints⟩
  | _ =>
    obtain ⟨a, vs, h1, h2, h3, h4⟩ := lst_at r h (xs := xs) e
    exact ⟨a, vs, h1, SqL.of h2, h3, h4⟩
/-- the part of a slice -/
def prt : D → Option Int
  | .int i => some i
  | _ => none
theorem clip_ok {n d : Nat} {x : D} {k : Nat} (e : clip n d x = some k) : HT.sIx n d (prt x) = k := by
  cases x with
  | non => cases e; rfl
  | int i => cases e; rfl
  | _ => cases e
theorem cut_eq {α : Type} (xs : List α) (a b : Nat) : cut xs a b = (xs.drop a).take (b - a) := by
  unfold cut; rw [List.drop_take]
theorem cut_len {α : Type} (xs : List α) (a b : Nat) : (cut xs a b).length ≤ xs.length := by
  unfold cut; rw [List.length_drop, List.length_take]; omega
theorem RVs.cut {ds : List D} {vs : List V} (a b : Nat) (h : RVs Z ρ H ds vs) : RVs Z ρ H (Mi.cut ds a b) (Mi.cut vs a b) := (h.take b).drop a
theorem slice_ok {dx lo hi d : D} {x : V} (r : Rel Z ρ H m) (h1 : RV Z ρ H dx x) (e : slice m dx lo hi = some d) {Q : VK} (q : ∀ v ρ' H', Ext ρ H ρ' H' → Rel Z ρ' H' m → RVF Z H ρ' H' d v → Q v H') :
    rSlS x (prt lo) (prt hi) H Q ∨ rSlA Z.K x (prt lo) (prt hi) H Q ∨ (∃ a xs, x = .ref a ∧ SqL Z.K H a xs ∧ ∀ p, H p = none → Q (.ref p) (upd H p (.lst (cutV xs (prt lo) (prt hi))))) := by
  unfold slice at e
  split at e
  · rename_i s
    split at e
    · rename_i a b ea eb
      cases e
      refine .inl ⟨toS s, h1.1, by rw [toS_len]; exact line_le h1.2, ?_⟩
      have ec : cutS (toS s) (prt lo) (prt hi) = toS (cut s a b) := by
        refine ext_tl ?_
        have f1 := clip_ok ea
        have f2 := clip_ok eb
        show tl (cutS (toS s) (prt lo) (prt hi)) = cut s a b
        unfold cutS
        rw [cut_eq, ← f1, ← f2]
        simp [toS, Str.length]
      rw [ec]
      exact q _ ρ H Ext.refl r (RVF.str.mpr ⟨rfl, Nat.le_trans (cut_len _ _ _) h1.2⟩)
    · cases e
  · rename_i s
    split at e
    · rename_i a b ea eb
      cases e
      unfold RV at h1
      obtain ⟨p, vs, e1, e2, e3, e4⟩ := h1
      have f1 := clip_ok ea
      have f2 := clip_ok eb
      rw [← e4.length] at f1 f2
      have ec : cutV vs (prt lo) (prt hi) = cut vs a b := by
        unfold cutV
        rw [f1, f2, cut_eq]
      refine .inr (.inl ⟨p, vs, e1, e2, fun w => ?_, fun _ t ht => ?_⟩)
      · refine q _ ρ H Ext.refl r ⟨?_, fun _ z => nomatch z⟩
        have z1 : a = 0 := f1.symm.trans w.1
        have z2 : b = vs.length := f2.symm.trans w.2
        have : cut s a b = s := by
          rw [z1, z2, e4.length]
          unfold cut
          simp
        rw [this]
        unfold RV
        exact ⟨p, vs, rfl, e2, e3, e4⟩
      · rw [ec]
        exact q _ ρ _ (Ext.new ht) (r.new ht) ⟨RV.tupN ht (Nat.le_trans (cut_len _ _ _) e3) (e4.cut a b), fun _ z => nomatch z⟩
    · cases e
  · split at e
    · rename_i s es
      split at e
      · rename_i a b ea eb
        cases e
        obtain ⟨p, vs, e1, e2, e3, e4⟩ := lseq_at r h1 es
        have f1 := clip_ok ea
        have f2 := clip_ok eb
        rw [← e4.length] at f1 f2
        have ec : cutV vs (prt lo) (prt hi) = cut vs a b := by
          unfold cutV
          rw [f1, f2, cut_eq]
        refine .inr (.inr ⟨p, vs, e1, e2, fun t ht => ?_⟩)
        rw [ec]
        exact q _ ρ _ (Ext.new ht) (r.new ht) (RVF.lst r ht (Nat.le_trans (cut_len _ _ _) e3) (e4.cut a b))
      · cases e
    · cases e
end
end Mi

end
section
set_option Elab.async false
set_option linter.all false
set_option maxRecDepth 100000
set_option maxHeartbeats 2000000
/-! Mi7: built-ins and methods of built-in types by values -/
namespace Mi
open PySem PySem.Spec PyProof.Rows L2 TL
section
variable {Z : Sta} {ρ : List Addr} {H : Hp} {m : M}
/-- an object of ours is changed -/
theorem Ext.upd {a : Addr} {o u : HO} (ha : a ∈ ρ) (h : H a = some u) (ht : ∀ xs, u ≠ .tup xs) (hf : ∀ ob w, u ≠ .frz ob w) : Ext ρ H ρ (upd H a o) := by
  refine ⟨⟨[], by simp, by simp⟩, fun b xs e => ?_, fun b ob w e => ?_, fun b w hb e => ?_, fun b e => ?_⟩
  · rw [upd_ne]; exact e
    intro z; subst z; rw [h] at e; exact ht xs (Option.some.inj e)
  · rw [upd_ne]; exact e
    intro z; subst z; rw [h] at e; exact hf ob w (Option.some.inj e)
  · rw [upd_ne]; exact e
    intro z; subst z; exact hb ha
  · by_cases z : b = a
    · subst z; rw [upd_same] at e; cases e
    · rw [upd_ne z] at e; exact e
theorem Rel.set {i : Nat} {a : Addr} {o : HO} {ob : Ob} (r : Rel Z ρ H m) (hi : ρ[i]? = some a) (e : Ext ρ H ρ (L2.upd H a o)) (hn : RO Z ρ (L2.upd H a o) a ob) : Rel Z ρ (L2.upd H a o) (m.set i ob) := by
  refine ⟨by rw [List.length_set]; exact r.len, r.nd, fun j b q h1 h2 => ?_, r.hd_ext e⟩
  by_cases hj : i = j
  · subst hj
    rw [hi] at h1; cases h1
    have hl : i < m.length := by rw [← r.len]; exact (List.getElem?_eq_some_iff.mp hi).1
    rw [List.getElem?_set_self hl] at h2
    cases h2
    exact hn
  · rw [List.getElem?_set_ne hj] at h2
    have hb : b ≠ a := fun z => by
      subst z
      obtain ⟨l1, e1⟩ := List.getElem?_eq_some_iff.mp h1
      obtain ⟨l2, e2⟩ := List.getElem?_eq_some_iff.mp hi
      exact hj ((List.getElem_inj r.nd).mp (e2.trans e1.symm))
    exact RO.ext e (upd_ne hb) (r.ob j b q h1 h2)
theorem ref_at {i : Nat} {xs : List D} {v : V} (r : Rel Z ρ H m) (h : RV Z ρ H (.ref i) v) (e : m[i]? = some (Ob.lst xs)) : ∃ a vs, v = .ref a ∧ ρ[i]? = some a ∧ H a = some (.lst vs) ∧ xs.length ≤ line ∧ RVs Z ρ H xs vs := by
  unfold RV at h
  obtain ⟨a, e1, e2⟩ := h
  obtain ⟨vs, h1, h2, h3⟩ := r.ob i a _ e2 e
  exact ⟨a, vs, e1, e2, h1, h2, h3⟩
theorem Rel.setL {i : Nat} {a : Addr} {vs ws : List V} {ys : List D} (r : Rel Z ρ H m) (hi : ρ[i]? = some a) (h : H a = some (.lst vs)) (hl : ys.length ≤ line) (hv : RVs Z ρ H ys ws) :
    Ext ρ H ρ (L2.upd H a (.lst ws)) ∧ Rel Z ρ (L2.upd H a (.lst ws)) (m.set i (.lst ys)) := by
  have e : Ext ρ H ρ (L2.upd H a (.lst ws)) := Ext.upd (List.mem_of_getElem? hi) h (fun _ z => nomatch z) (fun _ _ z => nomatch z)
  exact ⟨e, r.set hi e ⟨ws, upd_same, hl, hv.ext e⟩⟩
end
/-- the reading of a built-in -/
def rBi (Z : Sta) (b : Bi) : List V → Hp → VK → Prop := fun vs H Q => ∃ ρ m ds d, Rel Z ρ H m ∧ RVs Z ρ H ds vs ∧ evBi m b ds = some d ∧ ∀ v ρ' H', Ext ρ H ρ' H' → Rel Z ρ' H' m → RVF Z H ρ' H' d v → Q v H'
def biVal : Bi → Value
  | .abs => .builtin "abs" | .all => .builtin "all" | .any => .builtin "any" | .int => .type "int" | .len => .builtin "len" | .max1 => .builtin "max" | .max2 => .builtin "max"
  | .min1 => .builtin "min" | .min2 => .builtin "min" | .str => .type "str" | .sum => .builtin "sum"
/-- what is shown of them so far -/
def biOk : Bi → Bool
  | .abs | .all | .any | .len | .max2 | .min2 | .str | .sum | .int => true
  | _ => false
section
variable {Z : Sta} {ρ : List Addr} {H : Hp}
theorem RVs.one_inv {d : D} {vs : List V} (h : RVs Z ρ H [d] vs) : ∃ v, vs = [v] ∧ RV Z ρ H d v := by
  unfold RVs at h
  obtain ⟨v, vr, e1, e2, e3⟩ := h
  unfold RVs at e3
  subst e3
  exact ⟨v, e1, e2⟩
theorem RVs.two_inv {d e : D} {vs : List V} (h : RVs Z ρ H [d, e] vs) : ∃ v w, vs = [v, w] ∧ RV Z ρ H d v ∧ RV Z ρ H e w := by
  unfold RVs at h
  obtain ⟨v, vr, e1, e2, e3⟩ := h
  obtain ⟨w, rfl, e4⟩ := RVs.one_inv e3
  exact ⟨v, w, e1, e2, e4⟩
theorem RVs.zero_inv {vs : List V} (h : RVs Z ρ H [] vs) : vs = [] := h
theorem RVs.bools : ∀ {ds : List D} {vs : List V} {bs : List Bool}, RVs Z ρ H ds vs → asB ds = some bs → vs = bs.map V.bl
  | [], _, _, h, e => by cases e; exact h
  | .bl b :: r, _, bs, h, e => by
    obtain ⟨t, e1, rfl⟩ := Option.map_eq_some_iff.mp (show (asB r).map (b :: ·) = some bs from e)
    unfold RVs at h
    obtain ⟨v, vr, q1, q2, q3⟩ := h
    rw [q1, show v = .bl b from q2, RVs.bools q3 e1]
    rfl
  | .non :: _, _, _, _, e | .int _ :: _, _, _, _, e | .str _ :: _, _, _, _, e | .tup _ :: _, _, _, _, e | .lst _ :: _, _, _, _, e | .dct _ :: _, _, _, _, e | .ref _ :: _, _, _, _, e | .fn _ :: _, _, _, _, e | .exc _ _ :: _, _, _, _, e | .scr _ :: _, _, _, _, e => by cases e
theorem RVs.ints_of : ∀ {ds : List D} {vs : List V} {bs : List Int}, RVs Z ρ H ds vs → asI ds = some bs → vs = bs.map V.int
  | [], _, _, h, e => by cases e; exact h
  | .int b :: r, _, bs, h, e => by
    obtain ⟨t, e1, rfl⟩ := Option.map_eq_some_iff.mp (show (asI r).map (b :: ·) = some bs from e)
    unfold RVs at h
    obtain ⟨v, vr, q1, q2, q3⟩ := h
    rw [q1, show v = .int b from q2, RVs.ints_of q3 e1]
    rfl
  | .non :: _, _, _, _, e | .bl _ :: _, _, _, _, e | .str _ :: _, _, _, _, e | .tup _ :: _, _, _, _, e | .lst _ :: _, _, _, _, e | .dct _ :: _, _, _, _, e | .ref _ :: _, _, _, _, e | .fn _ :: _, _, _, _, e | .exc _ _ :: _, _, _, _, e | .scr _ :: _, _, _, _, e => by cases e
theorem RVs.strs_of : ∀ {ds : List D} {vs : List V} {ts : List Mi.Tx}, RVs Z ρ H ds vs → asT ds = some ts → vs = (ts.map toS).map V.str
  | [], _, _, h, e => by cases e; exact h
  | .str b :: r, _, bs, h, e => by
    obtain ⟨t, e1, rfl⟩ := Option.map_eq_some_iff.mp (show (asT r).map (b :: ·) = some bs from e)
    unfold RVs at h
    obtain ⟨v, vr, q1, q2, q3⟩ := h
    rw [q1, show v = .str (toS b) from q2.1, RVs.strs_of q3 e1]
    rfl
  | .non :: _, _, _, _, e | .bl _ :: _, _, _, _, e | .int _ :: _, _, _, _, e | .tup _ :: _, _, _, _, e | .lst _ :: _, _, _, _, e | .dct _ :: _, _, _, _, e | .ref _ :: _, _, _, _, e | .fn _ :: _, _, _, _, e | .exc _ _ :: _, _, _, _, e | .scr _ :: _, _, _, _, e => by cases e
end
theorem sumI_eq (xs : List Int) : sumI xs = xs.sum := by
  have : ∀ (xs : List Int) (a : Int), xs.foldl (· + ·) a = a + xs.sum := fun xs => by
    induction xs with
    | nil => intro a; simp
    | cons x r ih => intro a; rw [List.foldl_cons, ih, List.sum_cons]; omega
  unfold sumI
  rw [this]; omega
section
variable {X : Cx} {Z : Sta}
theorem natT_len {n : Nat} (h : n < 10 ^ 500) : (natT n).length ≤ 500 := numL_len (by decide) h
theorem pow500 : (10 : Nat) ^ 500 < 2 ^ 1919 := by decide
theorem int_digits {s : Mi.Tx} (h : natT (valT s) = s) (h2 : s.length ≤ 600) : PySem.intText? (toS s) = some (valT s : Int) := by
  have e : toS s = Str.ofString (toString ((valT s : Nat) : Int)) := ext_tl (by rw [tl_num]; exact h.symm)
  rw [e]
  refine int_num ?_
  have : numL (valT s) = s := h
  rw [this]; omega
theorem sBi (b : Bi) (hk : X.K = Z.K) (hc : X.calm = true) (hb : biOk b = true) : CallR X (biVal b) (rBi Z b) := by
  intro pins s σ H xs us Q I r h
  obtain ⟨ρ, m, ds, d, hr, hv, he, q⟩ := h
  have fin : ∀ {w : V}, RVF Z H ρ H d w → Q w H := fun hw => q _ ρ H Ext.refl hr hw
  cases b with
  | abs =>
    unfold evBi at he
    split at he <;> first | contradiction | skip
    · cases he
      obtain ⟨v, rfl, hw⟩ := hv.one_inv
      exact call_abs pins s σ H _ us Q I r ⟨_, by rw [show v = _ from hw], fin (RVF.int.mpr rfl)⟩
  | all =>
    unfold evBi at he
    split at he <;> first | contradiction | skip
    · obtain ⟨ys, e1, e2⟩ := Option.bind_eq_some_iff.mp he
      obtain ⟨bs, e3, e4⟩ := Option.map_eq_some_iff.mp e2
      obtain ⟨v, rfl, hw⟩ := hv.one_inv
      obtain ⟨a, vs, g1, g2, _, g4⟩ := lst_at hr hw e1
      subst g1
      rw [g4.bools e3] at g2
      exact cr_all hc pins s σ H _ us Q I r ⟨a, bs, rfl, SqL.of g2, fin (by rw [← e4]; exact RVF.bl.mpr rfl)⟩
  | any =>
    unfold evBi at he
    split at he <;> first | contradiction | skip
    · obtain ⟨ys, e1, e2⟩ := Option.bind_eq_some_iff.mp he
      obtain ⟨bs, e3, e4⟩ := Option.map_eq_some_iff.mp e2
      obtain ⟨v, rfl, hw⟩ := hv.one_inv
      obtain ⟨a, vs, g1, g2, _, g4⟩ := lst_at hr hw e1
      subst g1
      rw [g4.bools e3] at g2
      exact cr_any hc pins s σ H _ us Q I r ⟨a, bs, rfl, SqL.of g2, fin (by rw [← e4]; exact RVF.bl.mpr rfl)⟩
  | int =>
    unfold evBi at he
    split at he <;> first | contradiction | skip
    · cases he
      obtain ⟨v, rfl, hw⟩ := hv.one_inv
      exact call_int1 pins s σ H _ us Q I r (.inl ⟨_, by rw [show v = _ from hw], fin (RVF.int.mpr rfl)⟩)
    · cases he
      obtain ⟨v, rfl, hw⟩ := hv.one_inv
      exact call_int1 pins s σ H _ us Q I r (.inr ⟨_, by rw [show v = _ from hw], fin (RVF.int.mpr rfl)⟩)
    · split at he
      · rename_i hd
        cases he
        obtain ⟨v, rfl, hw⟩ := hv.one_inv
        exact call_int_str pins s σ H _ us Q I r ⟨_, _, by rw [hw.1], int_digits hd.1 hd.2, by rw [toS_len]; exact Nat.le_trans hd.2 (by decide), fin (RVF.int.mpr rfl)⟩
      · cases he
  | len =>
    unfold evBi at he
    split at he <;> first | contradiction | skip
    · obtain ⟨n, e1, e2⟩ := Option.map_eq_some_iff.mp he
      obtain ⟨v, rfl, hw⟩ := hv.one_inv
      exact call_len pins s σ H _ us Q I r ⟨v, n, rfl, by rw [hk]; exact hw.rec_len hr e1, fin (by rw [← e2]; exact RVF.int.mpr rfl)⟩
  | max2 =>
    unfold evBi at he
    split at he <;> first | contradiction | skip
    · cases he
      obtain ⟨v, w, rfl, h1, h2⟩ := hv.two_inv
      exact call_max2 hc pins s σ H _ us Q I r ⟨_, _, by rw [show v = _ from h1, show w = _ from h2], fin (RVF.int.mpr rfl)⟩
  | min2 =>
    unfold evBi at he
    split at he <;> first | contradiction | skip
    · cases he
      obtain ⟨v, w, rfl, h1, h2⟩ := hv.two_inv
      exact call_min2 hc pins s σ H _ us Q I r ⟨_, _, by rw [show v = _ from h1, show w = _ from h2], fin (RVF.int.mpr rfl)⟩
  | str =>
    unfold evBi at he
    split at he <;> first | contradiction | skip
    · rename_i i _
      split at he
      · rename_i hd
        cases he
        obtain ⟨v, rfl, hw⟩ := hv.one_inv
        have hn : i.natAbs < 10 ^ 500 := by omega
        have e : (toString i : Str) = toS (natT i.toNat) := by
          refine ext_tl ?_
          have := tl_num i.toNat
          rw [Int.toNat_of_nonneg hd.1] at this
          exact this
        refine call_str_int pins s σ H _ us Q I r ⟨i, by rw [show v = _ from hw], ?_, ?_⟩
        · exact Nat.lt_of_lt_of_le (PySem.Flt.log2_lt_of (by decide) (Nat.lt_trans hn pow500)) (by decide)
        · have e' : V.str (toString i : Str) = V.str (toS (natT i.toNat)) := congrArg V.str e
          rw [show (V.str ↑(toString i)) = V.str (toS (natT i.toNat)) from e']
          refine fin (RVF.str.mpr ⟨rfl, ?_⟩)
          have := natT_len (n := i.toNat) (by omega)
          exact Nat.le_trans this (by decide)
      · cases he
  | sum =>
    unfold evBi at he
    split at he <;> first | contradiction | skip
    · obtain ⟨ys, e1, e2⟩ := Option.bind_eq_some_iff.mp he
      obtain ⟨bs, e3, e4⟩ := Option.map_eq_some_iff.mp e2
      obtain ⟨v, rfl, hw⟩ := hv.one_inv
      obtain ⟨a, vs, g1, g2, _, g4⟩ := lst_at hr hw e1
      subst g1
      rw [g4.ints_of e3] at g2
      exact cr_sum hc pins s σ H _ us Q I r ⟨a, bs, rfl, SqL.of g2, fin (by rw [← e4, sumI_eq]; exact RVF.int.mpr rfl)⟩
  | max1 => cases hb
  | min1 => cases hb

def rBm (Z : Sta) (b : Bm) : V → List V → Hp → VK → Prop := fun x vs H Q => ∃ ρ m dx ds d m', Rel Z ρ H m ∧ RV Z ρ H dx x ∧ RVs Z ρ H ds vs ∧ bmTy m b dx = true ∧ evBm m b dx ds = some (d, m') ∧
  ∀ v ρ' H', Ext ρ H ρ' H' → Rel Z ρ' H' m' → RV Z ρ' H' d v → Q v H'
theorem ref_of {m : M} {dx : D} (h : bmTy m .append dx = true) : ∃ i xs, dx = .ref i ∧ m[i]? = some (Ob.lst xs) := by
  cases dx with
  | ref i =>
    have h' : (match m[i]? with | some (Ob.lst _) => true | _ => false) = true := h
    split at h'
    · rename_i xs q
      exact ⟨i, xs, rfl, q⟩
    · cases h'
  | _ => cases h
theorem sAppend : MtR X "list.append" (rBm Z .append) := by
  intro pins s σ H x xs v us Q I rx rs h
  obtain ⟨ρ, m, dx, ds, d, m', hr, hv, hs, ht, he, q⟩ := h
  obtain ⟨i, ys, rfl, hm⟩ := ref_of ht
  obtain ⟨a, vs, rfl, hi, ha, hl, hy⟩ := ref_at hr hv hm
  match ds, he with
  | [z], he =>
    have he' : (match m[i]? with | some (Ob.lst xs) => if xs.length < line then some (D.non, m.set i (.lst (xs ++ [z]))) else none | _ => none) = some (d, m') := he
    rw [hm] at he'
    dsimp only at he'
    split at he'
    · rename_i hlt
      cases he'
      obtain ⟨w, rfl, hw⟩ := hs.one_inv
      obtain ⟨e, r'⟩ := hr.setL (ys := ys ++ [z]) hi ha (by rw [List.length_append]; show ys.length + 1 ≤ line; omega) (hy.append (RVs.one hw))
      exact mt_append pins s σ H _ _ v us Q I rx rs ⟨a, vs, w, rfl, rfl, ha, by rw [hy.length, ← line_eq]; exact hlt, q _ ρ _ e r' rfl⟩
    · cases he'
theorem sPop0 : MtR X "list.pop" (rBm Z .pop0) := by
  intro pins s σ H x xs v us Q I rx rs h
  obtain ⟨ρ, m, dx, ds, d, m', hr, hv, hs, ht, he, q⟩ := h
  obtain ⟨i, ys, rfl, hm⟩ := ref_of ht
  obtain ⟨a, vs, rfl, hi, ha, hl, hy⟩ := ref_at hr hv hm
  match ds, he with
  | [], he =>
    have he' : (match m[i]? with | some (Ob.lst xs) => (xs[xs.length - 1]?).map fun x => (x, m.set i (.lst xs.dropLast)) | _ => none) = some (d, m') := he
    rw [hm] at he'
    dsimp only at he'
    obtain ⟨z, hz, he''⟩ := Option.map_eq_some_iff.mp he'
    cases he''
    obtain rfl := hs.zero_inv
    obtain ⟨w, g1, g2⟩ := hy.get hz
    have hd : RVs Z ρ H ys.dropLast vs.dropLast := by
      rw [List.dropLast_eq_take, List.dropLast_eq_take, hy.length]
      exact hy.take _
    obtain ⟨e, r'⟩ := hr.setL (ys := ys.dropLast) hi ha (by rw [List.length_dropLast]; omega) hd
    exact mt_pop pins s σ H _ _ v us Q I rx rs ⟨a, vs, w, rfl, rfl, ha, by rw [hy.length]; exact g1, q _ ρ _ e r' (g2.ext e)⟩
theorem RVs.erase : ∀ {ρ : List Addr} {H : Hp} {ds : List D} {vs : List V} (i : Nat), RVs Z ρ H ds vs → RVs Z ρ H (ds.eraseIdx i) (vs.eraseIdx i) := by
  intro ρ H ds
  induction ds with
  | nil => intro vs i h; obtain rfl := h.zero_inv; exact RVs.nil
  | cons d r ih =>
    intro vs i h
    unfold RVs at h
    obtain ⟨v, vr, rfl, e2, e3⟩ := h
    cases i with
    | zero => exact e3
    | succ i => exact ⟨v, _, rfl, e2, ih i e3⟩
theorem ix_seqIndex {n : Nat} {i : Int} {j : Nat} (h : ix n i = some j) : seqIndex? i n = some j ∧ j < n ∧ -(n : Int) ≤ i ∧ i < n := by
  rw [ix_eq] at h
  exact ixN_seq h
theorem sPop1 : MtR X "list.pop" (rBm Z .pop1) := by
  intro pins s σ H x xs v us Q I rx rs h
  obtain ⟨ρ, m, dx, ds, d, m', hr, hv, hs, ht, he, q⟩ := h
  obtain ⟨i, ys, rfl, hm⟩ := ref_of ht
  obtain ⟨a, vs, rfl, hi, ha, hl, hy⟩ := ref_at hr hv hm
  unfold evBm at he
  split at he <;> first | contradiction | skip
  rename_i i' k heq1 heq2
  cases heq2
  rw [hm] at he
  dsimp only at he
  obtain ⟨j, hj, he⟩ := Option.bind_eq_some_iff.mp he
  obtain ⟨z, hz, he⟩ := Option.map_eq_some_iff.mp he
  cases he
  obtain ⟨w, rfl, hw⟩ := hs.one_inv
  obtain ⟨z', g1, g2⟩ := hy.get hz
  obtain ⟨e1, e2, e3, e4⟩ := ix_seqIndex hj
  have hb : (line : Int) < 2 ^ 63 := by decide
  obtain ⟨e, r'⟩ := hr.setL (ys := ys.eraseIdx j) hi ha (Nat.le_trans (List.length_eraseIdx_le _ _) hl) (hy.erase j)
  refine mt_popAt pins s σ H _ _ v us Q I rx rs ⟨a, vs, k, j, z', rfl, by rw [show w = V.int k from hw], ha, by omega, by omega, by rw [hy.length]; exact e1, g1, q _ ρ _ e r' (g2.ext e)⟩
theorem join_eq : ∀ (S : Mi.Tx) (xs : List Mi.Tx), joinL S xs = joinT S xs
  | S, [] => rfl
  | S, [x] => rfl
  | S, x :: y :: r => by
    have := join_eq S (y :: r)
    simp only [joinL, joinT] at this ⊢
    rw [this]
    try simp [List.append_assoc]
theorem joinT_len : ∀ (S : Mi.Tx) (xs : List Mi.Tx), (joinT S xs).length ≤ sumLen xs + xs.length * S.length
  | S, [] => by simp [joinT]
  | S, [x] => by simp [joinT, sumLen]
  | S, x :: y :: r => by
    have := joinT_len S (y :: r)
    simp only [joinT, List.length_append, sumLen, List.map_cons, List.sum_cons, List.length_cons, Nat.add_mul, Nat.one_mul] at this ⊢
    omega
theorem sJoin (hk : X.K = Z.K) : MtR X "str.join" (rBm Z .join) := by
  intro pins s σ H x xs v us Q I rx rs h
  obtain ⟨ρ, m, dx, ds, d, m', hr, hv, hs, ht, he, q⟩ := h
  unfold evBm at he
  split at he <;> first | contradiction | skip
  rename_i S z _
  obtain ⟨ys, e1, he⟩ := Option.bind_eq_some_iff.mp he
  obtain ⟨ts, e2, he⟩ := Option.bind_eq_some_iff.mp he
  split at he
  · rename_i hlen
    cases he
    obtain ⟨w, rfl, hw⟩ := hs.one_inv
    obtain ⟨a, vs, rfl, g2, _, g4⟩ := seq_at hr hw e1
    rw [g4.strs_of e2] at g2
    refine mt_join pins s σ H x _ v us Q I rx rs ⟨toS S, a, ts.map toS, hv.1, rfl, by rw [hk]; exact g2, ?_, ?_⟩
    · rw [List.length_map, toS_len, List.map_map]
      have : (ts.map (Str.length ∘ toS)).sum = sumLen ts := by
        unfold sumLen
        congr 1
      rw [this]
      exact hlen
    · have e : Txt.join (toS S) (ts.map toS) = toS (joinT S ts) := by
        refine ext_tl ?_
        rw [TL.join_eq, tl_join, List.map_map, show (tl ∘ toS) = id from funext fun _ => rfl, List.map_id]
        exact join_eq S ts
      rw [e]
      exact q _ ρ H Ext.refl hr ⟨rfl, Nat.le_trans (joinT_len S ts) hlen⟩
  · cases he
end
end Mi

end
section
set_option Elab.async false
set_option linter.all false
set_option maxRecDepth 100000
set_option maxHeartbeats 4000000
/-! Mi8: which text a term of ours stands for (chk), and that what the evaluator answers the model answers: expressions -/
namespace Mi
open PySem PySem.Spec PyProof.Rows L2 TL

/-! ### names -/
def visB (sc : Scope) (x : Str) : Bool := match sc.names.lookup x with | some .local => true | some .cell => true | some .free => true | _ => false
def locB (sc : Scope) (x : Str) : Bool := match sc.names.lookup x with | some .local => true | _ => false
def glB (sc : Scope) (x : Str) : Bool := match sc.names.lookup x with | some .globalImplicit => true | _ => false
def nmB (x : Str) : Bool := !(x == ("__debug__" : Str)) && !(x == ("__classdict__" : Str)) && !(x == ("__name__" : Str))
def lcB (sc : Scope) (x : Str) : Bool := match sc.names.lookup x with | some .local => true | some .cell => true | _ => false
theorem lcB_ok {sc : Scope} {x : Str} (h : lcB sc x = true) : sc.names.lookup x = some .local ∨ sc.names.lookup x = some .cell := by
  unfold lcB at h
  split at h
  · exact .inl (by assumption)
  · exact .inr (by assumption)
  · cases h
theorem visB_ok {sc : Scope} {x : Str} (h : visB sc x = true) : Vis sc x := by
  unfold visB at h
  split at h
  · exact .inl (by assumption)
  · exact .inr (.inl (by assumption))
  · exact .inr (.inr (by assumption))
  · cases h
theorem locB_ok {sc : Scope} {x : Str} (h : locB sc x = true) : sc.names.lookup x = some .local := by
  unfold locB at h
  split at h
  · assumption
  · cases h
theorem glB_ok {X : Cx} {x : Str} (h : glB X.env.scope x = true) : Gl X x := by
  unfold glB at h
  split at h
  · assumption
  · cases h
theorem nmB_ok {x : Str} (h : nmB x = true) : (x == ("__debug__" : Str)) = false ∧ (x == ("__classdict__" : Str)) = false ∧ x ≠ "__name__" := by
  unfold nmB at h
  simp only [Bool.and_eq_true, Bool.not_eq_true'] at h
  exact ⟨h.1.1, h.1.2, fun e => by rw [e] at h; simp at h⟩
/-- the module's name x holds v -/
def mgB (Z : Stc) (x : Str) (v : Value) : Bool := match PySem.W.nsIn Z.K mainGlobals x with | some (some u) => u == v | _ => false
def mgN (Z : Stc) (x : Str) : Bool := match PySem.W.nsIn Z.K mainGlobals x with | some none => true | _ => false
theorem mgB_ok {Z : Stc} {x : Str} {v : Value} (h : mgB Z x v = true) : PySem.W.nsIn Z.K mainGlobals x = some (some v) := by
  unfold mgB at h
  split at h
  · rename_i u q
    rw [q, beq_iff_eq.mp h]
  · cases h
theorem mgN_ok {Z : Stc} {x : Str} (h : mgN Z x = true) : PySem.W.nsIn Z.K mainGlobals x = some none := by
  unfold mgN at h
  split at h
  · assumption
  · cases h
def bltB (x : Str) (v : Value) : Bool := match bootBuiltins x with | some u => u == v | none => false
theorem bltB_ok {x : Str} {v : Value} (h : bltB x v = true) : bootBuiltins x = some v := by
  unfold bltB at h
  split at h
  · rename_i u q
    rw [q, beq_iff_eq.mp h]
  · cases h

/-! ### the shapes of texts -/
def notStar : Expr → Bool
  | .Starred _ _ => false
  | _ => true
theorem star_cons {e : Expr} {es : List Expr} {env : PySem.Env} (h : notStar e = true) : starEach (e :: es) env = (false, eval e env) :: starEach es env := by
  cases e <;> first | rfl | cases h
theorem star_any {pos : Pos} {env : PySem.Env} : ∀ {es : List Expr}, es.all notStar = true → (backTo pos (starEach es env)).any (·.1) = false
  | [], _ => rfl
  | e :: es, h => by
    rw [List.all_cons, Bool.and_eq_true] at h
    rw [star_cons h.1]
    show (backTo pos (starEach es env)).any (·.1) = false
    exact star_any h.2
/-- o.f that is not super().f -/
def attrB : Expr → Bool
  | .Call (.Name _ _) [] [] _ => false
  | _ => true
theorem attrB_ok {o : Expr} {f : Str} {env : PySem.Env} (h : attrB o = true) : attributeBase o f env (eval o env) = eval o env := by
  unfold attributeBase
  split
  · cases h
  · rfl
def notSet : Expr → Bool
  | .Set _ _ _ => false
  | _ => true
theorem behind_ok {op : CmpOp} {e : Expr} (h : notSet e = true) : behindInMarks op e = false := by
  cases e <;> first | rfl | cases h
def notSlice : Expr → Bool
  | .Slice _ _ _ _ => false
  | _ => true
theorem ix_ok {b : Expr} (h : notSlice b = true) : PlainIx b := by
  intro o i
  cases b <;> first | rfl | cases h
/-- a test by its value's truth -/
def truB : Expr → Bool
  | .UnaryOp .Not _ _ => false
  | .BoolOp _ _ _ => false
  | .IfExp _ _ _ _ => false
  | .Compare _ _ _ _ => false
  | _ => true
theorem truB_ok {a : Expr} {env : PySem.Env} (h : truB a = true) : ∀ whole, PySem.isTrue a env whole = (do let v ← whole; standAt a.pos; holding [v] (truthy v)) := by
  intro whole
  cases a with
  | UnaryOp op a p => cases op <;> first | rfl | cases h
  | BoolOp _ _ _ => cases h
  | IfExp _ _ _ _ => cases h
  | Compare _ _ _ _ => cases h
  | _ => rfl
def notComp : Expr → Bool
  | .ListComp _ _ _ _ => false
  | .SetComp _ _ _ _ => false
  | .DictComp _ _ _ _ _ => false
  | _ => true
theorem swaps_ok {e : Expr} {t : Option Expr} {l : Nat} {env : PySem.Env} (h : notComp e = true) : swapsWith e t l env = pure false := by
  cases e <;> first | rfl | cases h

/-- constants -/
def conB : D → Const → Bool
  | .non, .none => true
  | .bl b, .bool c => b == c
  | .int i, .int j => i == j
  | .str s, .str x => decide (x.cps.toList = s) && decide (s.length ≤ 1000)
  | _, _ => false
def opB : O2 → Operator → Bool
  | .add, .Add => true | .sub, .Sub => true | .mul, .Mult => true | .fdiv, .FloorDiv => true | .mod, .Mod => true | .pow, .Pow => true | .band, .BitAnd => true | .shl, .LShift => true | .shr, .RShift => true
  | _, _ => false
theorem opB_ok {o : O2} {op : Operator} (h : opB o op = true) : op = op2 o := by
  cases o <;> cases op <;> first | rfl | cases h
def cmB : C2 → CmpOp → Bool
  | .eq, .Eq => true | .ne, .NotEq => true | .lt, .Lt => true | .le, .LtE => true | .gt, .Gt => true | .ge, .GtE => true | .isin, .In => true | .notin, .NotIn => true | .is, .Is => true | .isnot, .IsNot => true
  | _, _ => false
theorem cmB_ok {o : C2} {op : CmpOp} (h : cmB o op = true) : op = cmpOp o := by
  cases o <;> cases op <;> first | rfl | cases h
/-! a target -/
mutual
def tgB (N : List Str) (sc : Scope) : Tg → Expr → Bool
  | .nm i, .Name x _ => decide (N[i]? = some x) && lcB sc x
  | .tp t, .Tuple es _ _ => tgsB N sc t es
  | _, _ => false
def tgsB (N : List Str) (sc : Scope) : Tg → List Expr → Bool
  | .nil, [] => true
  | .cons t r, e :: es => tgB N sc t e && tgsB N sc r es
  | _, _ => false
end
/-- the slots that a target fills -/
def tgS : Tg → List Nat
  | .nm i => [i]
  | .nil => []
  | .cons t r => tgS t ++ tgS r
  | .tp t => tgS t
def bltName : Bi → Str
  | .abs => "abs" | .all => "all" | .any => "any" | .int => "int" | .len => "len" | .max1 => "max" | .max2 => "max" | .min1 => "min" | .min2 => "min" | .str => "str" | .sum => "sum"
def ownB (own : List (Mi.Tx × Nat)) : List (Str × Nat) := own.map fun p => (toS p.1, p.2)

/-- kinds of values, as isinstance asks for them -/
inductive Kd where | non | bl | int | str | tup | lst | ex (c : Nat)
def tgVal (Z : Stc) : Kd → Option Value
  | .non => some (.type "NoneType") | .bl => some (.type "bool") | .int => some (.type "int") | .str => some (.type "str") | .tup => some (.type "tuple") | .lst => some (.type "list")
  | .ex c => (Z.xad c).map .ref
def tyNm : Ty → String
  | .str => "str" | .int => "int" | .bool => "bool" | .tuple => "tuple" | .list => "list" | .dict => "dict" | .vErr => "ValueError" | .ex _ => ""
def tyVal (Z : Stc) : Ty → Option Value
  | .ex c => (Z.xad c).map .ref
  | t => some (.type (tyNm t))
def tgIs (T : Tb) : Kd → Ty → Bool
  | .ex c, .ex d => T.sub c d
  | .ex _, .vErr => true
  | .str, .str | .int, .int | .bl, .int | .bl, .bool | .tup, .tuple | .lst, .list => true
  | _, _ => false
def tyB (Z : Stc) (sc : Scope) (t : Ty) (x : Str) : Bool := glB sc x && (nmB x && (match t with
  | .ex c => (match Z.xad c with | some a => mgB Z x (.ref a) | none => false)
  | t => mgN Z x && bltB x (.type (tyNm t))))
section
variable (Z : Stc) (cm : Bool) (N : List Str)
mutual
def chE : Scope → Ex → Expr → Bool
  | sc, .var i, .Name x _ => decide (N[i]? = some x) && (visB sc x && nmB x)
  | _, .con d, .Constant c _ _ => conB d c
  | sc, .tup es, .Tuple as _ _ => chA sc es as
  | sc, .lst _ es, .List as _ => chA sc es as
  | sc, .bin o a b, .BinOp x op y _ => opB o op && (chE sc a x && chE sc b y)
  | sc, .cmp o a b, .Compare x [op] [y] _ => cmB o op && (chE sc a x && (chE sc b y && notSet y))
  | sc, .chn o p a b c, .Compare x [op, op'] [y, z] _ => cmB o op && (cmB p op' && (chE sc a x && (chE sc b y && (chE sc c z && notSet z))))
  | sc, .neg a, .UnaryOp .USub x _ => chE sc a x
  | sc, .vnot a, .UnaryOp .Not x _ => chE sc a x
  | sc, .vand a b, .BoolOp .And (x :: y :: r) p => chE sc a x && (match r with | [] => chE sc b y | _ => chE sc b (.BoolOp .And (y :: r) p))
  | sc, .vor a b, .BoolOp .Or (x :: y :: r) p => chE sc a x && (match r with | [] => chE sc b y | _ => chE sc b (.BoolOp .Or (y :: r) p))
  | sc, .ife c a b, .IfExp t x y _ => chC sc c t && (chE sc a x && chE sc b y)
  | sc, .idx a i, .Subscript x y _ => chE sc a x && (chE sc i y && notSlice y)
  | sc, .slc a lo hi, .Subscript x (.Slice l h none _) _ => chE sc a x && ((match l with | none => lo.isNil | some e => !lo.isNil && chE sc lo e) && (match h with | none => hi.isNil | some e => !hi.isNil && chE sc hi e))
  | sc, .cal k es, .Call (.Name x _) as [] _ => cm && (match Z.fad k with | some a => mgB Z x (.ref a) && PySem.W.keepIn Z.K (.ref a) | none => false) && (glB sc x && (nmB x && chA sc es as))
  | sc, .bi b es, .Call (.Name x _) (a :: as) [] _ => cm && decide (x = bltName b) && (biOk b && (mgN Z x && (bltB x (biVal b) && (glB sc x && (nmB x && chA sc es (a :: as))))))
  | sc, .bm b o es, .Call (.Attribute x m apos) as [] cpos => chE sc o x && (attrB x && ((apos.endLine == cpos.line) && (match b with
      | .append => decide (m = "append") && (as.length == 1)
      | .pop0 => decide (m = "pop") && (as.length == 0)
      | .pop1 => decide (m = "pop") && (as.length == 1)
      | .join => decide (m = "join") && (as.length == 1)
      | _ => false) && chA sc es as))
  | sc, .lc _ own t it c e, .ListComp elt [⟨tg, iter, ifs, 0⟩] scope _ =>
    cm && (chI sc it tg iter && (blkC N sc scope (ownB own) && (tgB N scope t tg && ((tgS t).all (fun i => (slots own).contains i) && ((match c, ifs with | .yes, [] => true | c, [a] => chC (relS scope sc) c a | _, _ => false) && (chE (relS scope sc) e elt && notSet iter))))))
  | sc, .isi a [t], .Call (.Name f _) [x, .Name y _] [] _ => decide (f = "isinstance") && (mgN Z f && (glB sc f && (chE sc a x && (notStar x && tyB Z sc t y))))
  | sc, .att a f, .Attribute x g _ => decide (g = toS f) && (decide (g = Z.xfn) && (chE sc a x && attrB x))
  | sc, .bw _ .list (.rg1 a), .Call (.Name f _) [.Call (.Name g _) [x] [] _] [] _ => cm && (decide (f = "list") && (decide (g = "range") && (mgN Z f && (glB sc f && (mgN Z g && (glB sc g && (chE sc a x && notStar x)))))))
  | sc, .bw _ .list (.rg2 a b), .Call (.Name f _) [.Call (.Name g _) [x, y] [] _] [] _ => cm && (decide (f = "list") && (decide (g = "range") && (mgN Z f && (glB sc f && (mgN Z g && (glB sc g && (chE sc a x && (notStar x && (chE sc b y && notStar y)))))))))
  | _, _, _ => false
def chA : Scope → Ex → List Expr → Bool
  | _, .nil, [] => true
  | sc, .cons e r, a :: as => chE sc e a && (notStar a && chA sc r as)
  | _, _, _ => false
def chC : Scope → Ex → Expr → Bool
  | sc, .tru e, a => (truB a && chE sc e a) || (match a with | .Compare _ _ _ _ => chE sc e a | _ => false)
  | sc, .tnot c, .UnaryOp .Not x _ => chC sc c x
  | sc, .tand a b, .BoolOp .And (x :: y :: r) p => chC sc a x && (match r with | [] => chC sc b y | _ => chC sc b (.BoolOp .And (y :: r) p))
  | sc, .tor a b, .BoolOp .Or (x :: y :: r) p => chC sc a x && (match r with | [] => chC sc b y | _ => chC sc b (.BoolOp .Or (y :: r) p))
  | _, _, _ => false
def chI : Scope → Ex → Expr → Expr → Bool
  | sc, .rg1 a, _, .Call (.Name x _) [y] [] _ => decide (x = "range") && (mgN Z x && (glB sc x && (chE sc a y && notStar y)))
  | sc, .rg2 a b, _, .Call (.Name x _) [y, z] [] _ => decide (x = "range") && (mgN Z x && (glB sc x && (chE sc a y && (notStar y && (chE sc b z && notStar z)))))
  | sc, .ipl e, _, a => chE sc e a && notSet a
  | _, _, _, _ => false
end
end

/-! ### the context that a proof needs -/
def prF (Z : Sta) (C : Nat → List D → M → O D) (k : Nat) : Sp := fun vs H Q E => ∃ ρ m ds, Rel Z ρ H m ∧ RVs Z ρ H ds vs ∧ PO Z (RV Z) E ρ H Q (C k ds m)
structure Cxt (Z : Sta) (T : Tb) (C : Nat → List D → M → O D) (n : Nat) (cm : Bool) (X : Cx) : Prop where
  K : X.K = Z.K
  nd : X.N.Nodup
  calm : cm = true → X.calm = true
  room : cm = true → Room (3 * n + 2) X.A
  units : X.A.units + 64 < cLine
  mgs : ∀ x v, PySem.W.nsIn Z.K mainGlobals x = some (some v) → X.mg x = some v
  mgn : ∀ x, PySem.W.nsIn Z.K mainGlobals x = some none → X.mg x = none
  isf : ∀ tg ty tv cv, tgVal Z.toStc tg = some tv → tyVal Z.toStc ty = some cv → PySem.W.kitOne Z.K tv cv = some (tgIs T tg ty)
  xc : ∀ c A, Z.xad c = some A → ExcC Z.K A ∧ PySem.W.findIn Z.K (.ref A) Z.xfn = some none
  fns : ∀ k a, Z.fad k = some a → ∃ fd ps, Binds X.K fd ps [] ∧ ∀ hid, FnOk X.prog X.w X.K X.mg X.base (L2.CX X.prog X.w) (3 * n) a fd ps (prF { Z with hid := hid } C k)
section
variable {Z : Sta} {T : Tb} {C : Nat → List D → M → O D} {n : Nat} {cm : Bool} {X : Cx}
theorem Cxt.hu (c : Cxt Z T C n cm X) : X.A.units + 64 < cLine := c.units
theorem Cxt.blk (c : Cxt Z T C n cm X) (s : Shared) (H : Hp) (scope : Scope) (cenv : PySem.Env) (fp : List Addr) : Cxt Z T C n cm (X.blk s H scope cenv fp) :=
  ⟨c.K, c.nd, c.calm, c.room, c.units, c.mgs, c.mgn, c.isf, c.xc, c.fns⟩
theorem Cxt.hide (c : Cxt Z T C n cm X) (hid : List Addr) : Cxt { Z with hid := hid } T C n cm X :=
  ⟨c.K, c.nd, c.calm, c.room, c.units, c.mgs, c.mgn, c.isf, c.xc, c.fns⟩
theorem Cxt.tr (c : Cxt Z T C n cm X) (pn : List (Addr × Obj)) (xe : Value → Shared → Prop) : Cxt Z T C n cm (X.tr pn xe) :=
  ⟨c.K, c.nd, c.calm, c.room, c.units, c.mgs, c.mgn, c.isf, c.xc, c.fns⟩
end
section
variable {α : Type} {Z : Sta} {E : XK} {ρ ρ1 : List Addr} {H H1 : Hp} {Q : VK} {m : M}
/-- a new list comes -/
theorem mk_ok {al : Bool} {xs : List D} (h : PO Z (RV Z) E ρ H Q (mk al xs m)) (hl : xs.length ≤ line) (e : Ext ρ H ρ1 H1) (r : Rel Z ρ1 H1 m) {vs : List V} (hv : RVs Z ρ1 H1 xs vs) {a : Addr} (ha : H1 a = none) : Q (.ref a) (upd H1 a (.lst vs)) := by
  cases al with
  | false =>
    have h' : PO Z (RV Z) E ρ H Q (okk (.lst xs) m) := h
    refine h' _ ρ1 _ (e.trans (Ext.new ha)) (r.new ha) ?_
    unfold RV
    exact ⟨a, vs, rfl, upd_same, r.notinH ha, hl, hv.ext (Ext.new ha)⟩
  | true =>
    have h' : PO Z (RV Z) E ρ H Q (okk (.ref m.length) (m ++ [.lst xs])) := h
    have na := r.notin ha
    have k : ∀ b u, H1 b = some u → upd H1 a (.lst vs) b = some u := fun b u q => by rw [upd_ne (ne_of_none q ha)]; exact q
    have e2 : Ext ρ1 H1 (ρ1 ++ [a]) (upd H1 a (.lst vs)) := by
      refine ⟨⟨[a], rfl, fun p hp => ?_⟩, fun b xs q => k b _ q, fun b o u q => k b _ q, fun b u _ q => k b _ q, fun b q => ?_⟩
      · rw [List.mem_singleton.mp hp]; exact ha
      · cases z : H1 b with
        | none => rfl
        | some u => rw [k b u z] at q; cases q
    refine h' _ (ρ1 ++ [a]) _ (e.trans e2) ⟨?_, ?_, fun i b o h1 h2 => ?_, r.hd_ext e2⟩ ?_
    · rw [List.length_append, List.length_append, r.len]; rfl
    · rw [List.nodup_append]
      exact ⟨r.nd, by simp, fun x hx y hy => by rw [List.mem_singleton.mp hy]; exact fun z => na (z ▸ hx)⟩
    · by_cases hi : i < ρ1.length
      · rw [List.getElem?_append_left hi] at h1
        rw [List.getElem?_append_left (by rw [← r.len]; exact hi)] at h2
        have hb : b ≠ a := fun z => na (z ▸ List.mem_of_getElem? h1)
        exact RO.ext e2 (upd_ne hb) (r.ob i b o h1 h2)
      · have hi' : i = ρ1.length := by
          have := (List.getElem?_eq_some_iff.mp h1).1
          rw [List.length_append] at this
          simp at this
          omega
        subst hi'
        rw [List.getElem?_append_right (Nat.le_refl _)] at h1
        rw [r.len, List.getElem?_append_right (Nat.le_refl _)] at h2
        simp at h1 h2
        subst h1 h2
        exact ⟨vs, upd_same, hl, hv.ext e2⟩
    · unfold RV
      exact ⟨a, rfl, by rw [← r.len, List.getElem?_append_right (Nat.le_refl _)]; simp⟩
end
end Mi

end
section
set_option Elab.async false
set_option linter.all false
set_option maxRecDepth 100000
set_option maxHeartbeats 4000000
/-! Mi9: expressions are answered rightly -/
namespace Mi
open PySem PySem.Spec PyProof.Rows L2 TL
/-- what is walked, as the kit's iterator J tells it; new lists may have been hidden meanwhile -/
structure RIt (Z : Sta) (ρ : List Addr) (H : Hp) (w : It) (J : L2.It) : Prop where
  len : w.xs.length ≤ line
  go : ∀ hid ρ2 H2 m2, (∀ a ∈ hid, a ∈ Z.hid ∨ H a = none) → Ext ρ H ρ2 H2 → Rel { Z with hid := hid } ρ2 H2 m2 → wsOk m2 w.ws = true → ∀ i, i < w.xs.length → J.go i H2 ∧ ∀ x H', J.yld i H2 x H' → Ext ρ2 H2 ρ2 H' ∧ Rel { Z with hid := hid } ρ2 H' m2 ∧ ∃ d, w.xs[i]? = some d ∧ RV { Z with hid := hid } ρ2 H' d x
  stop : ∀ hid ρ2 H2 m2, (∀ a ∈ hid, a ∈ Z.hid ∨ H a = none) → Ext ρ H ρ2 H2 → Rel { Z with hid := hid } ρ2 H2 m2 → wsOk m2 w.ws = true → J.stop w.xs.length H2
def iI (Z : Sta) (W : WX) (f : Env → M → O It) : TI := fun σ H R => ∃ ρ Γ m, Rel Z ρ H m ∧ RS Z ρ H Γ σ ∧ PO Z (fun ρ' H' w J => RIt Z ρ' H' w J) (fun c d H' => W c d σ H') ρ H R (f Γ m)
theorem _root_.L2.PI.imp {X : Cx} {tg e : Expr} {t t' : TI} (h : PI X tg e t) (hi : ∀ σ H Q, t' σ H Q → t σ H Q) : PI X tg e t' := ⟨fun pins s σ H Q I q => h.run pins s σ H Q I (hi _ _ _ q)⟩
theorem OpR.imp {X : Cx} {f : Value → Value → Sem Value} {r r' : R2} (h : OpR X f r) (hi : ∀ x y H Q, r' x y H Q → r x y H Q) : OpR X f r' := fun pins s σ H x y v u Q I rx ry q => h pins s σ H x y v u Q I rx ry (hi _ _ _ _ q)
theorem IxR.imp {X : Cx} {r r' : R2} (h : IxR X r) (hi : ∀ x y H Q, r' x y H Q → r x y H Q) : IxR X r' := fun a b pins s σ H x y v u Q I rx ry q => h a b pins s σ H x y v u Q I rx ry (hi _ _ _ _ q)
theorem SlR.imp {X : Cx} {r r' : V → Option Int → Option Int → Hp → VK → Prop} (h : SlR X r) (hi : ∀ x a b H Q, r' x a b H Q → r x a b H Q) : SlR X r' := fun pins s σ H x v vl vu lo hi' sl Q I rx hs pl pu q => h pins s σ H x v vl vu lo hi' sl Q I rx hs pl pu (hi _ _ _ _ _ q)
/-- f(), what is raised wished for at the slots -/
theorem pe_callS0 {X : Cx} {CX : CXT} {k : Nat} {f : Addr} {fd : FuncData} {ps : List Str} {sp : Sp} {E : L2.St → XK} {x : Str} {p pos : Pos} (F : FnOk X.prog X.w X.K X.mg X.base CX k f fd ps sp) (hr : Room k X.A) (hg : Gl X x)
    (hm : X.mg x = some (.ref f)) (hk : PySem.W.keepIn X.K (.ref f) = true) (hb : Binds X.K fd ps []) (hx : ∀ σ, PassesAt CX X σ (E σ)) (hdb : (x == ("__debug__" : Str)) = false) :
    PE X (.Call (.Name x p) [] [] pos) (fun σ H Q => sp [] H Q (E σ)) := by
  constructor
  intro pins s σ H Q I h
  apply wpAny_Call_Name_kw
  apply ld_glob I hg hm _ hdb
  exact PySem.W.callWith_K0 I.kIn hk (run_fnS (us := []) F hr hb (hx σ) I .nil (by simpa using h))
section
variable {Z : Sta} {T : Tb} {C : Nat → List D → M → O D} {n : Nat}
theorem chA_star {Z : Stc} {cm : Bool} : ∀ {sc : Scope} {N : List Str} {ex : Ex} {as : List Expr}, chA Z cm N sc ex as = true → as.all notStar = true
  | sc, N, .nil, [], _ => rfl
  | sc, N, .cons e r, a :: as, h => by
    simp only [chA, Bool.and_eq_true] at h
    rw [List.all_cons, h.2.1, Bool.true_and]
    exact chA_star h.2.2
/-- the four things that are said of a term -/
structure Snd (Z : Sta) (T : Tb) (C : Nat → List D → M → O D) (n : Nat) (ex : Ex) : Prop where
  e : ∀ {cm : Bool} (X : Cx) (a : Expr) (W : WX), Cxt Z T C n cm X → chE Z.toStc cm X.N X.env.scope ex a = true → Takes X W → PE X a (iE Z W (ev T C ex))
  a : ∀ {cm : Bool} (X : Cx) (as : List Expr) (W : WX), Cxt Z T C n cm X → chA Z.toStc cm X.N X.env.scope ex as = true → Takes X W → PA X as (iA Z W (evA T C ex))
  c : ∀ {cm : Bool} (X : Cx) (a : Expr) (W : WX), Cxt Z T C n cm X → chC Z.toStc cm X.N X.env.scope ex a = true → Takes X W → PT X a (iC Z W (evC T C ex))
  i : ∀ {cm : Bool} (X : Cx) (tg a : Expr) (W : WX), Cxt Z T C n cm X → chI Z.toStc cm X.N X.env.scope ex tg a = true → Takes X W → PI X tg a (iI Z W (evI T C ex))
  t : ∀ {cm : Bool} (X : Cx) (l : Expr) (ops : List CmpOp) (cs : List Expr) (p : Pos) (W : WX), Cxt Z T C n cm X → chE Z.toStc cm X.N X.env.scope ex (.Compare l ops cs p) = true → Takes X W → PT X (.Compare l ops cs p) (iC Z W fun Γ m => bnd (ev T C ex Γ m) fun x m => lift (truth m x) m)
theorem iA_two {W : WX} {f : Env → M → O D} {g : Env → M → O (List D)} {σ : L2.St} {H : Hp} {Q : List V → Hp → Prop} (h : iA Z W (fun Γ m => bnd (f Γ m) fun x m => bnd (g Γ m) fun xs m => okk (x :: xs) m) σ H Q) : tCons (iE Z W f) (iA Z W g) σ H Q := by
  obtain ⟨ρ, Γ, m, hr, hs, h⟩ := h
  refine ⟨ρ, Γ, m, hr, hs, (PO.bnd (Rp' := RV Z) h).mono fun v H1 h1 => ?_⟩
  obtain ⟨d, ρ1, m1, e1, r1, v1, h1⟩ := h1
  refine ⟨ρ1, Γ, m1, r1, hs.ext e1, (PO.bnd (Rp' := RVs Z) h1).mono fun vs H2 h2 => ?_⟩
  obtain ⟨ds, ρ2, m2, e2, r2, v2, h2⟩ := h2
  exact h2 _ ρ2 H2 Ext.refl r2 ⟨v, vs, rfl, v1.ext e2, v2⟩
theorem iE_two {W : WX} {f g : Env → M → O D} {k : D → D → M → O D} {r : R2} {σ : L2.St} {H : Hp} {Q : VK} (h : iE Z W (fun Γ m => bnd (f Γ m) fun x m => bnd (g Γ m) fun y m => k x y m) σ H Q)
    (hr : ∀ ρ m dx dy x y H, Rel Z ρ H m → RV Z ρ H dx x → RV Z ρ H dy y → PO Z (RV Z) (fun c d H' => W c d σ H') ρ H Q (k dx dy m) → r x y H Q) : tOp r (iE Z W f) (iE Z W g) σ H Q := by
  obtain ⟨ρ, Γ, m, h0, hs, h⟩ := h
  refine ⟨ρ, Γ, m, h0, hs, (PO.bnd (Rp' := RV Z) h).mono fun v H1 h1 => ?_⟩
  obtain ⟨d, ρ1, m1, e1, r1, v1, h1⟩ := h1
  refine ⟨ρ1, Γ, m1, r1, hs.ext e1, (PO.bnd (Rp' := RV Z) h1).mono fun u H2 h2 => ?_⟩
  obtain ⟨d2, ρ2, m2, e2, r2, v2, h2⟩ := h2
  exact hr ρ2 m2 d d2 v u H2 r2 (v1.ext e2) v2 h2
theorem iE_one {α : Type} {W : WX} {f : Env → M → O D} {k : D → M → O D} {r : V → Hp → VK → Prop} {σ : L2.St} {H : Hp} {Q : VK} (h : iE Z W (fun Γ m => bnd (f Γ m) fun x m => k x m) σ H Q)
    (hr : ∀ ρ m dx x H, Rel Z ρ H m → RV Z ρ H dx x → PO Z (RV Z) (fun c d H' => W c d σ H') ρ H Q (k dx m) → r x H Q) : iE Z W f σ H (fun x H1 => r x H1 Q) := by
  obtain ⟨ρ, Γ, m, h0, hs, h⟩ := h
  refine ⟨ρ, Γ, m, h0, hs, (PO.bnd (Rp' := RV Z) h).mono fun v H1 h1 => ?_⟩
  obtain ⟨d, ρ1, m1, e1, r1, v1, h1⟩ := h1
  exact hr ρ1 m1 d v H1 r1 v1 h1
theorem conB_ok {d : D} {c : Const} {X : Cx} {k : Nat} {pos : Pos} (h : conB d c = true) : ∃ v, PE X (.Constant c k pos) (tC v) ∧ ∀ ρ H, RV Z ρ H d v := by
  cases d <;> cases c <;> first | (cases h; done) | skip
  · exact ⟨.non, pe_non, fun _ _ => rfl⟩
  · rename_i b c
    have e : b = c := beq_iff_eq.mp h
    subst e
    exact ⟨.bl b, pe_bl, fun _ _ => rfl⟩
  · rename_i b c
    have e : b = c := beq_iff_eq.mp h
    subst e
    exact ⟨.int b, pe_int, fun _ _ => rfl⟩
  · rename_i s x
    have h' : (decide (x.cps.toList = s) && decide (s.length ≤ 1000)) = true := h
    rw [Bool.and_eq_true, decide_eq_true_eq, decide_eq_true_eq] at h'
    refine ⟨.str x, pe_str, fun _ _ => ⟨?_, Nat.le_trans h'.2 (by decide)⟩⟩
    rw [← h'.1]
    exact congrArg V.str (toS_tl x).symm

/-- a term that is an expression alone -/
theorem Snd.ofE {ex : Ex} (he : ∀ {cm : Bool} (X : Cx) (a : Expr) (W : WX), Cxt Z T C n cm X → chE Z.toStc cm X.N X.env.scope ex a = true → Takes X W → PE X a (iE Z W (ev T C ex)))
    (na : ∀ cm N sc as, chA Z.toStc cm N sc ex as = false) (nc : ∀ cm N sc a, chC Z.toStc cm N sc ex a = false) (ni : ∀ cm N sc tg a, chI Z.toStc cm N sc ex tg a = false) (nt : ∀ cm N sc l ops cs p, chE Z.toStc cm N sc ex (.Compare l ops cs p) = false) : Snd Z T C n ex where
  e := he
  t := fun X l ops cs p W _ h _ => by rw [nt] at h; cases h
  a := fun X as W _ h _ => by rw [na] at h; cases h
  c := fun X a W _ h _ => by rw [nc] at h; cases h
  i := fun X tg a W _ h _ => by rw [ni] at h; cases h
theorem snd_var (i : Nat) : Snd Z T C n (.var i) := by
  refine .ofE (fun X a W c h t => ?_) (fun _ _ _ as => by cases as <;> simp [chA]) (fun _ _ _ a => by simp [chC]) (fun _ _ _ _ a => by simp [chI]) (fun _ _ _ _ ops cs _ => by simp [chE])
  cases a <;> first | (simp [chE] at h; done) | skip
  simp only [chE, Bool.and_eq_true, decide_eq_true_eq] at h
  obtain ⟨h1, h2, h3⟩ := h
  obtain ⟨n1, n2, _⟩ := nmB_ok h3
  refine (pe_var h1 (visB_ok h2) n1 n2).imp fun σ H Q ⟨ρ, Γ, m, hr, hs, q⟩ => ?_
  unfold ev at q
  split at q
  · rename_i d hd
    obtain ⟨v, e1, e2⟩ := hs.2 i d hd
    exact ⟨v, e1, q _ ρ H Ext.refl hr e2⟩
  · exact q.elim
theorem snd_con (d : D) : Snd Z T C n (.con d) := by
  refine .ofE (fun X a W c h t => ?_) (fun _ _ _ as => by cases as <;> simp [chA]) (fun _ _ _ a => by simp [chC]) (fun _ _ _ _ a => by simp [chI]) (fun _ _ _ _ ops cs _ => by simp [chE])
  cases a <;> first | (simp [chE] at h; done) | skip
  simp only [chE] at h
  obtain ⟨v, hv, hd⟩ := conB_ok (X := X) h
  exact hv.imp fun σ H Q ⟨ρ, Γ, m, hr, hs, q⟩ => q _ ρ H Ext.refl hr (hd ρ H)
theorem snd_nil : Snd Z T C n .nil where
  t := fun X l ops cs p W _ h _ => by simp [chE] at h
  e := fun X a W _ h _ => by simp [chE] at h
  c := fun X a W _ h _ => by simp [chC] at h
  i := fun X tg a W _ h _ => by simp [chI] at h
  a := fun X as W c h t => by
    cases as with
    | nil => exact pa_nil.imp fun σ H Q ⟨ρ, Γ, m, hr, hs, q⟩ => q _ ρ H Ext.refl hr RVs.nil
    | cons _ _ => simp [chA] at h
theorem snd_cons {e r : Ex} (he : Snd Z T C n e) (hr : Snd Z T C n r) : Snd Z T C n (.cons e r) where
  t := fun X l ops cs p W _ h _ => by simp [chE] at h
  e := fun X a W _ h _ => by simp [chE] at h
  c := fun X a W _ h _ => by simp [chC] at h
  i := fun X tg a W _ h _ => by simp [chI] at h
  a := fun X as W c h t => by
    cases as with
    | nil => simp [chA] at h
    | cons a as =>
      simp only [chA, Bool.and_eq_true] at h
      exact (pa_cons (he.e X a W c h.1 t) (hr.a X as W c h.2.2 t) (star_cons h.2.1)).imp fun σ H Q q => iA_two q
theorem snd_tup {es : Ex} (h0 : Snd Z T C n es) : Snd Z T C n (.tup es) := by
  refine .ofE (fun X a W c h t => ?_) (fun _ _ _ as => by cases as <;> simp [chA]) (fun _ _ _ a => by simp [chC]) (fun _ _ _ _ a => by simp [chI]) (fun _ _ _ _ ops cs _ => by simp [chE])
  cases a <;> first | (simp [chE] at h; done) | skip
  simp only [chE] at h
  refine (pe_tup (h0.a X _ W c h t)).imp fun σ H Q ⟨ρ, Γ, m, hr, hs, q⟩ => ?_
  refine ⟨ρ, Γ, m, hr, hs, (PO.bnd (Rp' := RVs Z) q).mono fun vs H1 ⟨ds, ρ1, m1, e1, r1, v1, q1⟩ => ?_⟩
  split at q1
  · rename_i hl
    exact ⟨by rw [v1.length]; exact line_le hl, fun p hp => q1 _ ρ1 _ (Ext.new hp) (r1.new hp) (RV.tupN hp hl v1)⟩
  · exact q1.elim
theorem snd_lst {al : Bool} {es : Ex} (h0 : Snd Z T C n es) : Snd Z T C n (.lst al es) := by
  refine .ofE (fun X a W c h t => ?_) (fun _ _ _ as => by cases as <;> simp [chA]) (fun _ _ _ a => by simp [chC]) (fun _ _ _ _ a => by simp [chI]) (fun _ _ _ _ ops cs _ => by simp [chE])
  cases a <;> first | (simp [chE] at h; done) | skip
  simp only [chE] at h
  refine (pe_lst (h0.a X _ W c h t)).imp fun σ H Q ⟨ρ, Γ, m, hr, hs, q⟩ => ?_
  refine ⟨ρ, Γ, m, hr, hs, (PO.bnd (Rp' := RVs Z) q).mono fun vs H1 ⟨ds, ρ1, m1, e1, r1, v1, q1⟩ => ?_⟩
  split at q1
  · rename_i hl
    exact ⟨by rw [v1.length]; exact line_le hl, fun p hp => mk_ok q1 hl Ext.refl r1 v1 hp⟩
  · exact q1.elim
theorem snd_bin {o : O2} {a b : Ex} (ha : Snd Z T C n a) (hb : Snd Z T C n b) : Snd Z T C n (.bin o a b) := by
  refine .ofE (fun X a' W c h t => ?_) (fun _ _ _ as => by cases as <;> simp [chA]) (fun _ _ _ a => by simp [chC]) (fun _ _ _ _ a => by simp [chI]) (fun _ _ _ _ ops cs _ => by simp [chE])
  cases a' <;> first | (simp [chE] at h; done) | skip
  simp only [chE, Bool.and_eq_true] at h
  obtain ⟨h1, h2, h3⟩ := h
  rw [opB_ok h1]
  refine (pe_op (sBin (Z := Z) o) (ha.e X _ W c h2 t) (hb.e X _ W c h3 t)).imp fun σ H Q q => iE_two q fun ρ m dx dy x y H hr r1 r2 q => ?_
  obtain ⟨d, e, q⟩ := PO.lift q
  exact ⟨ρ, m, dx, dy, d, hr, r1, r2, e, fun v ρ' H' e r hv => q v ρ' H' e r hv.1⟩
theorem cmp_rd {W : WX} {o : C2} {m : M} {ρ : List Addr} {dx dy : D} {x y : V} {H : Hp} {σ : L2.St} {Q : VK} (hr : Rel Z ρ H m) (r1 : RV Z ρ H dx x) (r2 : RV Z ρ H dy y) (q : PO Z (RV Z) (fun c d H' => W c d σ H') ρ H Q (lift ((cmp2 m o dx dy).map .bl) m)) : rC Z o x y H Q := by
  obtain ⟨d, e, q⟩ := PO.lift q
  obtain ⟨b, e1, e2⟩ := Option.map_eq_some_iff.mp e
  subst e2
  exact ⟨ρ, m, dx, dy, b, hr, r1, r2, e1, q _ ρ H Ext.refl hr rfl⟩
theorem isC_of {W : WX} {t : TE} {f : Env → M → O D} {σ : L2.St} {H : Hp} {Q : Bool → Hp → Prop} (h : iC Z W (fun Γ m => bnd (f Γ m) fun x m => lift (truth m x) m) σ H Q)
    (ht : ∀ Q', iE Z W f σ H Q' → t σ H Q') (hb : ∀ ρ Γ m, Rel Z ρ H m → RS Z ρ H Γ σ → ∀ d m', f Γ m = some (.ok d m') → ∃ b, d = .bl b) : tTest t σ H Q := by
  obtain ⟨ρ, Γ, m, hr, hs, h⟩ := h
  refine ht _ ⟨ρ, Γ, m, hr, hs, ?_⟩
  have hb' := hb ρ Γ m hr hs
  have h1 : PO Z (fun _ _ a b => a = b) (fun c d H' => W c d σ H') ρ H Q (bnd (f Γ m) fun x m => lift (truth m x) m) := h
  clear h
  revert h1 hb'
  generalize f Γ m = r
  intro hb' h
  match r, h, hb' with
  | none, h, _ => exact h.elim
  | some (.ok d m'), h, hb' =>
    obtain ⟨b, rfl⟩ := hb' d m' rfl
    exact fun v ρ' H' e r hv => ⟨b, hv, h b ρ' H' e r rfl⟩
  | some (.ex c v m'), h, _ => exact h
theorem snd_cmp {o : C2} {a b : Ex} (ha : Snd Z T C n a) (hb : Snd Z T C n b) : Snd Z T C n (.cmp o a b) where
  a := fun X as W _ h _ => by cases as <;> simp [chA] at h
  c := fun X a W _ h _ => by simp [chC] at h
  i := fun X tg a W _ h _ => by simp [chI] at h
  e := fun X a' W c h t => by
    unfold chE at h
    split at h <;> first | contradiction | skip
    rename_i heq
    cases heq
    simp only [Bool.and_eq_true] at h
    obtain ⟨h1, h2, h3, h4⟩ := h
    rw [cmB_ok h1]
    exact (pe_cmpR (sCmp c.hu o c.K) (ha.e X _ W c h2 t) (hb.e X _ W c h3 t) (behind_ok h4)).imp fun σ H Q q => iE_two q fun ρ m dx dy x y H hr r1 r2 q => cmp_rd hr r1 r2 q
  t := fun X l ops cs p W c h t => by
    unfold chE at h
    split at h <;> first | contradiction | skip
    rename_i heq
    cases heq
    rename_i heq
    cases heq
    simp only [Bool.and_eq_true] at h
    obtain ⟨h1, h2, h3, h4⟩ := h
    rw [cmB_ok h1]
    refine (pt_cmpR (sCmp c.hu o c.K) (ha.e X _ W c h2 t) (hb.e X _ W c h3 t) (behind_ok h4)).imp fun σ H Q q => isC_of q (fun Q' q => iE_two q fun ρ m dx dy x y H hr r1 r2 q => cmp_rd hr r1 r2 q) ?_
    intro ρ Γ m _ _ d m' e
    unfold ev at e
    match ev T C a Γ m, e with
    | some (.ok x m1), e =>
      rw [bnd_ok] at e
      match ev T C b Γ m1, e with
      | some (.ok y m2), e =>
        rw [bnd_ok] at e
        cases q : cmp2 m2 o x y with
        | none => rw [q] at e; cases e
        | some k => rw [q] at e; cases e; exact ⟨k, rfl⟩

theorem snd_neg {a : Ex} (ha : Snd Z T C n a) : Snd Z T C n (.neg a) := by
  refine .ofE (fun X a' W c h t => ?_) (fun _ _ _ as => by cases as <;> simp [chA]) (fun _ _ _ a => by simp [chC]) (fun _ _ _ _ a => by simp [chI]) (fun _ _ _ _ ops cs _ => by simp [chE])
  unfold chE at h
  split at h <;> first | contradiction | skip
  rename_i heq
  cases heq
  refine (pe_un un_neg (ha.e X _ W c h t)).imp fun σ H Q q => iE_one (α := D) q fun ρ m dx x H hr r1 q => ?_
  split at q
  · rename_i i
    exact ⟨i, r1, q _ ρ H Ext.refl hr rfl⟩
  · exact q.elim
theorem snd_vnot {a : Ex} (ha : Snd Z T C n a) : Snd Z T C n (.vnot a) := by
  refine .ofE (fun X a' W c h t => ?_) (fun _ _ _ as => by cases as <;> simp [chA]) (fun _ _ _ a => by simp [chC]) (fun _ _ _ _ a => by simp [chI]) (fun _ _ _ _ ops cs _ => by simp [chE])
  unfold chE at h
  split at h <;> first | contradiction | skip
  rename_i heq
  cases heq
  refine (pe_notT (ha.e X _ W c h t)).imp fun σ H Q q => iE_one (α := D) (r := fun x H Q => ∃ k, TruV X.K x H k ∧ Q (.bl (!k)) H) q fun ρ m dx x H hr r1 q => ?_
  obtain ⟨d, e, q⟩ := PO.lift q
  obtain ⟨b, e1, e2⟩ := Option.map_eq_some_iff.mp e
  subst e2
  exact ⟨b, by rw [c.K]; exact truth_ok r1 hr e1, q _ ρ H Ext.refl hr rfl⟩
theorem and_rd {W : WX} {f g : Env → M → O D} {σ : L2.St} {H : Hp} {Q : VK} {K : PySem.W.Frag} (hk : K = Z.K) (q : iE Z W (fun Γ m => bnd (f Γ m) fun x m => match truth m x with | some true => g Γ m | some false => okk x m | none => none) σ H Q) :
    tAndT K (iE Z W f) (iE Z W g) σ H Q := by
  subst hk
  obtain ⟨ρ, Γ, m, hr, hs, q⟩ := q
  refine ⟨ρ, Γ, m, hr, hs, (PO.bnd (Rp' := RV Z) q).mono fun v H1 ⟨d, ρ1, m1, e1, r1, v1, q1⟩ => ?_⟩
  split at q1
  · rename_i ht
    exact ⟨true, truth_ok v1 r1 ht, ⟨ρ1, Γ, m1, r1, hs.ext e1, q1⟩⟩
  · rename_i ht
    exact ⟨false, truth_ok v1 r1 ht, q1 _ ρ1 H1 Ext.refl r1 v1⟩
  · exact q1.elim
theorem or_rd {W : WX} {f g : Env → M → O D} {σ : L2.St} {H : Hp} {Q : VK} {K : PySem.W.Frag} (hk : K = Z.K) (q : iE Z W (fun Γ m => bnd (f Γ m) fun x m => match truth m x with | some true => okk x m | some false => g Γ m | none => none) σ H Q) :
    tOrT K (iE Z W f) (iE Z W g) σ H Q := by
  subst hk
  obtain ⟨ρ, Γ, m, hr, hs, q⟩ := q
  refine ⟨ρ, Γ, m, hr, hs, (PO.bnd (Rp' := RV Z) q).mono fun v H1 ⟨d, ρ1, m1, e1, r1, v1, q1⟩ => ?_⟩
  split at q1
  · rename_i ht
    exact ⟨true, truth_ok v1 r1 ht, q1 _ ρ1 H1 Ext.refl r1 v1⟩
  · rename_i ht
    exact ⟨false, truth_ok v1 r1 ht, ⟨ρ1, Γ, m1, r1, hs.ext e1, q1⟩⟩
  · exact q1.elim
theorem snd_vand {a b : Ex} (ha : Snd Z T C n a) (hb : Snd Z T C n b) : Snd Z T C n (.vand a b) := by
  refine .ofE (fun X a' W c h t => ?_) (fun _ _ _ as => by cases as <;> simp [chA]) (fun _ _ _ a => by simp [chC]) (fun _ _ _ _ a => by simp [chI]) (fun _ _ _ _ ops cs _ => by simp [chE])
  unfold chE at h
  split at h <;> first | contradiction | skip
  rename_i heq
  cases heq
  rw [Bool.and_eq_true] at h
  obtain ⟨h1, h2⟩ := h
  refine (pe_andT (ha.e X _ W c h1 t) ?_).imp fun σ H Q q => and_rd c.K q
  split at h2
  · exact pe_one (hb.e X _ W c h2 t)
  · exact hb.e X _ W c h2 t
theorem snd_vor {a b : Ex} (ha : Snd Z T C n a) (hb : Snd Z T C n b) : Snd Z T C n (.vor a b) := by
  refine .ofE (fun X a' W c h t => ?_) (fun _ _ _ as => by cases as <;> simp [chA]) (fun _ _ _ a => by simp [chC]) (fun _ _ _ _ a => by simp [chI]) (fun _ _ _ _ ops cs _ => by simp [chE])
  unfold chE at h
  split at h <;> first | contradiction | skip
  rename_i heq
  cases heq
  rw [Bool.and_eq_true] at h
  obtain ⟨h1, h2⟩ := h
  refine (pe_orT (ha.e X _ W c h1 t) ?_).imp fun σ H Q q => or_rd c.K q
  split at h2
  · exact pe_one (hb.e X _ W c h2 t)
  · exact hb.e X _ W c h2 t
theorem snd_ife {t a b : Ex} (ht : Snd Z T C n t) (ha : Snd Z T C n a) (hb : Snd Z T C n b) : Snd Z T C n (.ife t a b) := by
  refine .ofE (fun X a' W c h t => ?_) (fun _ _ _ as => by cases as <;> simp [chA]) (fun _ _ _ a => by simp [chC]) (fun _ _ _ _ a => by simp [chI]) (fun _ _ _ _ ops cs _ => by simp [chE])
  cases a' <;> first | (simp [chE] at h; done) | skip
  simp only [chE, Bool.and_eq_true] at h
  obtain ⟨h1, h2, h3⟩ := h
  refine (pe_ifExp (ht.c X _ W c h1 t) (ha.e X _ W c h2 t) (hb.e X _ W c h3 t)).imp fun σ H Q ⟨ρ, Γ, m, hr, hs, q⟩ => ?_
  refine ⟨ρ, Γ, m, hr, hs, (PO.bnd (Rp' := fun _ _ a b => a = b) q).mono fun k H1 ⟨d, ρ1, m1, e1, r1, v1, q1⟩ => ?_⟩
  subst v1
  cases d with
  | true => exact ⟨ρ1, Γ, m1, r1, hs.ext e1, q1⟩
  | false => exact ⟨ρ1, Γ, m1, r1, hs.ext e1, q1⟩
theorem snd_idx {a b : Ex} (ha : Snd Z T C n a) (hb : Snd Z T C n b) : Snd Z T C n (.idx a b) := by
  refine .ofE (fun X a' W c h t => ?_) (fun _ _ _ as => by cases as <;> simp [chA]) (fun _ _ _ a => by simp [chC]) (fun _ _ _ _ a => by simp [chI]) (fun _ _ _ _ ops cs _ => by simp [chE])
  cases a' <;> first | (simp [chE] at h; done) | skip
  simp only [chE, Bool.and_eq_true] at h
  obtain ⟨h1, h2, h3⟩ := h
  refine (pe_ix (ix_seq (X := X)) (ha.e X _ W c h1 t) (hb.e X _ W c h2 t) (ix_ok h3)).imp fun σ H Q q => iE_two q fun ρ m dx dy x y H hr r1 r2 q => ?_
  obtain ⟨d, e, q⟩ := PO.lift q
  rw [c.K]
  exact item_ok hr r1 r2 e fun v hv => q v ρ H Ext.refl hr hv
theorem chn_rd {W : WX} {o p : C2} {a b c : Ex} {σ : L2.St} {H : Hp} {Q : VK} (q : iE Z W (ev T C (.chn o p a b c)) σ H Q) : tChain (rC Z o) (rC Z p) (iE Z W (ev T C a)) (iE Z W (ev T C b)) (iE Z W (ev T C c)) σ H Q := by
  obtain ⟨ρ, Γ, m, hr, hs, q⟩ := q
  unfold ev at q
  refine ⟨ρ, Γ, m, hr, hs, (PO.bnd (Rp' := RV Z) q).mono fun v H1 ⟨d, ρ1, m1, e1, r1, v1, q1⟩ => ?_⟩
  refine ⟨ρ1, Γ, m1, r1, hs.ext e1, (PO.bnd (Rp' := RV Z) q1).mono fun u H2 ⟨d2, ρ2, m2, e2, r2, v2, q2⟩ => ?_⟩
  split at q2
  · rename_i hc
    refine ⟨ρ2, m2, d, d2, true, r2, v1.ext e2, v2, hc, true, rfl, ?_⟩
    rw [if_pos rfl]
    refine ⟨ρ2, Γ, m2, r2, (hs.ext e1).ext e2, (PO.bnd (Rp' := RV Z) q2).mono fun w H3 ⟨d3, ρ3, m3, e3, r3, v3, q3⟩ => ?_⟩
    obtain ⟨k, hk, q3⟩ := PO.lift q3
    obtain ⟨b', hb, e⟩ := Option.map_eq_some_iff.mp hk
    subst e
    exact ⟨ρ3, m3, d2, d3, b', r3, v2.ext e3, v3, hb, q3 _ ρ3 H3 Ext.refl r3 rfl⟩
  · rename_i hc
    refine ⟨ρ2, m2, d, d2, false, r2, v1.ext e2, v2, hc, false, rfl, ?_⟩
    rw [if_neg Bool.false_ne_true]
    exact q2 _ ρ2 H2 Ext.refl r2 rfl
  · exact q2.elim
theorem chn_bl {o p : C2} {a b c : Ex} {Γ : Env} {m m' : M} {d : D} (e : ev T C (.chn o p a b c) Γ m = some (.ok d m')) : ∃ b, d = .bl b := by
  unfold ev at e
  match ev T C a Γ m, e with
  | some (.ok x m1), e =>
    rw [bnd_ok] at e
    match ev T C b Γ m1, e with
    | some (.ok y m2), e =>
      rw [bnd_ok] at e
      split at e
      · match ev T C c Γ m2, e with
        | some (.ok z m3), e =>
          rw [bnd_ok] at e
          cases q : cmp2 m3 p y z with
          | none => rw [q] at e; cases e
          | some k => rw [q] at e; cases e; exact ⟨k, rfl⟩
      · cases e; exact ⟨false, rfl⟩
      · cases e
theorem snd_chn {o p : C2} {a b c : Ex} (ha : Snd Z T C n a) (hb : Snd Z T C n b) (hc : Snd Z T C n c) : Snd Z T C n (.chn o p a b c) where
  a := fun X as W _ h _ => by cases as <;> simp [chA] at h
  c := fun X a W _ h _ => by simp [chC] at h
  i := fun X tg a W _ h _ => by simp [chI] at h
  e := fun X a' W cx h t => by
    unfold chE at h
    split at h <;> first | contradiction | skip
    rename_i heq
    cases heq
    simp only [Bool.and_eq_true] at h
    obtain ⟨h1, h2, h3, h4, h5, h6⟩ := h
    rw [cmB_ok h1, cmB_ok h2]
    refine (pe_chain (sCmp cx.hu o cx.K) (sCmp cx.hu p cx.K) (ha.e X _ W cx h3 t) (hb.e X _ W cx h4 t) (hc.e X _ W cx h5 t) (behind_ok h6)).imp fun σ H Q q => ?_
    exact chn_rd q
  t := fun X l ops cs p' W cx h t => by
    unfold chE at h
    split at h <;> first | contradiction | skip
    rename_i heq
    cases heq
    rename_i heq
    cases heq
    simp only [Bool.and_eq_true] at h
    obtain ⟨h1, h2, h3, h4, h5, h6⟩ := h
    rw [cmB_ok h1, cmB_ok h2]
    refine (pt_chain (sCmp cx.hu o cx.K) (sCmp cx.hu p cx.K) (ha.e X _ W cx h3 t) (hb.e X _ W cx h4 t) (hc.e X _ W cx h5 t) (behind_ok h6)).imp fun σ H Q q => isC_of q (fun Q' q => chn_rd q) ?_
    intro ρ Γ m _ _ d m' e
    exact chn_bl e

theorem part_ok {lo : Ex} (hl : Snd Z T C n lo) {cm : Bool} {X : Cx} {W : WX} {l : Option Expr} (c : Cxt Z T C n cm X) (h : (match l with | none => lo.isNil | some e => !lo.isNil && chE Z.toStc cm X.N X.env.scope lo e) = true) (t : Takes X W) :
    ∃ tl, L2.PO X l tl ∧ ∀ (Q : Option Int → Hp → Prop) (σ : L2.St) (H : Hp) (ρ : List Addr) (Γ : Env) (m : M), Rel Z ρ H m → RS Z ρ H Γ σ →
      PO Z (fun _ _ d o => prt d = o) (fun c d H' => W c d σ H') ρ H Q (if lo.isNil then okk .non m else bnd (ev T C lo Γ m) asInt) → tl σ H Q := by
  cases l with
  | none =>
    have h' : lo.isNil = true := h
    refine ⟨tNoPart, po_none, fun Q σ H ρ Γ m hr hs q => ?_⟩
    rw [if_pos h'] at q
    exact q none ρ H Ext.refl hr rfl
  | some e =>
    have h' : (!lo.isNil && chE Z.toStc cm X.N X.env.scope lo e) = true := h
    rw [Bool.and_eq_true, Bool.not_eq_true'] at h'
    obtain ⟨h1, h2⟩ := h'
    refine ⟨_, po_some (hl.e X e W c h2 t), fun Q σ H ρ Γ m hr hs q => ?_⟩
    rw [if_neg (by rw [h1]; exact Bool.false_ne_true)] at q
    refine ⟨ρ, Γ, m, hr, hs, (PO.bnd (Rp' := RV Z) q).mono fun v H1 ⟨d, ρ1, m1, e1, r1, v1, q1⟩ => ?_⟩
    unfold asInt at q1
    split at q1
    · rename_i i
      exact ⟨i, v1, q1 _ ρ1 H1 Ext.refl r1 rfl⟩
    · exact q1.elim
theorem snd_slc {a lo hi : Ex} (ha : Snd Z T C n a) (hl : Snd Z T C n lo) (hh : Snd Z T C n hi) : Snd Z T C n (.slc a lo hi) := by
  refine .ofE (fun X a' W c h t => ?_) (fun _ _ _ as => by cases as <;> simp [chA]) (fun _ _ _ a => by simp [chC]) (fun _ _ _ _ a => by simp [chI]) (fun _ _ _ _ ops cs _ => by simp [chE])
  unfold chE at h
  split at h <;> first | contradiction | skip
  rename_i heq
  cases heq
  rw [Bool.and_eq_true, Bool.and_eq_true] at h
  obtain ⟨h1, h2, h3⟩ := h
  obtain ⟨tl, p1, k1⟩ := part_ok hl c h2 t
  obtain ⟨th, p2, k2⟩ := part_ok hh c h3 t
  have sl : SlR X (fun x l u H Q => rSlS x l u H Q ∨ rSlA X.K x l u H Q ∨ rSlL X.K x l u H Q) := sl_str.or (sl_tupA.or sl_list)
  refine (pe_slice sl (ha.e X _ W c h1 t) p1 p2).imp fun σ H Q ⟨ρ, Γ, m, hr, hs, q⟩ => ?_
  unfold ev at q
  refine ⟨ρ, Γ, m, hr, hs, (PO.bnd (Rp' := RV Z) q).mono fun v H1 ⟨d, ρ1, m1, e1, r1, v1, q1⟩ => ?_⟩
  refine k1 _ σ H1 ρ1 Γ m1 r1 (hs.ext e1) ((PO.bnd (Rp' := fun _ _ d o => prt d = o) q1).mono fun o H2 ⟨d2, ρ2, m2, e2, r2, v2, q2⟩ => ?_)
  refine k2 _ σ H2 ρ2 Γ m2 r2 ((hs.ext e1).ext e2) ((PO.bnd (Rp' := fun _ _ d o => prt d = o) q2).mono fun o' H3 ⟨d3, ρ3, m3, e3, r3, v3, q3⟩ => ?_)
  obtain ⟨r, hk, q3⟩ := PO.lift q3
  subst v2 v3
  rw [c.K]
  exact slice_ok r3 ((v1.ext e2).ext e3) hk fun v ρ' H' e r' hv => q3 v ρ' H' e r' hv.1
theorem args_rd {W : WX} {es : Ex} {k : List D → M → O D} {σ : L2.St} {H : Hp} {Q : VK} {r : List V → Hp → VK → Prop} (q : iE Z W (fun Γ m => bnd (evA T C es Γ m) fun xs m => k xs m) σ H Q)
    (hr : ∀ ρ m ds vs H, Rel Z ρ H m → RVs Z ρ H ds vs → PO Z (RV Z) (fun c d H' => W c d σ H') ρ H Q (k ds m) → r vs H Q) : iA Z W (evA T C es) σ H (fun vs H1 => r vs H1 Q) := by
  obtain ⟨ρ, Γ, m, h0, hs, q⟩ := q
  refine ⟨ρ, Γ, m, h0, hs, (PO.bnd (Rp' := RVs Z) q).mono fun vs H1 ⟨ds, ρ1, m1, e1, r1, v1, q1⟩ => ?_⟩
  exact hr ρ1 m1 ds vs H1 r1 v1 q1
theorem snd_cal {k : Nat} {es : Ex} (h0 : Snd Z T C n es) : Snd Z T C n (.cal k es) := by
  refine .ofE (fun X a' W c h t => ?_) (fun _ _ _ as => by cases as <;> simp [chA]) (fun _ _ _ a => by simp [chC]) (fun _ _ _ _ a => by simp [chI]) (fun _ _ _ _ ops cs _ => by simp [chE])
  unfold chE at h
  split at h <;> first | contradiction | skip
  rename_i x p as pos heq
  cases heq
  simp only [Bool.and_eq_true] at h
  obtain ⟨⟨hcm, h1⟩, h2, h3, h4⟩ := h
  split at h1
  · rename_i a hfa
    rw [Bool.and_eq_true] at h1
    obtain ⟨fd, ps, hb, F⟩ := c.fns k a hfa
    have F := F Z.hid
    obtain ⟨n1, _, _⟩ := nmB_ok h3
    have hm := c.mgs _ _ (mgB_ok h1.1)
    have hk : PySem.W.keepIn X.K (.ref a) = true := by rw [c.K]; exact h1.2
    have hr : Room (3 * n) X.A := (c.room hcm).mono (by omega)
    have hA := h0.a X _ W c h4 t
    have hstar := chA_star h4
    cases as with
    | nil =>
      refine (pe_callS0 F hr (glB_ok h2) hm hk hb (fun σ => passAt t σ) n1).imp fun σ H Q q => ?_
      have q' : iA Z W (evA T C es) σ H (fun vs H1 => prF Z C k vs H1 Q (WE W σ)) := args_rd (r := fun vs H1 Q => prF Z C k vs H1 Q (WE W σ)) q fun ρ m ds vs H hr hv q => ⟨ρ, m, ds, hr, hv, q⟩
      -- no arguments
      obtain ⟨ρ, Γ, m, g1, g2, g3⟩ := q'
      have hn : es = .nil := by cases es <;> first | rfl | (simp [chA] at h4)
      subst hn
      exact g3 [] ρ H Ext.refl g1 RVs.nil
    | cons b bs =>
      rw [List.all_cons, Bool.and_eq_true] at hstar
      refine (pe_callS F hr (glB_ok h2) hm hk hb (fun σ => passAt t σ) hA n1 (star_cons hstar.1) (star_any hstar.2)).imp fun σ H Q q => ?_
      exact args_rd (r := fun vs H1 Q => prF Z C k vs H1 Q (WE W σ)) q fun ρ m ds vs H hr hv q => ⟨ρ, m, ds, hr, hv, q⟩
  · cases h1
theorem snd_bi {b : Bi} {es : Ex} (h0 : Snd Z T C n es) : Snd Z T C n (.bi b es) := by
  refine .ofE (fun X a' W c h t => ?_) (fun _ _ _ as => by cases as <;> simp [chA]) (fun _ _ _ a => by simp [chC]) (fun _ _ _ _ a => by simp [chI]) (fun _ _ _ _ ops cs _ => by simp [chE])
  unfold chE at h
  split at h <;> first | contradiction | skip
  rename_i x p a1 as pos heq
  cases heq
  simp only [Bool.and_eq_true, decide_eq_true_eq] at h
  obtain ⟨⟨hcm, hx⟩, h1, h2, h3, h4, h5, h6⟩ := h
  obtain ⟨n1, _, n3⟩ := nmB_ok h5
  have hm := c.mgn _ (mgN_ok h2)
  have hA := h0.a X _ W c h6 t
  have hstar := chA_star h6
  rw [List.all_cons, Bool.and_eq_true] at hstar
  have fin : ∀ {σ H Q}, iE Z W (ev T C (.bi b es)) σ H Q → iA Z W (evA T C es) σ H (fun vs H1 => rBi Z b vs H1 Q) := fun {σ H Q} q => args_rd q fun ρ m ds vs H hr hv q => by
    obtain ⟨d, e, q⟩ := PO.lift q
    exact ⟨ρ, m, ds, d, hr, hv, e, fun v ρ' H' e r hv => q v ρ' H' e r hv.1⟩
  have hv := bltB_ok h3
  have S := sBi (X := X) (Z := Z) b c.K (c.calm hcm) h1
  have key : ∀ id, biVal b = .builtin id → PE X (.Call (.Name x p) (a1 :: as) [] pos) (iE Z W (ev T C (.bi b es))) := fun id e =>
    (pe_callB (by rw [← e]; exact S) (glB_ok h4) hm (by rw [← e]; exact hv) hA n3 n1 (star_cons hstar.1) (star_any hstar.2)).imp fun σ H Q q => fin q
  have key2 : ∀ id, biVal b = .type id → PE X (.Call (.Name x p) (a1 :: as) [] pos) (iE Z W (ev T C (.bi b es))) := fun id e =>
    (pe_callTy (by rw [← e]; exact S) (glB_ok h4) hm (by rw [← e]; exact hv) hA n3 n1 (star_cons hstar.1) (star_any hstar.2)).imp fun σ H Q q => fin q
  cases b <;> first | exact key _ rfl | exact key2 _ rfl
end
end Mi

end
section
set_option Elab.async false
set_option linter.all false
set_option maxRecDepth 100000
set_option maxHeartbeats 4000000
/-! Mi10: targets, comprehensions, tests, what is walked -/
namespace Mi
open PySem PySem.Spec PyProof.Rows L2 TL
theorem _root_.L2.PG.imp {X : Cx} {e : Expr} {t t' : TG} (h : PG X e t) (hi : ∀ x σ H Q, t' x σ H Q → t x σ H Q) : PG X e t' := ⟨fun pins s σ H v u Q I r q => h.run pins s σ H v u Q I r (hi _ _ _ _ q)⟩
theorem _root_.L2.PGs.imp {X : Cx} {e : List Expr} {t t' : TGs} (h : PGs X e t) (hi : ∀ x σ H Q, t' x σ H Q → t x σ H Q) : PGs X e t' := ⟨fun pins s σ H v u Q I r q => h.run pins s σ H v u Q I r (hi _ _ _ _ q)⟩
theorem _root_.L2.PG.or {X : Cx} {e : Expr} {t t' : TG} (h : PG X e t) (h' : PG X e t') : PG X e (fun x σ H Q => t x σ H Q ∨ t' x σ H Q) := ⟨fun pins s σ H v u Q I r q => q.elim (fun q => h.run pins s σ H v u Q I r q) (fun q => h'.run pins s σ H v u Q I r q)⟩
def iG (Z : Sta) (t : Tg) : TG := fun x σ H Q => ∃ ρ Γ m d Γ', Rel Z ρ H m ∧ RS Z ρ H Γ σ ∧ RV Z ρ H d x ∧ asgT m t d Γ = some Γ' ∧ ∀ σ', RS Z ρ H Γ' σ' → (∀ j, j ∉ tgS t → σ'[j]? = σ[j]?) → Q σ' H
def iGs (Z : Sta) (t : Tg) : TGs := fun xs σ H Q => ∃ ρ Γ m ds Γ', Rel Z ρ H m ∧ RS Z ρ H Γ σ ∧ RVs Z ρ H ds xs ∧ asgL m t ds Γ = some Γ' ∧ ∀ σ', RS Z ρ H Γ' σ' → (∀ j, j ∉ tgS t → σ'[j]? = σ[j]?) → Q σ' H
/-- plain targets -/
def plT : Expr → Bool
  | .Name _ _ => true
  | .Tuple _ _ _ => true
  | _ => false
theorem plT_cons {e : Expr} {es : List Expr} {env : PySem.Env} (h : plT e = true) : assignEach (e :: es) env = (false, assign e env) :: assignEach es env := by
  cases e <;> first | rfl | cases h
theorem plT_each {env : PySem.Env} : ∀ {es : List Expr}, es.all plT = true → (assignEach es env).length = es.length ∧ (assignEach es env).findIdx? (·.1) = none
  | [], _ => ⟨rfl, rfl⟩
  | e :: es, h => by
    rw [List.all_cons, Bool.and_eq_true] at h
    obtain ⟨h1, h2⟩ := plT_each (env := env) h.2
    rw [plT_cons h.1]
    refine ⟨by rw [List.length_cons, h1, List.length_cons], ?_⟩
    rw [List.findIdx?_cons]
    simp [h2]
theorem tgB_pl {N : List Str} {sc : Scope} : ∀ {t : Tg} {e : Expr}, tgB N sc t e = true → plT e = true
  | t, e, h => by cases t <;> cases e <;> first | rfl | (simp [tgB] at h; done)
theorem tgsB_pl {N : List Str} {sc : Scope} : ∀ {t : Tg} {es : List Expr}, tgsB N sc t es = true → es.all plT = true
  | t, [], _ => rfl
  | t, e :: es, h => by
    cases t <;> first | (simp [tgsB] at h; done) | skip
    simp only [tgsB, Bool.and_eq_true] at h
    rw [List.all_cons, tgB_pl h.1, tgsB_pl h.2]; rfl
theorem asgL_len {m : M} : ∀ {t : Tg} {ds : List D} {Γ Γ' : Env} {N : List Str} {sc : Scope} {es : List Expr}, asgL m t ds Γ = some Γ' → tgsB N sc t es = true → ds.length = es.length
  | .nil, ds, Γ, Γ', N, sc, es, h, h' => by
    cases es <;> first | (simp [tgsB] at h'; done) | skip
    cases ds <;> first | rfl | (simp [asgL] at h; done)
  | .cons t r, ds, Γ, Γ', N, sc, es, h, h' => by
    cases es <;> first | (simp [tgsB] at h'; done) | skip
    cases ds <;> first | (simp [asgL] at h; done) | skip
    simp only [tgsB, Bool.and_eq_true] at h'
    simp only [asgL] at h
    obtain ⟨Γ1, _, h2⟩ := Option.bind_eq_some_iff.mp h
    rw [List.length_cons, List.length_cons, asgL_len h2 h'.2]
  | .nm _, ds, _, _, _, _, es, h, h' => by cases es <;> simp [tgsB] at h'
  | .tp _, ds, _, _, _, _, es, h, h' => by cases es <;> simp [tgsB] at h'
section
variable {Z : Sta} {X : Cx} {N : List Str} {sc : Scope}
/-- where a target's names stand -/
def LocOk (X : Cx) (sc : Scope) : Prop := ∀ x, sc.names.lookup x = some .local ∨ sc.names.lookup x = some .cell → Loc X.env.scope x ∧ (X.fn x = true ∨ X.env.scope.names.lookup x = some .local)
mutual
theorem pgT (hk : X.K = Z.K) (hc : X.calm = true) (hn : X.N.Nodup) (hl : LocOk X sc) : ∀ (t : Tg) (e : Expr), tgB X.N sc t e = true → PG X e (iG Z t)
  | .nm i, e, h => by
    cases e <;> first | (simp [tgB] at h; done) | skip
    simp only [tgB, Bool.and_eq_true, decide_eq_true_eq] at h
    obtain ⟨l1, l2⟩ := hl _ (lcB_ok h.2)
    refine (pg_name hn h.1 l1 l2).imp fun x σ H Q ⟨ρ, Γ, m, d, Γ', hr, hs, hv, ha, q⟩ => ?_
    simp only [asgT, Option.some.injEq] at ha
    subst ha
    refine q _ (hs.set i hv) fun j hj => ?_
    rw [List.getElem?_set_ne]
    simp only [tgS, List.mem_singleton] at hj
    exact fun z => hj z.symm
  | .tp t, e, h => by
    cases e <;> first | (simp [tgB] at h; done) | skip
    rename_i es k p
    simp only [tgB] at h
    have P := pgsT hk hc hn hl t es h
    obtain ⟨e1, e2⟩ := plT_each (env := X.env) (tgsB_pl h)
    refine ((pg_tup hc P e1 e2).or (pg_lst hc P e1 e2)).imp fun x σ H Q ⟨ρ, Γ, m, d, Γ', hr, hs, hv, ha, q⟩ => ?_
    unfold asgT at ha
    obtain ⟨xs, h1, h2⟩ := Option.bind_eq_some_iff.mp ha
    have fin : ∀ {vs}, RVs Z ρ H xs vs → vs.length = es.length ∧ iGs Z t vs σ H Q := fun {vs} hvs =>
      ⟨by rw [hvs.length]; exact asgL_len h2 h, ⟨ρ, Γ, m, xs, Γ', hr, hs, hvs, h2, q⟩⟩
    split at h1
    · cases h1
      unfold RV at hv
      obtain ⟨a, vs, g1, g2, _, g4⟩ := hv
      exact .inl ⟨a, vs, g1, by rw [hk]; exact g2, (fin g4).1, (fin g4).2⟩
    · obtain ⟨a, vs, g1, g2, _, g4⟩ := seq_at hr hv h1
      rw [hk]
      rcases g2 with g2 | g2
      · exact .inr ⟨a, vs, g1, g2, (fin g4).1, (fin g4).2⟩
      · exact .inl ⟨a, vs, g1, g2, (fin g4).1, (fin g4).2⟩
  | .nil, e, h => by cases e <;> simp [tgB] at h
  | .cons _ _, e, h => by cases e <;> simp [tgB] at h
theorem pgsT (hk : X.K = Z.K) (hc : X.calm = true) (hn : X.N.Nodup) (hl : LocOk X sc) : ∀ (t : Tg) (es : List Expr), tgsB X.N sc t es = true → PGs X es (iGs Z t)
  | .nil, es, h => by
    cases es <;> first | (simp [tgsB] at h; done) | skip
    refine pgs_nil.imp fun xs σ H Q ⟨ρ, Γ, m, ds, Γ', hr, hs, hv, ha, q⟩ => ?_
    cases ds <;> first | (simp [asgL] at ha; done) | skip
    simp only [asgL, Option.some.injEq] at ha
    subst ha
    exact ⟨hv, q σ hs fun _ _ => rfl⟩
  | .cons t r, es, h => by
    cases es <;> first | (simp [tgsB] at h; done) | skip
    rename_i e es
    simp only [tgsB, Bool.and_eq_true] at h
    refine (pgs_cons (pgT hk hc hn hl t e h.1) (pgsT hk hc hn hl r es h.2) (by rw [plT_cons (tgB_pl h.1)]; rfl)).imp fun xs σ H Q ⟨ρ, Γ, m, ds, Γ', hr, hs, hv, ha, q⟩ => ?_
    cases ds <;> first | (simp [asgL] at ha; done) | skip
    rename_i d ds
    unfold RVs at hv
    obtain ⟨v, vr, g1, g2, g3⟩ := hv
    simp only [asgL] at ha
    obtain ⟨Γ1, h1, h2⟩ := Option.bind_eq_some_iff.mp ha
    refine ⟨v, vr, g1, ρ, Γ, m, d, Γ1, hr, hs, g2, h1, fun σ1 hs1 k1 => ⟨ρ, Γ1, m, ds, Γ', hr, hs1, g3, h2, fun σ2 hs2 k2 => q σ2 hs2 fun j hj => ?_⟩⟩
    simp only [tgS, List.mem_append, not_or] at hj
    rw [k2 j hj.2, k1 j hj.1]
  | .nm _, es, h => by cases es <;> simp [tgsB] at h
  | .tp _, es, h => by cases es <;> simp [tgsB] at h
end
end

/-! ### a hidden list -/
section
variable {Z : Sta} {ρ : List Addr} {H : Hp} {m : M}
abbrev Sta.hide (Z : Sta) (a : Addr) : Sta := { Z with hid := a :: Z.hid }
/-- at a heap where the list at b is another -/
theorem SqF.upd {K : PySem.W.Frag} {b : Addr} {us : List V} {o : HO} {a : Addr} {xs : List V} (hb : H b = some (.lst us)) (h : SqF K H a xs) : SqF K (L2.upd H b o) a xs := by
  rcases h with ⟨ob, h⟩ | h
  · exact .inl ⟨ob, by rw [upd_ne (fun z => by rw [z, hb] at h; cases h)]; exact h⟩
  · exact .inr h
theorem SqT.updL {K : PySem.W.Frag} {b : Addr} {us : List V} {o : HO} {a : Addr} {xs : List V} (hb : H b = some (.lst us)) (h : SqT K H a xs) : SqT K (L2.upd H b o) a xs := by
  rcases h with (h | ⟨ob, h⟩) | h
  · exact .inl (.inl (by rw [upd_ne (fun z => by rw [z, hb] at h; cases h)]; exact h))
  · exact .inl (.inr ⟨ob, by rw [upd_ne (fun z => by rw [z, hb] at h; cases h)]; exact h⟩)
  · exact .inr h
theorem EXO_ne {a b : Addr} {cls : Value} {dd : Option Addr} {us : List V} (hb : H b = some (.lst us)) (ha : H a = some (EXO a cls dd)) : a ≠ b := fun z => by
  rw [z, hb] at ha
  have := Option.some.inj ha
  cases this
theorem xd_ne {a b : Addr} {fs : List (Str × V)} {us : List V} (hb : H b = some (.lst us)) (ha : H a = some (.xd fs)) : a ≠ b := fun z => by
  rw [z, hb] at ha
  cases ha
theorem XF.hupd {b : Addr} {us : List V} {o : HO} {vs : List V} {dd : Option Addr} (hb : H b = some (.lst us)) (h : XF Z ρ H vs dd) : XF Z ρ (L2.upd H b o) vs dd := by
  rcases h with h | ⟨a, fs, xv, q1, q2, q3, q4, q5⟩
  · exact .inl h
  · exact .inr ⟨a, fs, xv, q1, q2, q3, by rw [upd_ne (xd_ne hb q4)]; exact q4, q5⟩
mutual
theorem RV.hupd {b : Addr} {us : List V} {o : HO} (hb : H b = some (.lst us)) (hh : b ∈ Z.hid) : ∀ {d : D} {v : V}, RV Z ρ H d v → RV Z ρ (L2.upd H b o) d v
  | .non, _, h => h
  | .bl _, _, h => h
  | .int _, _, h => h
  | .str _, _, h => h
  | .tup xs, _, h => by
    unfold RV at h ⊢
    obtain ⟨a, vs, e1, e2, e3, e4⟩ := h
    exact ⟨a, vs, e1, SqT.updL hb e2, e3, RVs.hupd hb hh e4⟩
  | .lst xs, _, h => by
    unfold RV at h ⊢
    obtain ⟨a, vs, e1, e2, e3, e4, e5⟩ := h
    exact ⟨a, vs, e1, by rw [upd_ne (fun z => e3 (List.mem_append_right _ (by rw [z]; exact hh)))]; exact e2, e3, e4, RVs.hupd hb hh e5⟩
  | .dct _, _, h => by unfold RV at h; exact h.elim
  | .ref i, _, h => by
    unfold RV at h ⊢
    exact h
  | .fn k, _, h => h
  | .exc c xs, _, h => by
    unfold RV at h ⊢
    obtain ⟨a, C, dd, vs, e1, e2, e3, e4, e5, e6⟩ := h
    exact ⟨a, C, dd, vs, e1, by rw [upd_ne (EXO_ne hb e2)]; exact e2, e3, e4, RVs.hupd hb hh e5, e6.hupd hb⟩
  | .scr is, _, h => by
    unfold RV at h ⊢
    obtain ⟨a, e1, e2, e3⟩ := h
    exact ⟨a, e1, SqF.upd hb e2, e3⟩
theorem RVs.hupd {b : Addr} {us : List V} {o : HO} (hb : H b = some (.lst us)) (hh : b ∈ Z.hid) : ∀ {ds : List D} {vs : List V}, RVs Z ρ H ds vs → RVs Z ρ (L2.upd H b o) ds vs
  | [], _, h => h
  | x :: r, _, h => by
    unfold RVs at h ⊢
    obtain ⟨v, vr, e1, e2, e3⟩ := h
    exact ⟨v, vr, e1, RV.hupd hb hh e2, RVs.hupd hb hh e3⟩
end
theorem RF.hupd {b : Addr} {us : List V} {o : HO} (hb : H b = some (.lst us)) (hh : b ∈ Z.hid) : ∀ {fs : List (Mi.Tx × D)} {l : List (Str × V)}, RF Z ρ H fs l → RF Z ρ (L2.upd H b o) fs l
  | [], _, h => h
  | (f, d) :: r, _, h => by
    unfold RF at h ⊢
    obtain ⟨v, lr, e1, e2, e3⟩ := h
    exact ⟨v, lr, e1, e2.hupd hb hh, RF.hupd hb hh e3⟩
theorem Rel.hupd {b : Addr} {us : List V} {o : HO} (hb : H b = some (.lst us)) (hh : b ∈ Z.hid) (r : Rel Z ρ H m) : Rel Z ρ (L2.upd H b o) m := by
  refine ⟨r.len, r.nd, fun i a ob h1 h2 => ?_, fun a ha => ⟨(r.hd a ha).1, ?_⟩⟩
  · have hab : a ≠ b := fun z => (r.hd b hh).1 (z ▸ List.mem_of_getElem? h1)
    have q := r.ob i a ob h1 h2
    cases ob with
    | lst xs => obtain ⟨vs, g1, g2, g3⟩ := q; exact ⟨vs, by rw [upd_ne hab]; exact g1, g2, g3.hupd hb hh⟩
    | dct kvs => exact q.elim
    | ins c fs => obtain ⟨C, dx, vfs, h0, g1, g2⟩ := q; exact ⟨C, dx, vfs, h0, by rw [upd_ne hab]; exact g1, g2.hupd hb hh⟩
  · by_cases z : a = b
    · subst z; exact ⟨o, upd_same⟩
    · obtain ⟨u, hu⟩ := (r.hd a ha).2
      exact ⟨u, by rw [upd_ne z]; exact hu⟩
mutual
/-- a list that is new may be hidden -/
theorem RV.hidden {b : Addr} {o : HO} (hb : H b = none) : ∀ {d : D} {v : V}, RV Z ρ H d v → RV (Z.hide b) ρ (L2.upd H b o) d v
  | .non, _, h => h
  | .bl _, _, h => h
  | .int _, _, h => h
  | .str _, _, h => h
  | .tup xs, _, h => by
    unfold RV at h ⊢
    obtain ⟨a, vs, e1, e2, e3, e4⟩ := h
    exact ⟨a, vs, e1, SqT.ext (Ext.new (ρ := ρ) hb) e2, e3, RVs.hidden hb e4⟩
  | .lst xs, _, h => by
    unfold RV at h ⊢
    obtain ⟨a, vs, e1, e2, e3, e4, e5⟩ := h
    have hne := ne_of_none e2 hb
    refine ⟨a, vs, e1, by rw [upd_ne hne]; exact e2, fun hm => ?_, e4, RVs.hidden hb e5⟩
    rcases List.mem_append.mp hm with hm | hm
    · exact e3 (List.mem_append_left _ hm)
    · rcases List.mem_cons.mp hm with hm | hm
      · exact hne hm
      · exact e3 (List.mem_append_right _ hm)
  | .dct _, _, h => by unfold RV at h; exact h.elim
  | .ref i, _, h => by
    unfold RV at h ⊢
    exact h
  | .fn k, _, h => h
  | .exc c xs, _, h => by
    unfold RV at h ⊢
    obtain ⟨a, C, dd, vs, e1, e2, e3, e4, e5, e6⟩ := h
    refine ⟨a, C, dd, vs, e1, by rw [upd_ne (ne_of_none e2 hb)]; exact e2, e3, e4, RVs.hidden hb e5, ?_⟩
    rcases e6 with h | ⟨a, fs, xv, q1, q2, q3, q4, q5⟩
    · exact .inl h
    · exact .inr ⟨a, fs, xv, q1, q2, q3, by rw [upd_ne (ne_of_none q4 hb)]; exact q4, q5⟩
  | .scr is, _, h => by
    unfold RV at h ⊢
    obtain ⟨a, e1, e2, e3⟩ := h
    refine ⟨a, e1, ?_, e3⟩
    rcases e2 with ⟨ob, h⟩ | h
    · exact .inl ⟨ob, (Ext.new (ρ := ρ) hb).frz _ _ _ h⟩
    · exact .inr h
theorem RVs.hidden {b : Addr} {o : HO} (hb : H b = none) : ∀ {ds : List D} {vs : List V}, RVs Z ρ H ds vs → RVs (Z.hide b) ρ (L2.upd H b o) ds vs
  | [], _, h => h
  | x :: r, _, h => by
    unfold RVs at h ⊢
    obtain ⟨v, vr, e1, e2, e3⟩ := h
    exact ⟨v, vr, e1, RV.hidden hb e2, RVs.hidden hb e3⟩
end
theorem RF.hidden {b : Addr} {o : HO} (hb : H b = none) : ∀ {fs : List (Mi.Tx × D)} {l : List (Str × V)}, RF Z ρ H fs l → RF (Z.hide b) ρ (L2.upd H b o) fs l
  | [], _, h => h
  | (f, d) :: r, _, h => by
    unfold RF at h ⊢
    obtain ⟨v, lr, e1, e2, e3⟩ := h
    exact ⟨v, lr, e1, e2.hidden hb, RF.hidden hb e3⟩
theorem Rel.hidden {b : Addr} {o : HO} (hb : H b = none) (r : Rel Z ρ H m) : Rel (Z.hide b) ρ (L2.upd H b o) m := by
  refine ⟨r.len, r.nd, fun i a ob h1 h2 => ?_, fun a ha => ?_⟩
  · have hab : a ≠ b := fun z => r.notin hb (z ▸ List.mem_of_getElem? h1)
    have q := r.ob i a ob h1 h2
    cases ob with
    | lst xs => obtain ⟨vs, g1, g2, g3⟩ := q; exact ⟨vs, by rw [upd_ne hab]; exact g1, g2, g3.hidden hb⟩
    | dct kvs => exact q.elim
    | ins c fs => obtain ⟨C, dx, vfs, h0, g1, g2⟩ := q; exact ⟨C, dx, vfs, h0, by rw [upd_ne hab]; exact g1, g2.hidden hb⟩
  · rcases List.mem_cons.mp ha with rfl | ha
    · exact ⟨r.notin hb, o, upd_same⟩
    · exact r.hd_ext (Ext.new hb) a ha
theorem RS.hidden {Γ : Env} {σ : L2.St} {b : Addr} {o : HO} (hb : H b = none) (h : RS Z ρ H Γ σ) : RS (Z.hide b) ρ (L2.upd H b o) Γ σ :=
  ⟨h.1, fun i d q => let ⟨v, q1, q2⟩ := h.2 i d q; ⟨v, q1, q2.hidden hb⟩⟩
mutual
/-- at the end it may be shown: as a list of our own, or as a value -/
theorem RV.shown {b : Addr} (new : List Addr) (hw : ∀ a ∈ new, a = b) {us : List V} (hL : H b = some (.lst us)) : ∀ {d : D} {v : V}, RV (Z.hide b) ρ H d v → RV Z (ρ ++ new) H d v
  | .non, _, h => h
  | .bl _, _, h => h
  | .int _, _, h => h
  | .str _, _, h => h
  | .tup xs, _, h => by
    unfold RV at h ⊢
    obtain ⟨a, vs, e1, e2, e3, e4⟩ := h
    exact ⟨a, vs, e1, e2, e3, RVs.shown new hw hL e4⟩
  | .lst xs, _, h => by
    unfold RV at h ⊢
    obtain ⟨a, vs, e1, e2, e3, e4, e5⟩ := h
    refine ⟨a, vs, e1, e2, fun hm => e3 ?_, e4, RVs.shown new hw hL e5⟩
    rcases List.mem_append.mp hm with hm | hm
    · rcases List.mem_append.mp hm with hm | hm
      · exact List.mem_append_left _ hm
      · exact List.mem_append_right _ (by rw [hw a hm]; exact List.mem_cons_self)
    · exact List.mem_append_right _ (List.mem_cons_of_mem _ hm)
  | .dct _, _, h => by unfold RV at h; exact h.elim
  | .ref i, _, h => by
    unfold RV at h ⊢
    obtain ⟨a, e1, e2⟩ := h
    refine ⟨a, e1, ?_⟩
    rw [List.getElem?_append_left (List.getElem?_eq_some_iff.mp e2).1]
    exact e2
  | .fn k, _, h => h
  | .exc c xs, _, h => by
    unfold RV at h ⊢
    obtain ⟨a, C, dd, vs, e1, e2, e3, e4, e5, e6⟩ := h
    have nb : ∀ {p : Addr}, p ∉ ρ → p ≠ b → p ∉ ρ ++ new := fun n z hm => by
      rcases List.mem_append.mp hm with hm | hm
      · exact n hm
      · exact z (hw _ hm)
    refine ⟨a, C, dd, vs, e1, e2, nb e3 (EXO_ne hL e2), e4, RVs.shown new hw hL e5, ?_⟩
    rcases e6 with h | ⟨a, fs, xv, q1, q2, q3, q4, q5⟩
    · exact .inl h
    · exact .inr ⟨a, fs, xv, q1, q2, nb q3 (xd_ne hL q4), q4, q5⟩
  | .scr is, _, h => by
    unfold RV at h ⊢
    exact h
theorem RVs.shown {b : Addr} (new : List Addr) (hw : ∀ a ∈ new, a = b) {us : List V} (hL : H b = some (.lst us)) : ∀ {ds : List D} {vs : List V}, RVs (Z.hide b) ρ H ds vs → RVs Z (ρ ++ new) H ds vs
  | [], _, h => h
  | x :: r, _, h => by
    unfold RVs at h ⊢
    obtain ⟨v, vr, e1, e2, e3⟩ := h
    exact ⟨v, vr, e1, RV.shown new hw hL e2, RVs.shown new hw hL e3⟩
end
theorem RF.shown {b : Addr} (new : List Addr) (hw : ∀ a ∈ new, a = b) {us : List V} (hL : H b = some (.lst us)) : ∀ {fs : List (Mi.Tx × D)} {l : List (Str × V)}, RF (Z.hide b) ρ H fs l → RF Z (ρ ++ new) H fs l
  | [], _, h => h
  | (f, d) :: r, _, h => by
    unfold RF at h ⊢
    obtain ⟨v, lr, e1, e2, e3⟩ := h
    exact ⟨v, lr, e1, e2.shown new hw hL, RF.shown new hw hL e3⟩
theorem RO.shown {b : Addr} (new : List Addr) (hw : ∀ a ∈ new, a = b) {us : List V} (hL : H b = some (.lst us)) {a : Addr} {o : Ob} (q : RO (Z.hide b) ρ H a o) : RO Z (ρ ++ new) H a o := by
  cases o with
  | lst xs => obtain ⟨vs, g1, g2, g3⟩ := q; exact ⟨vs, g1, g2, g3.shown new hw hL⟩
  | dct kvs => exact q.elim
  | ins c fs => obtain ⟨C, dx, vfs, h0, g1, g2⟩ := q; exact ⟨C, dx, vfs, h0, g1, g2.shown new hw hL⟩
/-- the list that was hidden comes -/
theorem mk_shown {al : Bool} {xs : List D} {b : Addr} {vs : List V} {E : XK} {ρ0 : List Addr} {H0 : Hp} {Q : VK} (h : PO Z (RV Z) E ρ0 H0 Q (mk al xs m)) (hl : xs.length ≤ line) (e : Ext ρ0 H0 ρ H) (hf : H0 b = none) (hz : b ∉ Z.hid) (r : Rel (Z.hide b) ρ H m) (hb : H b = some (.lst vs)) (hv : RVs (Z.hide b) ρ H xs vs) : Q (.ref b) H := by
  have nb : b ∉ ρ := (r.hd b List.mem_cons_self).1
  cases al with
  | false =>
    have h' : PO Z (RV Z) E ρ0 H0 Q (okk (.lst xs) m) := h
    have r' : Rel Z ρ H m := ⟨r.len, r.nd, fun i a o h1 h2 => by have := RO.shown [] (by simp) hb (r.ob i a o h1 h2); rwa [List.append_nil] at this, fun a ha => r.hd a (List.mem_cons_of_mem _ ha)⟩
    refine h' _ ρ H e r' ?_
    unfold RV
    refine ⟨b, vs, rfl, hb, fun hm => ?_, hl, ?_⟩
    · rcases List.mem_append.mp hm with hm | hm
      · exact nb hm
      · exact hz hm
    · have := RVs.shown [] (by simp) hb hv; rwa [List.append_nil] at this
  | true =>
    have h' : PO Z (RV Z) E ρ0 H0 Q (okk (.ref m.length) (m ++ [.lst xs])) := h
    have e2 : Ext ρ0 H0 (ρ ++ [b]) H := by
      obtain ⟨new, e1, e3⟩ := e.pre
      refine ⟨⟨new ++ [b], by rw [e1, List.append_assoc], fun p hp => ?_⟩, e.tup, e.frz, e.keep, e.free⟩
      rcases List.mem_append.mp hp with hp | hp
      · exact e3 p hp
      · rw [List.mem_singleton.mp hp]; exact hf
    have hw : ∀ a ∈ [b], a = b := fun a ha => List.mem_singleton.mp ha
    refine h' _ (ρ ++ [b]) H e2 ⟨?_, ?_, fun i a o h1 h2 => ?_, fun a ha => ⟨fun hm => ?_, (r.hd a (List.mem_cons_of_mem _ ha)).2⟩⟩ ?_
    · rw [List.length_append, List.length_append, r.len]; rfl
    · rw [List.nodup_append]
      exact ⟨r.nd, by simp, fun x hx y hy => by rw [List.mem_singleton.mp hy]; exact fun z => nb (z ▸ hx)⟩
    · by_cases hi : i < ρ.length
      · rw [List.getElem?_append_left hi] at h1
        rw [List.getElem?_append_left (by rw [← r.len]; exact hi)] at h2
        exact RO.shown [b] hw hb (r.ob i a o h1 h2)
      · have hi' : i = ρ.length := by
          have := (List.getElem?_eq_some_iff.mp h1).1
          rw [List.length_append] at this
          simp at this
          omega
        subst hi'
        rw [List.getElem?_append_right (Nat.le_refl _)] at h1
        rw [r.len, List.getElem?_append_right (Nat.le_refl _)] at h2
        simp at h1 h2
        subst h1 h2
        exact ⟨vs, hb, hl, hv.shown [_] hw hb⟩
    · rcases List.mem_append.mp hm with hm | hm
      · exact (r.hd a (List.mem_cons_of_mem _ ha)).1 hm
      · rw [List.mem_singleton.mp hm] at ha; exact hz ha
    · unfold RV
      exact ⟨b, rfl, by rw [← r.len, List.getElem?_append_right (Nat.le_refl _)]; simp⟩
theorem Ext.hiddenL {ρ ρ' : List Addr} {H H' : Hp} {L : Addr} {o : HO} (e : Ext ρ H ρ' H') (h : H L = none) : Ext ρ H ρ' (L2.upd H' L o) := by
  have k : ∀ {a : Addr} {u : HO}, H a = some u → a ≠ L := fun {a u} q z => by rw [z, h] at q; cases q
  refine ⟨e.pre, fun a xs q => ?_, fun a ob u q => ?_, fun a u n q => ?_, fun a q => ?_⟩
  · rw [upd_ne (k q)]; exact e.tup _ _ q
  · rw [upd_ne (k q)]; exact e.frz _ _ _ q
  · rw [upd_ne (k q)]; exact e.keep _ _ n q
  · by_cases z : a = L
    · subst z; exact h
    · rw [upd_ne z] at q; exact e.free _ q
mutual
theorem asgT_len {m : M} : ∀ {t : Tg} {d : D} {Γ Γ' : Env}, asgT m t d Γ = some Γ' → Γ'.length = Γ.length
  | .nm i, d, Γ, Γ', h => by
    simp only [asgT, Option.some.injEq] at h
    subst h
    rw [List.length_set]
  | .tp t, d, Γ, Γ', h => by
    unfold asgT at h
    obtain ⟨xs, _, h2⟩ := Option.bind_eq_some_iff.mp h
    exact asgL_len2 h2
  | .nil, d, Γ, Γ', h => by simp [asgT] at h
  | .cons _ _, d, Γ, Γ', h => by simp [asgT] at h
theorem asgL_len2 {m : M} : ∀ {t : Tg} {ds : List D} {Γ Γ' : Env}, asgL m t ds Γ = some Γ' → Γ'.length = Γ.length
  | .nil, ds, Γ, Γ', h => by
    cases ds <;> first | (simp [asgL] at h; done) | skip
    simp only [asgL, Option.some.injEq] at h
    rw [h]
  | .cons t r, ds, Γ, Γ', h => by
    cases ds <;> first | (simp [asgL] at h; done) | skip
    simp only [asgL] at h
    obtain ⟨Γ1, h1, h2⟩ := Option.bind_eq_some_iff.mp h
    rw [asgL_len2 h2, asgT_len h1]
  | .nm _, ds, Γ, Γ', h => by simp [asgL] at h
  | .tp _, ds, Γ, Γ', h => by simp [asgL] at h
end
theorem wipeE_len (Γ : Env) : ∀ vs : List Nat, (wipe Γ vs).length = Γ.length
  | [] => rfl
  | v :: vs => by unfold wipe; rw [List.length_set, wipeE_len Γ vs]
end
end Mi

end
section
set_option Elab.async false
set_option linter.all false
set_option maxRecDepth 100000
set_option maxHeartbeats 4000000
/-! Mi11: comprehensions, tests, what is walked, methods -/
namespace Mi
open PySem PySem.Spec PyProof.Rows L2 TL
section
variable {Z : Sta} {T : Tb} {C : Nat → List D → M → O D} {n : Nat}
theorem Snd.no {ex : Ex} (ne : ∀ cm N sc a, chE Z.toStc cm N sc ex a = false) (na : ∀ cm N sc as, chA Z.toStc cm N sc ex as = false) (nc : ∀ cm N sc a, chC Z.toStc cm N sc ex a = false) (ni : ∀ cm N sc tg a, chI Z.toStc cm N sc ex tg a = false) : Snd Z T C n ex where
  e := fun X a W _ h _ => by rw [ne] at h; cases h
  t := fun X l ops cs p W _ h _ => by rw [ne] at h; cases h
  a := fun X as W _ h _ => by rw [na] at h; cases h
  c := fun X a W _ h _ => by rw [nc] at h; cases h
  i := fun X tg a W _ h _ => by rw [ni] at h; cases h
theorem Snd.ofC {ex : Ex} (hc : ∀ {cm : Bool} (X : Cx) (a : Expr) (W : WX), Cxt Z T C n cm X → chC Z.toStc cm X.N X.env.scope ex a = true → Takes X W → PT X a (iC Z W (evC T C ex)))
    (ne : ∀ cm N sc a, chE Z.toStc cm N sc ex a = false) (na : ∀ cm N sc as, chA Z.toStc cm N sc ex as = false) (ni : ∀ cm N sc tg a, chI Z.toStc cm N sc ex tg a = false) : Snd Z T C n ex where
  e := fun X a W _ h _ => by rw [ne] at h; cases h
  t := fun X l ops cs p W _ h _ => by rw [ne] at h; cases h
  a := fun X as W _ h _ => by rw [na] at h; cases h
  c := hc
  i := fun X tg a W _ h _ => by rw [ni] at h; cases h
theorem Snd.ofI {ex : Ex} (hi : ∀ {cm : Bool} (X : Cx) (tg a : Expr) (W : WX), Cxt Z T C n cm X → chI Z.toStc cm X.N X.env.scope ex tg a = true → Takes X W → PI X tg a (iI Z W (evI T C ex)))
    (ne : ∀ cm N sc a, chE Z.toStc cm N sc ex a = false) (na : ∀ cm N sc as, chA Z.toStc cm N sc ex as = false) (nc : ∀ cm N sc a, chC Z.toStc cm N sc ex a = false) : Snd Z T C n ex where
  e := fun X a W _ h _ => by rw [ne] at h; cases h
  t := fun X l ops cs p W _ h _ => by rw [ne] at h; cases h
  a := fun X as W _ h _ => by rw [na] at h; cases h
  c := fun X a W _ h _ => by rw [nc] at h; cases h
  i := hi

/-! ### tests -/
theorem snd_tru {e : Ex} (he : Snd Z T C n e) : Snd Z T C n (.tru e) := by
  refine .ofC (fun X a W c h t => ?_) (fun _ _ _ a => by simp [chE]) (fun _ _ _ as => by cases as <;> simp [chA]) (fun _ _ _ _ a => by simp [chI])
  unfold chC at h
  rw [Bool.or_eq_true] at h
  rcases h with h | h
  · rw [Bool.and_eq_true] at h
    refine (pt_truth (he.e X a W c h.2 t) (truB_ok h.1)).imp fun σ H Q q => ?_
    have q' : iC Z W (fun Γ m => bnd (ev T C e Γ m) fun x m => lift (truth m x) m) σ H Q := q
    obtain ⟨ρ, Γ, m, hr, hs, q'⟩ := q'
    refine ⟨ρ, Γ, m, hr, hs, (PO.bnd (Rp' := RV Z) q').mono fun v H1 ⟨d, ρ1, m1, e1, r1, v1, q1⟩ => ?_⟩
    obtain ⟨b, hb, q1⟩ := PO.lift q1
    exact ⟨b, by rw [c.K]; exact truth_ok v1 r1 hb, q1 b ρ1 H1 Ext.refl r1 rfl⟩
  · split at h
    · exact he.t X _ _ _ _ W c h t
    · cases h
theorem snd_tnot {e : Ex} (he : Snd Z T C n e) : Snd Z T C n (.tnot e) := by
  refine .ofC (fun X a W c h t => ?_) (fun _ _ _ a => by simp [chE]) (fun _ _ _ as => by cases as <;> simp [chA]) (fun _ _ _ _ a => by simp [chI])
  unfold chC at h
  split at h <;> first | contradiction | skip
  rename_i heq
  cases heq
  refine (pt_not (he.c X _ W c h t)).imp fun σ H Q ⟨ρ, Γ, m, hr, hs, q⟩ => ?_
  refine ⟨ρ, Γ, m, hr, hs, (PO.bnd (Rp' := fun _ _ a b => a = b) q).mono fun k H1 ⟨d, ρ1, m1, e1, r1, v1, q1⟩ => ?_⟩
  subst v1
  exact q1 _ ρ1 H1 Ext.refl r1 rfl
theorem pw_of_bool {X : Cx} {op : BoolOp} {es : List Expr} {p : Pos} {t : TT} (h : PT X (.BoolOp op es p) t) : PW X (.BoolOp op es p) t := by
  refine ⟨fun wh pins s σ H Q I q => ?_⟩
  have := h.run pins s σ H Q I q
  cases op <;> exact this
theorem tand_rd {W : WX} {f g : Env → M → O Bool} {σ : L2.St} {H : Hp} {Q : Bool → Hp → Prop} (q : iC Z W (fun Γ m => bnd (f Γ m) fun x m => if x then g Γ m else okk false m) σ H Q) : tAnd (iC Z W f) (iC Z W g) σ H Q := by
  obtain ⟨ρ, Γ, m, hr, hs, q⟩ := q
  refine ⟨ρ, Γ, m, hr, hs, (PO.bnd (Rp' := fun _ _ a b => a = b) q).mono fun k H1 ⟨d, ρ1, m1, e1, r1, v1, q1⟩ => ?_⟩
  subst v1
  cases d with
  | true => exact ⟨ρ1, Γ, m1, r1, hs.ext e1, q1⟩
  | false => exact q1 _ ρ1 H1 Ext.refl r1 rfl
theorem tor_rd {W : WX} {f g : Env → M → O Bool} {σ : L2.St} {H : Hp} {Q : Bool → Hp → Prop} (q : iC Z W (fun Γ m => bnd (f Γ m) fun x m => if x then okk true m else g Γ m) σ H Q) : tOr (iC Z W f) (iC Z W g) σ H Q := by
  obtain ⟨ρ, Γ, m, hr, hs, q⟩ := q
  refine ⟨ρ, Γ, m, hr, hs, (PO.bnd (Rp' := fun _ _ a b => a = b) q).mono fun k H1 ⟨d, ρ1, m1, e1, r1, v1, q1⟩ => ?_⟩
  subst v1
  cases d with
  | true => exact q1 _ ρ1 H1 Ext.refl r1 rfl
  | false => exact ⟨ρ1, Γ, m1, r1, hs.ext e1, q1⟩
theorem snd_tand {a b : Ex} (ha : Snd Z T C n a) (hb : Snd Z T C n b) : Snd Z T C n (.tand a b) := by
  refine .ofC (fun X a' W c h t => ?_) (fun _ _ _ a => by simp [chE]) (fun _ _ _ as => by cases as <;> simp [chA]) (fun _ _ _ _ a => by simp [chI])
  unfold chC at h
  split at h <;> first | contradiction | skip
  rename_i heq
  cases heq
  rw [Bool.and_eq_true] at h
  obtain ⟨h1, h2⟩ := h
  refine (PW.pt (pw_and (ha.c X _ W c h1 t) ?_)).imp fun σ H Q q => tand_rd q
  split at h2
  · exact pw_and1 (hb.c X _ W c h2 t)
  · exact pw_of_bool (hb.c X _ W c h2 t)
theorem snd_tor {a b : Ex} (ha : Snd Z T C n a) (hb : Snd Z T C n b) : Snd Z T C n (.tor a b) := by
  refine .ofC (fun X a' W c h t => ?_) (fun _ _ _ a => by simp [chE]) (fun _ _ _ as => by cases as <;> simp [chA]) (fun _ _ _ _ a => by simp [chI])
  unfold chC at h
  split at h <;> first | contradiction | skip
  rename_i heq
  cases heq
  rw [Bool.and_eq_true] at h
  obtain ⟨h1, h2⟩ := h
  refine (PW.pt (pw_or (ha.c X _ W c h1 t) ?_)).imp fun σ H Q q => tor_rd q
  split at h2
  · exact pw_or1 (hb.c X _ W c h2 t)
  · exact pw_of_bool (hb.c X _ W c h2 t)

/-! ### what is walked -/
mutual
theorem RV.rehid {ρ : List Addr} {H : Hp} {hid : List Addr} (hh : ∀ a ∈ hid, a ∈ Z.hid ∨ H a = none) : ∀ {d : D} {v : V}, RV Z ρ H d v → RV { Z with hid := hid } ρ H d v
  | .non, _, h => h
  | .bl _, _, h => h
  | .int _, _, h => h
  | .str _, _, h => h
  | .tup xs, _, h => by
    unfold RV at h ⊢
    obtain ⟨a, vs, e1, e2, e3, e4⟩ := h
    exact ⟨a, vs, e1, e2, e3, RVs.rehid hh e4⟩
  | .lst xs, _, h => by
    unfold RV at h ⊢
    obtain ⟨a, vs, e1, e2, e3, e4, e5⟩ := h
    refine ⟨a, vs, e1, e2, fun hm => ?_, e4, RVs.rehid hh e5⟩
    rcases List.mem_append.mp hm with hm | hm
    · exact e3 (List.mem_append_left _ hm)
    · rcases hh a hm with hm | hm
      · exact e3 (List.mem_append_right _ hm)
      · rw [hm] at e2; cases e2
  | .dct _, _, h => by unfold RV at h; exact h.elim
  | .ref i, _, h => by
    unfold RV at h ⊢
    exact h
  | .fn k, _, h => h
  | .exc c xs, _, h => by
    unfold RV at h ⊢
    obtain ⟨a, C, dd, vs, e1, e2, e3, e4, e5, e6⟩ := h
    exact ⟨a, C, dd, vs, e1, e2, e3, e4, RVs.rehid hh e5, e6⟩
  | .scr is, _, h => by
    unfold RV at h ⊢
    exact h
theorem RVs.rehid {ρ : List Addr} {H : Hp} {hid : List Addr} (hh : ∀ a ∈ hid, a ∈ Z.hid ∨ H a = none) : ∀ {ds : List D} {vs : List V}, RVs Z ρ H ds vs → RVs { Z with hid := hid } ρ H ds vs
  | [], _, h => h
  | x :: r, _, h => by
    unfold RVs at h ⊢
    obtain ⟨v, vr, e1, e2, e3⟩ := h
    exact ⟨v, vr, e1, RV.rehid hh e2, RVs.rehid hh e3⟩
end
theorem wsOk_get {m : M} {ws : List (Nat × Ob)} (h : wsOk m ws = true) {p : Nat × Ob} (hp : p ∈ ws) : m[p.1]? = some p.2 := by
  have := List.all_eq_true.mp h p hp
  simpa using this
/-- a list, a tuple: items borne at each later heap -/
theorem RIt.lst {ρ : List Addr} {H : Hp} {w : It} {a : Addr} (hl : w.xs.length ≤ line)
    (h : ∀ hid ρ2 H2 m2, (∀ a ∈ hid, a ∈ Z.hid ∨ H a = none) → Ext ρ H ρ2 H2 → Rel { Z with hid := hid } ρ2 H2 m2 → wsOk m2 w.ws = true → ∃ vs, SqL Z.K H2 a vs ∧ RVs { Z with hid := hid } ρ2 H2 w.xs vs) : RIt Z ρ H w (Itl Z.K a) where
  len := hl
  go := fun hid ρ2 H2 m2 hh e r hw i hi => by
    obtain ⟨vs, h1, h2⟩ := h hid ρ2 H2 m2 hh e r hw
    obtain ⟨v, g1, g2⟩ := h2.get (List.getElem?_eq_getElem hi)
    refine ⟨⟨vs, v, h1, g1⟩, fun x H' y => ?_⟩
    obtain ⟨rfl, y⟩ := y
    have := y vs h1
    rw [g1] at this
    cases this
    exact ⟨Ext.refl, r, _, List.getElem?_eq_getElem hi, g2⟩
  stop := fun hid ρ2 H2 m2 hh e r hw => by
    obtain ⟨vs, h1, h2⟩ := h hid ρ2 H2 m2 hh e r hw
    exact ⟨vs, h1, by rw [h2.length]; exact Nat.le_refl _⟩
theorem RIt.tup {ρ : List Addr} {H : Hp} {w : It} {a : Addr} (hl : w.xs.length ≤ line)
    (h : ∀ hid ρ2 H2 m2, (∀ a ∈ hid, a ∈ Z.hid ∨ H a = none) → Ext ρ H ρ2 H2 → Rel { Z with hid := hid } ρ2 H2 m2 → wsOk m2 w.ws = true → ∃ vs, SqT Z.K H2 a vs ∧ RVs { Z with hid := hid } ρ2 H2 w.xs vs) : RIt Z ρ H w (Itt Z.K a) where
  len := hl
  go := fun hid ρ2 H2 m2 hh e r hw i hi => by
    obtain ⟨vs, h1, h2⟩ := h hid ρ2 H2 m2 hh e r hw
    obtain ⟨v, g1, g2⟩ := h2.get (List.getElem?_eq_getElem hi)
    refine ⟨⟨vs, v, h1, g1⟩, fun x H' y => ?_⟩
    obtain ⟨rfl, y⟩ := y
    have := y vs h1
    rw [g1] at this
    cases this
    exact ⟨Ext.refl, r, _, List.getElem?_eq_getElem hi, g2⟩
  stop := fun hid ρ2 H2 m2 hh e r hw => by
    obtain ⟨vs, h1, h2⟩ := h hid ρ2 H2 m2 hh e r hw
    exact ⟨vs, h1, by rw [h2.length]; exact Nat.le_refl _⟩
theorem RIt.str {ρ : List Addr} {H : Hp} {s : Mi.Tx} (hl : s.length ≤ line) : RIt Z ρ H ⟨s.map fun c => .str [c], []⟩ (Its (toS s)) := by
  refine ⟨by simpa using hl, fun hid ρ2 H2 m2 hh e r hw i hi => ⟨?_, fun x H' y => ?_⟩, fun hid ρ2 H2 m2 hh e r hw => ?_⟩
  · have hi : i < (s.map _).length := hi
    rw [List.length_map] at hi
    show i < (toS s).cps.size
    simpa [toS] using hi
  · obtain ⟨rfl, c, h1, rfl⟩ := y
    have h2 : s[i]? = some c := by simpa [toS] using h1
    exact ⟨Ext.refl, r, .str [c], by show (s.map _)[i]? = _; rw [List.getElem?_map, h2]; rfl, rfl, (by show 1 ≤ line; decide)⟩
  · show (toS s).cps.size ≤ (s.map _).length
    simp [toS]
theorem RIt.rng {ρ : List Addr} {H : Hp} {lo hi : Int} (hl : hi - lo ≤ 16777216) : RIt Z ρ H ⟨rangeL lo hi, []⟩ (Itr lo (hi - lo).toNat) := by
  have e0 : (rangeL lo hi).length = (hi - lo).toNat := by simp [rangeL]
  refine ⟨?_, fun hid ρ2 H2 m2 hh e r hw i hi => ⟨?_, fun x H' y => ?_⟩, fun hid ρ2 H2 m2 hh e r hw => ?_⟩
  · show (rangeL lo hi).length ≤ line
    rw [e0]
    have : (line : Int) = 16777216 := by decide
    omega
  · have hi : i < (rangeL lo _).length := hi
    rw [e0] at hi
    exact hi
  · obtain ⟨rfl, rfl⟩ := y
    have hi' : i < (rangeL lo _).length := hi
    rw [e0] at hi'
    refine ⟨Ext.refl, r, .int (lo + (i : Nat)), ?_, rfl⟩
    show (rangeL lo _)[i]? = _
    unfold rangeL
    rw [List.getElem?_map, List.getElem?_range hi']
    rfl
  · show (hi - lo).toNat ≤ (rangeL lo hi).length
    rw [e0]; exact Nat.le_refl _

theorem _root_.L2.PI.or {X : Cx} {tg e : Expr} {t t' : TI} (h : PI X tg e t) (h' : PI X tg e t') : PI X tg e (fun σ H Q => t σ H Q ∨ t' σ H Q) := ⟨fun pins s σ H Q I q => q.elim (fun q => h.run pins s σ H Q I q) (fun q => h'.run pins s σ H Q I q)⟩
/-- all that a plain walk may go over -/
def iAll (K : PySem.W.Frag) (te : TE) : TI := fun σ H R => te σ H fun x H1 => (∃ a, x = .ref a ∧ (∃ xs, SqL K H1 a xs) ∧ R (Itl K a) H1) ∨ (∃ a, x = .ref a ∧ (∃ xs, SqT K H1 a xs) ∧ R (Itt K a) H1) ∨ ∃ s, x = .str s ∧ R (Its s) H1
theorem pi_all {X : Cx} {tg e : Expr} {te : TE} (he : PE X e te) : PI X tg e (iAll X.K te) := by
  refine ⟨fun pins s σ H R I h => ?_⟩
  refine thn (he.run pins s σ H _ I h) fun v s1 ⟨x, H1, I1, r1, q1⟩ => ?_
  rcases q1 with q1 | q1 | q1
  · obtain ⟨a, e, ⟨xs, hq⟩, q⟩ := q1
    subst e
    cases r1
    obtain ⟨its, rv, p, hz⟩ := I1.list hq
    refine wpAny_pyIter_list p.isList ?_
    refine ⟨s1.heap.objs.size, [s1.heap.objs.size], _, _, H1, rfl, I1.kept (t' := s1.toks) fun b o e => Heap.get?_push_of_some _ e, turn_list a _, ⟨_, Heap.get?_push_size _ rfl, rfl, rfl⟩, fun b hb => ?_, q⟩
    have e : b = s1.heap.objs.size := by simpa using hb
    subst e
    exact I1.fpOk (Nat.le_refl _) (I1.hok.fresh (Nat.le_refl _))
  · obtain ⟨a, e, ⟨xs, hq⟩, q⟩ := q1
    subst e
    cases r1
    obtain ⟨its, rv, p, hz⟩ := I1.tuple hq
    refine wpAny_pyIter_tuple (show s1.heap.IsTuple a its.toArray from p) ?_
    refine ⟨s1.heap.objs.size, [s1.heap.objs.size], _, _, H1, rfl, I1.kept (t' := s1.toks) fun b o e => Heap.get?_push_of_some _ e, turn_tuple a _, ⟨_, Heap.get?_push_size _ rfl, rfl, rfl⟩, fun b hb => ?_, q⟩
    have e : b = s1.heap.objs.size := by simpa using hb
    subst e
    exact I1.fpOk (Nat.le_refl _) (I1.hok.fresh (Nat.le_refl _))
  · obtain ⟨y, ex, q⟩ := q1
    subst ex
    obtain ⟨t, rfl⟩ := r1
    cases ha : y.cps.all (· < 128)
    · exact wpAny_pyIter_wide ha (pi_one (tk := s1.toks) I1 _ (turn_str _ y t "str_iterator" (.inr rfl)) ⟨_, Heap.get?_push_size _ rfl, rfl, rfl⟩ q)
    · exact wpAny_pyIter_ascii ha (pi_one (tk := s1.toks) I1 _ (turn_str _ y t "str_ascii_iterator" (.inl rfl)) ⟨_, Heap.get?_push_size _ rfl, rfl, rfl⟩ q)
theorem walk_rd {ρ : List Addr} {H : Hp} {m : M} {d : D} {x : V} {w : It} (hr : Rel Z ρ H m) (hv : RV Z ρ H d x) (hw : walk m d = some w) {R : L2.It → Hp → Prop} (hR : ∀ J, RIt Z ρ H w J → R J H) :
    (∃ a, x = .ref a ∧ (∃ xs, SqL Z.K H a xs) ∧ R (Itl Z.K a) H) ∨ (∃ a, x = .ref a ∧ (∃ xs, SqT Z.K H a xs) ∧ R (Itt Z.K a) H) ∨ ∃ s, x = .str s ∧ R (Its s) H := by
  cases d with
  | tup xs =>
    simp only [walk, Option.some.injEq] at hw
    subst hw
    unfold RV at hv
    obtain ⟨a, vs, g1, g2, g3, g4⟩ := hv
    refine .inr (.inl ⟨a, g1, ⟨vs, g2⟩, hR _ (RIt.tup g3 fun hid ρ2 H2 m2 hh e r _ => ⟨vs, SqT.ext e g2, (RVs.rehid hh g4).ext e⟩)⟩)
  | lst xs =>
    simp only [walk, Option.some.injEq] at hw
    subst hw
    unfold RV at hv
    obtain ⟨a, vs, g1, g2, g2', g3, g4⟩ := hv
    refine .inl ⟨a, g1, ⟨vs, SqL.of g2⟩, hR _ (RIt.lst g3 fun hid ρ2 H2 m2 hh e r _ => ⟨vs, SqL.of (e.keep _ _ (fun z => g2' (List.mem_append_left _ z)) g2), (RVs.rehid hh g4).ext e⟩)⟩
  | scr is =>
    simp only [walk, Option.some.injEq] at hw
    subst hw
    unfold RV at hv
    obtain ⟨a, g1, g2, g3⟩ := hv
    refine .inl ⟨a, g1, ⟨_, g2.sq⟩, hR _ (RIt.lst (by simpa using g3) fun hid ρ2 H2 m2 hh e r _ => ⟨_, SqF.sq ?_, RVs.ints⟩)⟩
    rcases g2 with ⟨o, g2⟩ | g2
    · exact .inl ⟨o, e.frz _ _ _ g2⟩
    · exact .inr g2
  | str s =>
    simp only [walk, Option.some.injEq] at hw
    subst hw
    exact .inr (.inr ⟨toS s, hv.1, hR _ (RIt.str hv.2)⟩)
  | ref i =>
    have hw' : (match m[i]? with
      | some (Ob.lst xs) => some (It.mk xs [(i, .lst xs)])
      | some (Ob.dct kvs) => some (It.mk (kvs.map (·.1)) [(i, .dct kvs)])
      | _ => none) = some w := hw
    split at hw' <;> first | contradiction | skip
    · rename_i xs hm
      cases hw'
      have hv' := hv
      unfold RV at hv'
      obtain ⟨a, g1, g2⟩ := hv'
      obtain ⟨vs, q1, q2, q3⟩ := hr.ob i a _ g2 hm
      refine .inl ⟨a, g1, ⟨vs, SqL.of q1⟩, hR _ (RIt.lst q2 fun hid ρ2 H2 m2 hh e r hw => ?_)⟩
      have := wsOk_get hw (List.mem_cons_self)
      obtain ⟨vs', q1', q2', q3'⟩ := r.ob i a _ (e.get g2) this
      exact ⟨vs', SqL.of q1', q3'⟩
    · rename_i kvs hm
      have hv' := hv
      unfold RV at hv'
      obtain ⟨a, g1, g2⟩ := hv'
      exact (hr.ob i a _ g2 hm).elim
  | dct kvs => unfold RV at hv; exact hv.elim
  | _ => simp [walk] at hw
theorem snd_ipl {e : Ex} (he : Snd Z T C n e) : Snd Z T C n (.ipl e) := by
  refine .ofI (fun X tg a W c h t => ?_) (fun _ _ _ a => by simp [chE]) (fun _ _ _ as => by cases as <;> simp [chA]) (fun _ _ _ a => by simp [chC])
  unfold chI at h
  rw [Bool.and_eq_true] at h
  refine (pi_all (he.e X a W c h.1 t)).imp fun σ H Q ⟨ρ, Γ, m, hr, hs, q⟩ => ?_
  refine ⟨ρ, Γ, m, hr, hs, (PO.bnd (Rp' := RV Z) q).mono fun v H1 ⟨d, ρ1, m1, e1, r1, v1, q1⟩ => ?_⟩
  obtain ⟨w, hw, q1⟩ := PO.lift q1
  rw [c.K]
  exact walk_rd r1 v1 hw fun J hJ => q1 J ρ1 H1 Ext.refl r1 hJ
theorem snd_rg1 {a : Ex} (ha : Snd Z T C n a) : Snd Z T C n (.rg1 a) := by
  refine .ofI (fun X tg a' W c h t => ?_) (fun _ _ _ a => by simp [chE]) (fun _ _ _ as => by cases as <;> simp [chA]) (fun _ _ _ a => by simp [chC])
  unfold chI at h
  split at h <;> first | contradiction | skip
  rename_i heq
  cases heq
  simp only [Bool.and_eq_true, decide_eq_true_eq] at h
  obtain ⟨rfl, h1, h2, h3, h4⟩ := h
  refine (pi_range1 (glB_ok h2) (c.mgn _ (mgN_ok h1)) (pa_cons (ha.e X _ W c h3 t) pa_nil (star_cons h4)) (star_cons h4)).imp fun σ H Q ⟨ρ, Γ, m, hr, hs, q⟩ => ?_
  refine ⟨ρ, Γ, m, hr, hs, (PO.bnd (Rp' := RV Z) q).mono fun v H1 ⟨d, ρ1, m1, e1, r1, v1, q1⟩ => ?_⟩
  split at q1
  · rename_i i
    split at q1
    · rename_i hi
      refine ⟨i, by rw [show v = _ from v1], by omega, by omega, ?_⟩
      have := RIt.rng (Z := Z) (ρ := ρ1) (H := H1) (lo := 0) (hi := i) (by omega)
      rw [Int.sub_zero] at this
      exact q1 _ ρ1 H1 Ext.refl r1 this
    · exact q1.elim
  · exact q1.elim
theorem snd_rg2 {a b : Ex} (ha : Snd Z T C n a) (hb : Snd Z T C n b) : Snd Z T C n (.rg2 a b) := by
  refine .ofI (fun X tg a' W c h t => ?_) (fun _ _ _ a => by simp [chE]) (fun _ _ _ as => by cases as <;> simp [chA]) (fun _ _ _ a => by simp [chC])
  unfold chI at h
  split at h <;> first | contradiction | skip
  rename_i heq
  cases heq
  simp only [Bool.and_eq_true, decide_eq_true_eq] at h
  obtain ⟨rfl, h1, h2, h3, h4, h5, h6⟩ := h
  refine (pi_range2 (glB_ok h2) (c.mgn _ (mgN_ok h1)) (pa_cons (ha.e X _ W c h3 t) (pa_cons (hb.e X _ W c h5 t) pa_nil (star_cons h6)) (star_cons h4)) (by rw [star_cons h4, star_cons h6]; rfl) (star_cons h6)).imp fun σ H Q ⟨ρ, Γ, m, hr, hs, q⟩ => ?_
  refine ⟨ρ, Γ, m, hr, hs, (PO.bnd (Rp' := RV Z) q).mono fun v H1 ⟨d, ρ1, m1, e1, r1, v1, q1⟩ => ?_⟩
  refine ⟨ρ1, Γ, m1, r1, hs.ext e1, (PO.bnd (Rp' := RV Z) q1).mono fun u H2 ⟨d2, ρ2, m2, e2, r2, v2, q2⟩ => ?_⟩
  split at q2
  · rename_i i j _
    split at q2
    · rename_i hi
      refine ⟨i, j, by rw [show v = _ from v1, show u = _ from v2], ⟨by omega, by omega, by omega, by omega⟩, ?_⟩
      exact q2 _ ρ2 H2 Ext.refl r2 (RIt.rng (by omega))
    · exact q2.elim
  · exact q2.elim

/-! ### comprehensions -/
theorem takes_false {X : Cx} : Takes X (fun _ _ _ _ => False) := fun u s' ⟨a, B, sI, pins, σ, H, cls, d, e, I, nb, up, sky, na, os, ag, w⟩ => w.elim
theorem fold_ok {iter : Expr} {env : PySem.Env} (h : notSet iter = true) : ∀ x, foldedSetIterable iter env x = pure x := by
  intro x
  cases iter <;> first | rfl | cases h
theorem locOk_blk {X : Cx} {s : Shared} {H : Hp} {scope : Scope} {C : Addr} {cl : List (Str × Addr)} {fp : List Addr} : LocOk (X.blk s H scope (compEnvC scope cl C X.env) fp) scope := by
  intro x hx
  rcases hx with hx | hx
  · have := lookup_relS_keep (sc := X.env.scope) (by simp) hx
    exact ⟨.inl this, .inr this⟩
  · have := lookup_relS_keep (sc := X.env.scope) (by simp) hx
    exact ⟨.inr this, .inl (by show (scope.names.lookup x == some .cell) = true; rw [hx]; rfl)⟩
theorem wipe_get {σ : L2.St} : ∀ {vs : List Nat} {j : Nat}, j ∈ vs → j < σ.length → (L2.wipe σ vs)[j]? = some none
  | v :: vs, j, h, hj => by
    unfold L2.wipe
    by_cases e : v = j
    · subst e
      rw [List.getElem?_set_self (by rw [wipe_length]; exact hj)]
    · rw [List.getElem?_set_ne e]
      rcases List.mem_cons.mp h with h | h
      · exact absurd h.symm e
      · exact wipe_get h hj
theorem wipe_out {σ : L2.St} : ∀ {vs : List Nat} {j : Nat}, j ∉ vs → (L2.wipe σ vs)[j]? = σ[j]?
  | [], _, _ => rfl
  | v :: vs, j, h => by
    unfold L2.wipe
    rw [List.mem_cons, not_or] at h
    rw [List.getElem?_set_ne (fun e => h.1 e.symm)]
    exact wipe_out h.2
theorem wipe_keep {σ σ2 : L2.St} {vs : List Nat} (hl : σ2.length = σ.length) (h : ∀ j, j ∉ vs → σ2[j]? = (L2.wipe σ vs)[j]?) : L2.wipe σ2 vs = L2.wipe σ vs := by
  apply List.ext_getElem?
  intro j
  by_cases hj : j ∈ vs
  · by_cases hlt : j < σ.length
    · rw [wipe_get hj hlt, wipe_get hj (by rw [hl]; exact hlt)]
    · rw [List.getElem?_eq_none (by rw [wipe_length]; omega), List.getElem?_eq_none (by rw [wipe_length]; omega)]
  · rw [wipe_out hj, h j hj]
theorem lcGo_cons {f : D → M → O (Option D)} {ws : List (Nat × Ob)} {x : D} {r acc : List D} {m : M} {ys : List D} {mE : M} (h : lcGo f ws (x :: r) acc m = some (.ok ys mE)) :
    wsOk m ws = true ∧ ∃ o m', f x m = some (.ok o m') ∧ lcGo f ws r (match o with | some y => acc ++ [y] | none => acc) m' = some (.ok ys mE) := by
  unfold lcGo at h
  split at h
  · rename_i hw
    refine ⟨hw, ?_⟩
    match q : f x m, h with
    | some (.ok o m'), h => exact ⟨o, m', rfl, h⟩
  · cases h
theorem lcGo_nil {f : D → M → O (Option D)} {ws : List (Nat × Ob)} {acc : List D} {m : M} {ys : List D} {mE : M} (h : lcGo f ws [] acc m = some (.ok ys mE)) : wsOk m ws = true ∧ acc = ys ∧ m = mE := by
  unfold lcGo at h
  split at h
  · rename_i hw
    cases h
    exact ⟨hw, rfl, rfl⟩
  · cases h
abbrev noW : WX := fun _ _ _ _ => False
def gH (Z : Sta) (t : Tg) : TG := fun x σ H Q => ∃ b, iG (Z.hide b) t x σ H Q
def cH (Z : Sta) (f : Env → M → O Bool) : TT := fun σ H Q => ∃ b, iC (Z.hide b) noW f σ H Q
def eH (Z : Sta) (f : Env → M → O D) : TE := fun σ H Q => ∃ b, iE (Z.hide b) noW f σ H Q
theorem lc_rd {J : L2.It} {w : It} {ρ : List Addr} {H : Hp} {m : M} {Γ : Env} {σ : L2.St} {own : List (Mi.Tx × Nat)} {t : Tg} {c e : Ex} {ys : List D} {mE : M} {Q : VK} {vs : List Nat} (hvs : vs = slots own) (ht : ∀ i ∈ tgS t, i ∈ slots own)
    (hw : RIt Z ρ H w J) (hr : Rel Z ρ H m) (hs : RS Z ρ H Γ σ) (h : lcGo (lcF T C Γ own t c e) w.ws w.xs [] m = some (.ok ys mE)) (L : Addr) (hL : H L = none)
    (fin : ∀ ρ' H' us, Ext ρ H ρ' H' → Rel (Z.hide L) ρ' H' mE → H' L = some (.lst us) → RVs (Z.hide L) ρ' H' ys us → ys.length ≤ line → Q (.ref L) H') :
    ∃ W : Nat → Nat → Hp → Prop, (∃ m, W 0 m (upd H L (.lst []))) ∧ ∀ i m H, W i m H →
      (J.stop i H ∧ Q (.ref L) H) ∨ (J.go i H ∧ ∃ Nx : Hp → Prop, (∀ H', Nx H' → ∃ m', m' < m ∧ W (i + 1) m' H') ∧ ∀ x H', J.yld i H x H' → gH Z t x (L2.wipe σ vs) H' fun σ2 H2 => L2.wipe σ2 vs = L2.wipe σ vs ∧ cH Z (evC T C c) σ2 H2 fun b H3 =>
        if b = true then eH Z (ev T C e) σ2 H3 fun y H4 => ∃ acc, H4 L = some (.lst acc) ∧ acc.length < sizeLine ∧ Nx (upd H4 L (.lst (acc ++ [y]))) else Nx H3) := by
  subst hvs
  have hh : ∀ a ∈ (Z.hide L).hid, a ∈ Z.hid ∨ H a = none := fun a ha => by
    rcases List.mem_cons.mp ha with rfl | ha
    · exact .inr hL
    · exact .inl ha
  refine ⟨fun i k H' => k = w.xs.length - i ∧ i ≤ w.xs.length ∧ ∃ ρ' acc us m', Ext ρ H ρ' H' ∧ Rel (Z.hide L) ρ' H' m' ∧ RS (Z.hide L) ρ' H' Γ σ ∧ H' L = some (.lst us) ∧ RVs (Z.hide L) ρ' H' acc us ∧ acc.length ≤ i ∧ lcGo (lcF T C Γ own t c e) w.ws (w.xs.drop i) acc m' = some (.ok ys mE),
    ⟨_, rfl, Nat.zero_le _, ρ, [], [], m, Ext.new hL, hr.hidden hL, hs.hidden hL, upd_same, RVs.nil, Nat.le_refl _, by rw [List.drop_zero]; exact h⟩, ?_⟩
  rintro i k H1 ⟨rfl, hi, ρ1, acc, us, m1, e1, r1, s1, l1, v1, la, g1⟩
  by_cases hlt : i < w.xs.length
  · rw [List.drop_eq_getElem_cons hlt] at g1
    obtain ⟨k1, o, m2, q1, q2⟩ := lcGo_cons g1
    obtain ⟨j1, j2⟩ := hw.go _ ρ1 H1 m1 hh e1 r1 k1 i hlt
    refine .inr ⟨j1, fun H' => ∃ ρ' acc us m', Ext ρ H ρ' H' ∧ Rel (Z.hide L) ρ' H' m' ∧ RS (Z.hide L) ρ' H' Γ σ ∧ H' L = some (.lst us) ∧ RVs (Z.hide L) ρ' H' acc us ∧ acc.length ≤ i + 1 ∧ lcGo (lcF T C Γ own t c e) w.ws (w.xs.drop (i + 1)) acc m' = some (.ok ys mE), fun H' nx => ⟨_, ?_, rfl, by omega, nx⟩, fun x H2 hy => ?_⟩
    · omega
    obtain ⟨e2, r2, d, hd, v2⟩ := j2 x H2 hy
    rw [List.getElem?_eq_getElem hlt] at hd
    cases hd
    unfold lcF at q1
    split at q1
    · rename_i Γ' ha
      have s2 := (s1.ext e2).wipe (slots own)
      refine ⟨L, ρ1, _, m1, _, Γ', r2, s2, v2, ha, fun σ' hs' hk => ⟨?_, ?_⟩⟩
      · refine wipe_keep ?_ fun j hj => hk j fun z => hj (ht j z)
        have := hs'.1
        have h3 := asgT_len ha
        rw [← this, h3, wipeE_len, s1.1]
      refine ⟨L, ρ1, Γ', m1, r2, hs', ?_⟩
      match q3 : evC T C c Γ' m1, q1 with
      | some (.ok b m3), q1 =>
        rw [bnd_ok] at q1
        intro b' ρ3 H3 e3 r3 hb
        subst hb
        have nL : L ∉ ρ3 := (r3.hd L List.mem_cons_self).1
        have lL : ∀ {ρ4 H4}, Ext ρ1 H1 ρ4 H4 → H4 L = some (.lst us) := fun e => e.keep _ _ ((r1.hd L List.mem_cons_self).1) l1
        cases b with
        | false =>
          rw [if_neg Bool.false_ne_true] at q1
          cases q1
          rw [if_neg Bool.false_ne_true]
          exact ⟨ρ3, acc, us, _, (e1.trans e2).trans e3, r3, (s1.ext e2).ext e3, lL (e2.trans e3), (v1.ext e2).ext e3, Nat.le_succ_of_le la, q2⟩
        | true =>
          rw [if_pos rfl] at q1
          rw [if_pos rfl]
          refine ⟨L, ρ3, Γ', m3, r3, hs'.ext e3, ?_⟩
          match q4 : ev T C e Γ' m3, q1 with
          | some (.ok y m4), q1 =>
            rw [bnd_ok] at q1
            cases q1
            intro y' ρ4 H4 e4 r4 v4
            have l4 := lL ((e2.trans e3).trans e4)
            have hh4 : L ∈ (Z.hide L).hid := List.mem_cons_self
            refine ⟨us, l4, ?_, ρ4, acc ++ [y], us ++ [y'], _, ?_, r4.hupd l4 hh4, ?_, upd_same, ?_, by rw [List.length_append]; exact Nat.succ_le_succ la, q2⟩
            · rw [v1.length, ← line_eq]
              have := hw.len
              omega
            · have e5 := ((e1.trans e2).trans e3).trans e4
              exact e5.hiddenL hL
            · have := ((s1.ext e2).ext e3).ext e4
              exact ⟨this.1, fun i d q => let ⟨v, z1, z2⟩ := this.2 i d q; ⟨v, z1, z2.hupd l4 hh4⟩⟩
            · exact ((((v1.ext e2).ext e3).ext e4).append (RVs.one v4)).hupd l4 hh4
    · cases q1
  · have ei : i = w.xs.length := by omega
    subst ei
    rw [List.drop_length] at g1
    obtain ⟨k1, rfl, rfl⟩ := lcGo_nil g1
    exact .inl ⟨hw.stop _ ρ1 H1 m1 hh e1 r1 k1, fin ρ1 H1 us e1 r1 l1 v1 (Nat.le_trans la hw.len)⟩

theorem _root_.L2.PE.ex {X : Cx} {e : Expr} {ι : Type} {t : ι → TE} (h : ∀ b, PE X e (t b)) : PE X e (fun σ H Q => ∃ b, t b σ H Q) := ⟨fun pins s σ H Q I ⟨b, q⟩ => (h b).run pins s σ H Q I q⟩
theorem _root_.L2.PT.ex {X : Cx} {e : Expr} {ι : Type} {t : ι → TT} (h : ∀ b, PT X e (t b)) : PT X e (fun σ H Q => ∃ b, t b σ H Q) := ⟨fun pins s σ H Q I ⟨b, q⟩ => (h b).run pins s σ H Q I q⟩
theorem _root_.L2.PG.ex {X : Cx} {e : Expr} {ι : Type} {t : ι → TG} (h : ∀ b, PG X e (t b)) : PG X e (fun x σ H Q => ∃ b, t b x σ H Q) := ⟨fun pins s σ H v u Q I r ⟨b, q⟩ => (h b).run pins s σ H v u Q I r q⟩
theorem slots_own (own : List (Mi.Tx × Nat)) : (ownB own).map (·.2) = slots own := by
  unfold ownB slots
  rw [List.map_map]
  rfl
/-- the parts of a comprehension -/
theorem lc_parts {t : Tg} {c e : Ex} {own : List (Mi.Tx × Nat)} (hcc : ∀ Z : Sta, Snd Z T C n c) (hee : ∀ Z : Sta, Snd Z T C n e) {cm : Bool} {X : Cx} (cx : Cxt Z T C n cm X) (hcm : cm = true) {scope : Scope} {tg elt : Expr} {ifs : List Expr}
    (h2 : tgB X.N scope t tg = true) (h3 : (c = .yes ∧ ifs = []) ∨ ∃ a, ifs = [a] ∧ chC Z.toStc cm X.N (relS scope X.env.scope) c a = true) (h4 : chE Z.toStc cm X.N (relS scope X.env.scope) e elt = true) :
    (∀ (s : Shared) (H : Hp) (L : Addr) (cl : List (Str × Addr)) (fp : List Addr), PG (X.blk s H scope (compEnvC scope cl L X.env) fp) tg (gH Z t)) ∧
    (∀ (s : Shared) (H : Hp) (L : Addr) (cl : List (Str × Addr)) (fp : List Addr), PTs (X.blk s H scope (compEnvC scope cl L X.env) fp) ifs (cH Z (evC T C c))) ∧
    (∀ (s : Shared) (H : Hp) (L : Addr) (cl : List (Str × Addr)) (fp : List Addr), PE (X.blk s H scope (compEnvC scope cl L X.env) fp) elt (eH Z (ev T C e))) := by
  refine ⟨fun s H C' cl fp => PG.ex fun b => pgT (Z := Z.hide b) (X := X.blk s H scope (compEnvC scope cl C' X.env) fp) cx.K (cx.calm hcm) cx.nd locOk_blk t tg h2, fun s H C' cl fp => ?_, fun s H C' cl fp => PE.ex fun b => (hee (Z.hide b)).e _ elt noW ((cx.blk s H scope _ fp).hide _) h4 takes_false⟩
  have one : ∀ a, chC Z.toStc cm X.N (relS scope X.env.scope) c a = true → PTs (X.blk s H scope (compEnvC scope cl C' X.env) fp) [a] (cH Z (evC T C c)) := fun a h3 =>
    pts_one (PT.ex fun b => (hcc (Z.hide b)).c _ a noW ((cx.blk s H scope _ fp).hide _) h3 takes_false)
  rcases h3 with ⟨rfl, rfl⟩ | ⟨a, rfl, h3⟩
  · refine ⟨fun pins s' σ H' Q I ⟨b, ρ, Γ, m, hr, hs, q⟩ => ?_⟩
    exact pts_nil.run pins s' σ H' Q I (q true ρ H' Ext.refl hr rfl)
  · exact one _ h3
theorem lc_fin {al : Bool} {own : List (Mi.Tx × Nat)} {t : Tg} {it c e : Ex} (ht : ∀ i ∈ tgS t, i ∈ slots own) {W : WX} {σ : L2.St} {H : Hp} {Q : VK} (q : iE Z W (ev T C (.lc al own t it c e)) σ H Q) :
    tLc (iI Z W (evI T C it)) (gH Z t) (cH Z (evC T C c)) (eH Z (ev T C e)) ((ownB own).map (·.2)) σ H Q := by
  obtain ⟨ρ, Γ, m, hr, hs, q⟩ := q
  unfold ev at q
  refine ⟨ρ, Γ, m, hr, hs, (PO.bnd (Rp' := fun ρ' H' w J => RIt Z ρ' H' w J) q).mono fun J H1 ⟨w, ρ1, m1, e1, r1, j1, q1⟩ => ?_⟩
  intro L hL
  have key : ∃ ys mE, lcGo (lcF T C Γ own t c e) w.ws w.xs [] m1 = some (.ok ys mE) ∧ PO Z (RV Z) (fun c d H' => W c d σ H') ρ1 H1 Q (mk al ys mE) := by
    have q2 : PO Z (RV Z) (fun c d H' => W c d σ H') ρ1 H1 Q (bnd (noEx (lcGo (lcF T C Γ own t c e) w.ws w.xs [] m1)) fun ys m => mk al ys m) := q1
    match z : lcGo (lcF T C Γ own t c e) w.ws w.xs [] m1, q2 with
    | some (.ok ys mE), q2 => exact ⟨ys, mE, rfl, q2⟩
    | some (.ex a b d), q2 => exact q2.elim
    | none, q2 => exact q2.elim
  obtain ⟨ys, mE, g, q2⟩ := key
  exact lc_rd (slots_own own) ht j1 r1 (hs.ext e1) g L hL fun ρ' H' us ee r' l' v' hl => mk_shown q2 hl ee hL (fun z => absurd hL (by obtain ⟨_, o, ho⟩ := r1.hd L z; rw [ho]; simp)) r' l' v'
theorem snd_lc {al : Bool} {own : List (Mi.Tx × Nat)} {t : Tg} {it c e : Ex} (hit : Snd Z T C n it) (hcc : ∀ Z : Sta, Snd Z T C n c) (hee : ∀ Z : Sta, Snd Z T C n e) : Snd Z T C n (.lc al own t it c e) := by
  refine .ofE (fun X a' W cx h tk => ?_) (fun _ _ _ as => by cases as <;> simp [chA]) (fun _ _ _ a => by simp [chC]) (fun _ _ _ _ a => by simp [chI]) (fun _ _ _ _ ops cs _ => by simp [chE])
  unfold chE at h
  split at h <;> first | contradiction | skip
  rename_i elt tg iter ifs scope pos heq
  cases heq
  simp only [Bool.and_eq_true] at h
  obtain ⟨hcm, h0, h1, h2, h3, h4, h5, h6⟩ := h
  subst hcm
  have ht : ∀ i ∈ tgS t, i ∈ slots own := fun i hi => by
    have := List.all_eq_true.mp h3 i hi
    simpa using this
  have h4' : (c = .yes ∧ ifs = []) ∨ ∃ a, ifs = [a] ∧ chC Z.toStc true X.N (relS scope X.env.scope) c a = true := by
    split at h4
    · exact .inl ⟨rfl, rfl⟩
    · exact .inr ⟨_, rfl, h4⟩
    · cases h4
  obtain ⟨p1, p2, p3⟩ := lc_parts (own := own) hcc hee cx rfl h2 h4' h5
  exact (pe_lc (cx.calm rfl) cx.nd (hit.i X _ _ W cx h0 tk) (blkOk_by h1) p1 p2 p3 (fold_ok h6)).imp fun σ H Q q => lc_fin ht q
end
end Mi

end
section
set_option Elab.async false
set_option linter.all false
set_option maxRecDepth 100000
set_option maxHeartbeats 4000000
/-! Mi11b: isinstance, an exception's field, list(range(..)) -/
namespace PySem.W
open PySem PySem.Spec PySem.Calls PyProof.Rows
section
variable {prog : Program} {w : World} {A : Around} {E : Value → Shared → Prop} {s : Shared} {K : Frag} {x D : Addr} {ox : Obj} {od : Option Obj}
theorem miFind {C : Addr} {name : Str} {a g : Value} (h0 : (clsIn K C).isSome = true) (h1 : findIn K (.ref C) name = some (some a)) (h2 : specialIn K a "__get__" = some (some g)) (h3 : takesIn K a = some true) : findObj K C od name = some (.bind g a) := by
  obtain ⟨cd, h0⟩ := Option.isSome_iff_exists.mp h0
  unfold findObj; rw [h0, Option.bind_some, h1, Option.bind_some]; simp [h2, h3]
/-- x.__class__ of an exception, whether it has a dict or none -/
theorem miClass {Q : Option Value → Shared → Prop} (C : L2.ExcC K D) (kX : K.In s.heap) (J : InstAt s.heap x ox D od) (hq : Q (some (.ref D)) { s with toks := s.toks + 1 }) : wpAny (model prog w) A (getAttr? (.ref x) "__class__") Q E s := by
  have f0 : findObj K D od "__class__" = some (.bind (.builtin "getset_descriptor.__get__") (.builtin "object.__class__")) := miFind (by obtain ⟨cd, hc, _⟩ := any_some C.hd; rw [hc]; rfl) C.ha C.hn C.ht
  obtain ⟨hp, gs, dr, tk, o⟩ := s
  have a0 := J.type (M := model prog w); have a1 := looks_findIn (M := model prog w) kX C.hg; have a2 := looks_findIn (M := model prog w) kX C.hk; have a3 := looks_find (M := model prog w) kX J f0
  have su : Looks (model prog w) hp (isInstance (.ref x) (.type "BaseException")) true := a0.andThen (looks_subIn kX C.hs)
  have n2 : (Value.builtin "BaseException.__getattribute__" == Value.builtin "object.__getattribute__") = false := by decide +kernel
  have n1 : (onTheHeap (Value.ref D) && Value.builtin "BaseException.__getattribute__" == Value.builtin "object.__getattribute__") = false := by rw [n2]; rfl
  unfold getAttr? getAttrBy? getAttrBy
  refine wpAny_bind (wpAny_mkText (wpAny_bind (wpAny_attempt (wpAny_holding (wpAny_bind (a0.at (wpAny_bind (a1.at ?_))))))))
  show wpAny _ _ (if (onTheHeap (Value.ref D) && Value.builtin "BaseException.__getattribute__" == Value.builtin "object.__getattribute__") = true then _ else _) _ _ _
  rw [n1, if_neg Bool.false_ne_true]; unfold getAttrByItsOwn hookBefore; refine wpAny_bind ?_; rw [if_pos (show onTheHeap (Value.ref D) = true from rfl)]
  refine a2.at ?_; refine wpAny_bind (wpAny_attempt (wpAny_holding ?_)); unfold callGetattribute
  rw [show (false && onTheHeap (Value.builtin "BaseException.__getattribute__")) = false from rfl, if_neg Bool.false_ne_true]; unfold boundAndCalled; rw [PySem.F.excAttr_ValueError.ga.bind (.ref x)]
  refine wpAny_bind (wpAny_pure ?_); show wpAny _ _ (call (.builtin "BaseException.__getattribute__") [.ref x, .str "__class__" tk]) _ _ _
  refine wpAny_call (codeAny_call_builtin PySem.F.excAttr_ValueError.ga.plain PySem.F.entry_bexc_ga ?_)
  refine @check_slot (model prog w) _ _ ⟨hp, gs, dr, tk + 1, o⟩ "BaseException.__getattribute__" "BaseException" "__getattribute__" (.ref x) [.str "__class__" tk] [] _ (by decide +kernel) (by decide +kernel) su (PySem.F.args_bexc_ga (.ref x) (.str "__class__" tk)) ?_
  unfold Builtin.«object.__getattribute__»; refine wpAny_bind (wpAny_of_eq (a := ((Value.ref x : Value), [Value.str "__class__" tk])) (by first | rfl | (simp only [slotArgs]; rfl)) ?_)
  refine wpAny_bind (wpAny_pure (wpAny_bind (a0.at (wpAny_bind (a3.at ?_))))); show wpAny _ _ (holding [Value.builtin "object.__class__"] (call (.builtin "getset_descriptor.__get__") [.builtin "object.__class__", .ref x, .ref D]) >>= ret) _ _ _
  refine wpAny_bind (wpAny_holding (wpAny_call (class_get (s := ⟨hp, gs, dr, tk + 1, o⟩) (ox := ox) (od := od) kX J C.hm ?_))); refine wpAny_pure ?_
  show wpAny _ _ (handedOut (.ref D)) _ _ _; rw [handedOut_of (v := .ref D) rfl]
  first | exact wpAny_pure (wpAny_pure hq) | exact wpAny_pure hq | exact wpAny_pure (wpAny_bind (wpAny_pure (wpAny_pure hq)))
theorem miKit (C : L2.ExcC K D) : KitX K (.ref x) (.ref D) (fun h => InstAt h x ox D od) := by
  have look : ∀ {h : Heap}, K.In h → ∃ c d cd sl, K.lookup D = some ⟨c, d, .cls cd, sl⟩ ∧ h.get? D = some ⟨c, d, .cls cd, sl⟩ := fun {h} kX => by
    obtain ⟨cdD, hcD, _⟩ := any_some C.hd
    unfold clsIn at hcD
    split at hcD
    · rename_i c' d' cd' sl' ho; exact ⟨c', d', cd', sl', ho, kX _ _ ho⟩
    · cases hcD
  refine ⟨fun _ _ _ J => J.type, fun M h kX _ => ?_, fun h tp dd its n sl kX htp => ?_, fun kX J k => miClass C kX J k⟩
  · obtain ⟨c, d, cd, sl, _, ho⟩ := look kX
    intro A' Q' E' s' k q
    unfold isType loadHead
    exact wpAny_bind (wpAny_loadPart (k _ _ ho) (wpAny_pure q))
  · obtain ⟨c, d, cd, sl', _, ho⟩ := look kX
    refine Bool.eq_false_iff.mpr fun q => ?_
    have e : D = tp := Value.ref.inj (beq_iff_eq.mp q)
    subst e; rw [ho] at htp; cases htp
end
end PySem.W
namespace Mi
open PySem PySem.Spec PyProof.Rows L2 TL
section
variable {Z : Sta} {T : Tb} {C : Nat → List D → M → O D} {n : Nat}
/-- what isinstance asks of a value of ours -/
theorem kit_rv {cm : Bool} {X : Cx} {pins : List (Addr × Obj)} {σ : L2.St} {H : Hp} {s : Shared} {ρ : List Addr} {m : M} {d : D} {v : V} {u : Value} {t : Ty} {b : Bool} (c : Cxt Z T C n cm X) (I : Inv X pins σ H s) (ru : RelV v u) (r : Rel Z ρ H m) (hv : RV Z ρ H d v) (h : isTy m T d t = some b) :
    ∃ tg tv P, tgVal Z.toStc tg = some tv ∧ tgIs T tg t = b ∧ PySem.W.KitX X.K u tv P ∧ P s.heap ∧ u ≠ .builtin "__main__.__loader__#opaque" := by
  have fin : ∀ {tg : Kd} {tv : Value}, tgVal Z.toStc tg = some tv → tgIs T tg t = b → TyX X.K H v tv → ∃ tg tv P, tgVal Z.toStc tg = some tv ∧ tgIs T tg t = b ∧ PySem.W.KitX X.K u tv P ∧ P s.heap ∧ u ≠ .builtin "__main__.__loader__#opaque" := fun {tg tv} h1 h2 h3 => by
    obtain ⟨P, z1, z2, z3⟩ := kit_of I ru h3
    exact ⟨tg, tv, P, h1, h2, z1, z2, z3⟩
  have hK : X.K = Z.K := c.K
  have is_list : isTy m T (.lst []) t = some b → tgIs T .lst t = b := fun h => by cases t <;> (simp only [isTy, Option.some.injEq] at h; rw [← h]; rfl)
  cases d with
  | non =>
    cases (show v = .non from hv)
    exact fin (tg := .non) rfl (by cases t <;> (simp only [isTy, Option.some.injEq] at h; rw [← h]; rfl)) (.base .non)
  | bl y =>
    cases (show v = .bl y from hv)
    exact fin (tg := .bl) rfl (by cases t <;> (simp only [isTy, Option.some.injEq] at h; rw [← h]; rfl)) (.base (.bl y))
  | int y =>
    cases (show v = .int y from hv)
    exact fin (tg := .int) rfl (by cases t <;> (simp only [isTy, Option.some.injEq] at h; rw [← h]; rfl)) (.base (.int y))
  | str y =>
    cases (show v = .str (toS y) from hv.1)
    exact fin (tg := .str) rfl (by cases t <;> (simp only [isTy, Option.some.injEq] at h; rw [← h]; rfl)) (.base (.str _))
  | tup xs =>
    have e : tgIs T .tup t = b := by cases t <;> (simp only [isTy, Option.some.injEq] at h; rw [← h]; rfl)
    unfold RV at hv
    obtain ⟨a, vs, rfl, e2, _⟩ := hv
    rcases e2 with (e2 | ⟨o, e2⟩) | ⟨o, its, k, q1, q2, _⟩
    · exact fin (tg := .tup) rfl e (.base (.tup e2))
    · exact fin (tg := .tup) rfl e (.fTuple e2)
    · exact fin (tg := .tup) rfl e (.kTuple (by rw [hK]; exact q1) q2)
  | lst xs =>
    have e : tgIs T .lst t = b := is_list (by cases t <;> exact h)
    unfold RV at hv
    obtain ⟨a, vs, rfl, e2, _⟩ := hv
    exact fin (tg := .lst) rfl e (.base (.lst e2))
  | scr is =>
    have e : tgIs T .lst t = b := is_list (by cases t <;> exact h)
    unfold RV at hv
    obtain ⟨a, rfl, e2, _⟩ := hv
    rcases e2 with ⟨o, e2⟩ | ⟨o, its, k, q1, q2, _⟩
    · exact fin (tg := .lst) rfl e (.base (.frz e2))
    · exact fin (tg := .lst) rfl e (.kList (by rw [hK]; exact q1) q2)
  | dct kvs => unfold RV at hv; exact hv.elim
  | fn k => simp [isTy] at h
  | ref i =>
    have h' : (match m[i]? with | some (Ob.lst _) => some (decide (t = .list)) | some (Ob.dct _) => some (decide (t = .dict)) | _ => none) = some b := h
    split at h'
    · rename_i xs q
      obtain ⟨a, vs, rfl, _, e2, _⟩ := ref_at r hv q
      have e : tgIs T .lst t = b := is_list (by cases t <;> exact h')
      exact fin (tg := .lst) rfl e (.base (.lst e2))
    · rename_i kvs q
      unfold RV at hv
      obtain ⟨a, _, e2⟩ := hv
      exact (r.ob i a _ e2 q).elim
    · cases h'
  | exc k xs =>
    unfold RV at hv
    obtain ⟨a, A, dd, vs, rfl, e2, _, e4, _, e6⟩ := hv
    cases (show u = Value.ref a from ru)
    obtain ⟨⟨oe, fv, q1, q2, q3⟩, _⟩ := (show ObjOk X.prog X.w H s.heap a (EXO a (.ref A) dd) from I.hok a _ e2)
    have hb : tgIs T (.ex k) t = b := by
      cases t <;> simp only [isTy, Option.some.injEq] at h <;> first | contradiction | (rw [← h]; rfl)
    have ⟨od, J⟩ : ∃ od, PySem.W.InstAt s.heap a oe A od := by
      rcases e6 with ⟨_, rfl⟩ | ⟨p, fs, xv, _, rfl, _, q4, _⟩
      · exact ⟨none, q1, q2.1, by unfold PySem.W.notCls; rw [q3] <;> rfl, by rw [q2.2]; trivial⟩
      · obtain ⟨mA, ⟨o, es, ep, ho, _⟩, _⟩ := (show ObjOk X.prog X.w H s.heap p (.xd fs) from I.hok p _ q4)
        exact ⟨some o, q1, q2.1, by unfold PySem.W.notCls; rw [q3] <;> rfl, by rw [q2.2]; exact ho⟩
    exact ⟨.ex k, .ref A, _, by show (Z.xad k).map _ = _; rw [e4]; rfl, hb, PySem.W.miKit (by rw [hK]; exact (c.xc k A e4).1), J, fun z => nomatch z⟩
def rIs (Z : Sta) (T : Tb) (t : Ty) : List V → Hp → VK → Prop := fun xs H Q => ∃ ρ m d v c cv b, xs = [v, c] ∧ tyVal Z.toStc t = some cv ∧ (∀ u, RelV c u → u = cv) ∧ Rel Z ρ H m ∧ RV Z ρ H d v ∧ isTy m T d t = some b ∧ Q (.bl b) H
theorem call_is {cm : Bool} {X : Cx} (c : Cxt Z T C n cm X) (t : Ty) : CallR X (.builtin "isinstance") (rIs Z T t) := by
  intro pins s σ H xs us Q I rs h
  obtain ⟨ρ, m, d, v, cc, cv, b, rfl, hc, hu, r, hv, hb, q⟩ := h
  cases rs with
  | cons r1 rs =>
    cases rs with
    | cons r2 rs =>
      cases rs
      have e := hu _ r2
      subst e
      obtain ⟨tg, tv, P, h1, h2, z1, z2, z3⟩ := kit_rv c I r1 r hv hb
      have h3 := c.isf tg t tv _ h1 hc
      rw [h2] at h3
      exact PySem.W.kia_one z1 I.kIn z2 (by rw [c.K]; exact h3) z3 fun tk => ⟨.bl b, H, I.tok tk, rfl, q⟩
theorem ty_pe {cm : Bool} {X : Cx} (c : Cxt Z T C n cm X) {t : Ty} {y : Str} {p : Pos} (h : tyB Z.toStc X.env.scope t y = true) : ∃ cv w, PE X (.Name y p) (tC w) ∧ tyVal Z.toStc t = some cv ∧ ∀ u, RelV w u → u = cv := by
  unfold tyB at h
  rw [Bool.and_eq_true, Bool.and_eq_true] at h
  obtain ⟨h1, h2, h3⟩ := h
  obtain ⟨n1, _, n3⟩ := nmB_ok h2
  have blt : ∀ {s : String}, (mgN Z.toStc y && bltB y (.type s)) = true → PE X (.Name y p) (tC (.ty s)) := fun {s} h => by
    rw [Bool.and_eq_true] at h
    exact pe_bltn (glB_ok h1) (c.mgn _ (mgN_ok h.1)) (bltB_ok h.2) (show RelV (.ty s) (.type s) from rfl) n3 n1
  cases t with
  | ex k =>
    dsimp only at h3
    split at h3 <;> first | contradiction | skip
    rename_i A hA
    exact ⟨.ref A, .ref A, pe_glob (glB_ok h1) (c.mgs _ _ (mgB_ok h3)) rfl n1, by show (Z.xad k).map _ = _; rw [hA]; rfl, fun u r => r⟩
  | str => exact ⟨_, _, blt h3, rfl, fun u r => r⟩
  | int => exact ⟨_, _, blt h3, rfl, fun u r => r⟩
  | bool => exact ⟨_, _, blt h3, rfl, fun u r => r⟩
  | tuple => exact ⟨_, _, blt h3, rfl, fun u r => r⟩
  | list => exact ⟨_, _, blt h3, rfl, fun u r => r⟩
  | dict => exact ⟨_, _, blt h3, rfl, fun u r => r⟩
  | vErr => exact ⟨_, _, blt h3, rfl, fun u r => r⟩
theorem snd_isi {a : Ex} {ts : List Ty} (ha : Snd Z T C n a) : Snd Z T C n (.isi a ts) := by
  refine .ofE (fun X a' W c h t => ?_) (fun _ _ _ as => by cases as <;> simp [chA]) (fun _ _ _ a => by simp [chC]) (fun _ _ _ _ a => by simp [chI]) (fun _ _ _ _ ops cs _ => by simp [chE])
  unfold chE at h
  split at h <;> first | contradiction | skip
  rename_i ty f fp x y yp pos heq
  cases heq
  simp only [Bool.and_eq_true, decide_eq_true_eq] at h
  obtain ⟨rfl, h1, h2, h3, h4, h5⟩ := h
  obtain ⟨cv, w, P2, g1, g2⟩ := ty_pe (p := yp) c h5
  have hA : PA X [x, .Name y yp] (tCons (iE Z W (ev T C a)) (tCons (tC w) tNil)) := pa_cons (ha.e X _ W c h3 t) (pa_cons P2 pa_nil (star_cons rfl)) (star_cons h4)
  refine (pe_callB (call_is c ty) (glB_ok h2) (c.mgn _ (mgN_ok h1)) PyProof.Rows.boot_isinstance hA (by decide) (by decide) (star_cons h4) (by rfl)).imp fun σ H Q ⟨ρ, Γ, m, hr, hs, q⟩ => ?_
  unfold ev at q
  refine ⟨ρ, Γ, m, hr, hs, (PO.bnd (Rp' := RV Z) q).mono fun v H1 ⟨d, ρ1, m1, e1, r1, v1, q1⟩ => ?_⟩
  obtain ⟨k, hk, q1⟩ := PO.lift q1
  obtain ⟨b, hb, e⟩ := Option.map_eq_some_iff.mp hk
  subst e
  have hb' : isTy m1 T d ty = some b := by
    have hb2 : (match isTy m1 T d ty with | some true => some true | some false => some false | none => none) = some b := hb
    cases z : isTy m1 T d ty with
    | none => rw [z] at hb2; cases hb2
    | some k => rw [z] at hb2; cases k <;> exact hb2
  exact ⟨ρ1, m1, d, v, w, cv, b, rfl, g1, g2, r1, v1, hb', q1 _ ρ1 H1 Ext.refl r1 rfl⟩
theorem snd_att {a : Ex} {f : Mi.Tx} (ha : Snd Z T C n a) : Snd Z T C n (.att a f) := by
  refine .ofE (fun X a' W c h t => ?_) (fun _ _ _ as => by cases as <;> simp [chA]) (fun _ _ _ a => by simp [chC]) (fun _ _ _ _ a => by simp [chI]) (fun _ _ _ _ ops cs _ => by simp [chE])
  unfold chE at h
  split at h <;> first | contradiction | skip
  rename_i x g pos heq
  cases heq
  simp only [Bool.and_eq_true, decide_eq_true_eq] at h
  obtain ⟨h1, h2, h3, h4⟩ := h
  refine ⟨fun pins s σ H Q I ⟨ρ, Γ, m, hr, hs, q⟩ => ?_⟩
  unfold ev at q
  refine attr_of (attrB_ok h4) (thn ((ha.e X x W c h3 t).run pins s σ H _ I ⟨ρ, Γ, m, hr, hs, PO.bnd (Rp' := RV Z) q⟩) fun u s1 ⟨v, H1, I1, ru, d, ρ1, m1, e1, r1, v1, q1⟩ => ?_)
  split at q1 <;> first | exact q1.elim | skip
  rename_i k xv
  unfold RV at v1
  obtain ⟨p, A, dd, vs, rfl, e2, _, e4, e5, e6⟩ := v1
  cases (show u = Value.ref p from ru)
  obtain ⟨v, rfl, hv⟩ := e5.one_inv
  rcases e6 with ⟨z, _⟩ | ⟨dp, fs, y, z, rfl, _, q4, q5⟩
  · cases z
  · cases z
    obtain ⟨⟨oe, fv, w1, w2, w3⟩, _⟩ := (show ObjOk X.prog X.w H1 s1.heap p (EXO p (.ref A) (some dp)) from I1.hok p _ e2)
    obtain ⟨mA, hns, hrl⟩ := (show ObjOk X.prog X.w H1 s1.heap dp (.xd fs) from I1.hok dp _ q4)
    obtain ⟨od, ho, hl⟩ := lookIn_ns hns
    obtain ⟨u, hu, ru'⟩ := RelO.some_of (v := v) (o := mA Z.xfn) (by rw [← q5]; exact hrl Z.xfn)
    have J : PySem.W.InstAt s1.heap p oe A (some od) := ⟨w1, w2.1, by unfold PySem.W.notCls; rw [w3] <;> rfl, by rw [w2.2]; exact ho⟩
    obtain ⟨x1, x2⟩ := c.xc k A e4
    rw [← c.K] at x1 x2
    rw [h2]
    exact HandSPX.exc_get I1.kIn J x1.hg x1.hk x1.hs (PySem.W.findObj_own x1.hd x2 rfl (by rw [hl, hu])) (handed_of ru') ⟨v, H1, I1.tok _, ru', q1 v ρ1 H1 Ext.refl r1 hv⟩
theorem rg_rv {ρ : List Addr} {H : Hp} {lo hi : Int} : RVs Z ρ H (rangeL lo hi) (rgV lo hi) := by
  unfold rangeL rgV
  generalize (List.range (hi - lo).toNat) = l
  induction l with
  | nil => exact RVs.nil
  | cons k l ih => exact ⟨_, _, rfl, rfl, ih⟩
theorem rg_len {lo hi : Int} (h : hi - lo ≤ 16777216) : (rangeL lo hi).length ≤ line := by
  have e0 : (rangeL lo hi).length = (hi - lo).toNat := by simp [rangeL]
  rw [e0]
  have : (line : Int) = 16777216 := by decide
  omega
theorem snd_bw {al : Bool} {b : Bw} {it : Ex} (hp : ∀ a, it = .rg1 a → Snd Z T C n a) (hp2 : ∀ a b, it = .rg2 a b → Snd Z T C n a ∧ Snd Z T C n b) : Snd Z T C n (.bw al b it) := by
  refine .ofE (fun X a' W c h t => ?_) (fun _ _ _ as => by cases as <;> simp [chA]) (fun _ _ _ a => by simp [chC]) (fun _ _ _ _ a => by simp [chI]) (fun _ _ _ _ ops cs _ => by simp [chE])
  unfold chE at h
  split at h <;> first | contradiction | skip
  · rename_i a f fp g gp x gpos pos heq
    cases heq
    simp only [Bool.and_eq_true, decide_eq_true_eq] at h
    obtain ⟨hcm, rfl, rfl, h1, h2, h3, h4, h5, h6⟩ := h
    refine (pe_listRg (c.calm hcm) (glB_ok h2) (c.mgn _ (mgN_ok h1)) (prg_1 (glB_ok h4) (c.mgn _ (mgN_ok h3)) ((hp a rfl).e X _ W c h5 t) (star_cons h6)) (by rfl)).imp fun σ H Q ⟨ρ, Γ, m, hr, hs, q⟩ => ?_
    have q' : PO Z (RV Z) (fun c d H' => W c d σ H') ρ H Q (bnd (bnd (ev T C a Γ m) fun x m => match x with | .int i => if -(2 ^ 60) ≤ i ∧ i ≤ 16777216 then okk (It.mk (rangeL 0 i) []) m else none | _ => none) fun w m => mk al w.xs m) := q
    refine ⟨ρ, Γ, m, hr, hs, ?_⟩
    match ev T C a Γ m, q' with
    | some (.ok d m1), q1 =>
      intro v ρ1 H1 e1 r1 v1
      rw [bnd_ok] at q1
      split at q1
      · rename_i i
        split at q1
        · rename_i hi
          rw [bnd_ok] at q1
          exact ⟨i, v1, ⟨by omega, by omega, by omega, by omega, by omega⟩, fun p hp' => mk_ok (PO.ext e1 q1) (rg_len (by omega)) Ext.refl r1 rg_rv hp'⟩
        · exact q1.elim
      · exact q1.elim
    | some (.ex k v m1), q1 => exact q1
  · rename_i a b f fp g gp x y gpos pos heq
    cases heq
    simp only [Bool.and_eq_true, decide_eq_true_eq] at h
    obtain ⟨hcm, rfl, rfl, h1, h2, h3, h4, h5, h6, h7, h8⟩ := h
    refine (pe_listRg (c.calm hcm) (glB_ok h2) (c.mgn _ (mgN_ok h1)) (prg_2 (glB_ok h4) (c.mgn _ (mgN_ok h3)) ((hp2 a b rfl).1.e X _ W c h5 t) ((hp2 a b rfl).2.e X _ W c h7 t) (star_cons h6) (star_cons h8) (star_any (es := [y]) (by rw [List.all_cons, h8]; rfl))) (by rfl)).imp fun σ H Q ⟨ρ, Γ, m, hr, hs, q⟩ => ?_
    have q' : PO Z (RV Z) (fun c d H' => W c d σ H') ρ H Q (bnd (bnd (ev T C a Γ m) fun x m => bnd (ev T C b Γ m) fun y m => match x, y with
      | .int i, .int j => if -(2 ^ 60) ≤ i ∧ i < 2 ^ 60 ∧ -(2 ^ 60) ≤ j ∧ j < 2 ^ 60 ∧ j - i ≤ 16777216 then okk (It.mk (rangeL i j) []) m else none
      | _, _ => none) fun w m => mk al w.xs m) := q
    refine ⟨ρ, Γ, m, hr, hs, ?_⟩
    match ev T C a Γ m, q' with
    | some (.ok d m1), q1 =>
      intro v ρ1 H1 e1 r1 v1
      rw [bnd_ok] at q1
      refine ⟨ρ1, Γ, m1, r1, hs.ext e1, ?_⟩
      have q1 := PO.ext e1 q1
      match ev T C b Γ m1, q1 with
      | some (.ok d2 m2), q2 =>
        intro u ρ2 H2 e2 r2 v2
        rw [bnd_ok] at q2
        split at q2
        · rename_i i j _
          split at q2
          · rename_i hi
            rw [bnd_ok] at q2
            exact ⟨i, j, v1, v2, ⟨by omega, by omega, by omega, by omega, by omega⟩, fun p hp' => mk_ok (PO.ext e2 q2) (rg_len (by omega)) Ext.refl r2 rg_rv hp'⟩
          · exact q2.elim
        · exact q2.elim
      | some (.ex k v m1), q2 => exact q2
    | some (.ex k v m1), q1 => exact q1
end
end Mi

end
section
set_option Elab.async false
set_option linter.all false
set_option maxRecDepth 100000
set_option maxHeartbeats 4000000
/-! Mi12: methods of built-in types; all expressions -/
namespace Mi
open PySem PySem.Spec PyProof.Rows L2 TL
section
variable {Z : Sta} {T : Tb} {C : Nat → List D → M → O D} {n : Nat}
theorem few_ok {pos : Pos} {env : PySem.Env} {es : List Expr} (h : es.all notStar = true) (hl : es.length < 30) :
    ((backTo pos (starEach es env)).all (fun x => !x.1) && (backToKw pos (keywordEach [] env)).all (fun x => x.1.isSome) && decide (es.length + ([] : List Keyword).length + (if ([] : List Keyword).isEmpty then 0 else 1) < 30)) = true := by
  have h1 : (backTo pos (starEach es env)).all (fun x => !x.1) = true := by
    have h0 := star_any (pos := pos) (env := env) h
    rw [List.any_eq_false] at h0
    rw [List.all_eq_true]
    intro x hx
    have := h0 x hx
    simpa using this
  rw [h1]
  have h2 : (backToKw pos (keywordEach [] env)).all (fun x => x.1.isSome) = true := rfl
  rw [h2]
  simpa using hl
theorem bm_core {b : Bm} {o es : Ex} {X : Cx} {x : Expr} {as : List Expr} {name : Str} {apos cpos : Pos} {Ty id : String} {W : WX} (c : Cxt Z T C n cm X) (t : Takes X W) (ho : Snd Z T C n o) (hes : Snd Z T C n es)
    (pa : PlainAttrs Ty) (slot : Slot Ty name id) (hty : typeOf (.builtin id) = pure (.type "method_descriptor")) (hm : MtR X id (rBm Z b))
    (tyok : ∀ ρ H m dx v, Rel Z ρ H m → RV Z ρ H dx v → bmTy m b dx = true → tyV Z.K Ty v H) (tyb : ∀ m dx ds r, evBm m b dx ds = some r → bmTy m b dx = true)
    (h1 : chE Z.toStc cm X.N X.env.scope o x = true) (h2 : attrB x = true) (h3 : (apos.endLine == cpos.line) = true) (h4 : chA Z.toStc cm X.N X.env.scope es as = true) (hl : as.length < 30) :
    PE X (.Call (.Attribute x name apos) as [] cpos) (iE Z W (ev T C (.bm b o es))) := by
  have hA := hes.a X _ W c h4 t
  have hstar := chA_star h4
  have key : ∀ {σ H Q}, iE Z W (ev T C (.bm b o es)) σ H Q → tBM X.K Ty (rBm Z b) (iE Z W (ev T C o)) (iA Z W (evA T C es)) σ H Q := by
    rintro σ H Q ⟨ρ, Γ, m, hr, hs, q⟩
    unfold ev at q
    refine ⟨ρ, Γ, m, hr, hs, (PO.bnd (Rp' := RV Z) q).mono fun v H1 ⟨d, ρ1, m1, e1, r1, v1, q1⟩ => ?_⟩
    split at q1
    · rename_i hb
      refine ⟨by rw [c.K]; exact tyok _ _ _ _ _ r1 v1 hb, ρ1, Γ, m1, r1, hs.ext e1, (PO.bnd (Rp' := RVs Z) q1).mono fun vs H2 ⟨ds, ρ2, m2, e2, r2, v2, q2⟩ => ?_⟩
      split at q2
      · rename_i d' m' he
        exact ⟨ρ2, m2, d, ds, d', m', r2, v1.ext e2, v2, tyb _ _ _ _ he, he, q2⟩
      · exact q2.elim
    · exact q1.elim
  cases as with
  | nil =>
    refine (pe_bm0 pa slot hty hm (ho.e X _ W c h1 t) (attrB_ok h2) h3).imp fun σ H Q q => ?_
    obtain ⟨ρ, Γ, m, hr, hs, q⟩ := key q
    refine ⟨ρ, Γ, m, hr, hs, q.mono fun v H1 ⟨g1, ρ1, Γ1, m1, r1, s1, q1⟩ => ⟨g1, ?_⟩⟩
    have hn : es = .nil := by cases es <;> first | rfl | (simp [chA] at h4)
    subst hn
    exact q1 [] ρ1 H1 Ext.refl r1 RVs.nil
  | cons a as =>
    have hstar' := hstar
    rw [List.all_cons, Bool.and_eq_true] at hstar
    exact (pe_bm pa slot hty hm (ho.e X _ W c h1 t) hA (attrB_ok h2) (few_ok hstar' hl) h3 (star_cons hstar.1) (star_any hstar.2)).imp fun σ H Q q => key q
theorem ty_list {ρ : List Addr} {H : Hp} {m : M} {dx : D} {v : V} (r : Rel Z ρ H m) (hv : RV Z ρ H dx v) (h : bmTy m .append dx = true) : tyV Z.K "list" v H := by
  obtain ⟨i, xs, rfl, hm⟩ := ref_of h
  obtain ⟨a, vs, rfl, hi, ha, hl, hy⟩ := ref_at r hv hm
  exact .inl ⟨rfl, vs, SqL.of ha⟩
theorem ty_str {ρ : List Addr} {H : Hp} {m : M} {dx : D} {v : V} (hv : RV Z ρ H dx v) (h : bmTy m .join dx = true) : tyV Z.K "str" v H := by
  cases dx <;> first | (cases h; done) | skip
  rw [show v = _ from hv.1]
  exact rfl
theorem tyb_append {m : M} {dx : D} {ds : List D} {r : D × M} (h : evBm m .append dx ds = some r) : bmTy m .append dx = true := by
  unfold evBm at h
  split at h <;> first | contradiction | skip
  split at h
  · rename_i q
    show (match m[_]? with | some (Ob.lst _) => true | _ => false) = true
    rw [q]
  · cases h
theorem tyb_pop0 {m : M} {dx : D} {ds : List D} {r : D × M} (h : evBm m .pop0 dx ds = some r) : bmTy m .pop0 dx = true := by
  unfold evBm at h
  split at h <;> first | contradiction | skip
  split at h
  · rename_i q
    show (match m[_]? with | some (Ob.lst _) => true | _ => false) = true
    rw [q]
  · cases h
theorem tyb_pop1 {m : M} {dx : D} {ds : List D} {r : D × M} (h : evBm m .pop1 dx ds = some r) : bmTy m .pop1 dx = true := by
  unfold evBm at h
  split at h <;> first | contradiction | skip
  split at h
  · rename_i q
    show (match m[_]? with | some (Ob.lst _) => true | _ => false) = true
    rw [q]
  · cases h
theorem tyb_join {m : M} {dx : D} {ds : List D} {r : D × M} (h : evBm m .join dx ds = some r) : bmTy m .join dx = true := by
  unfold evBm at h
  split at h <;> first | contradiction | rfl
theorem snd_bm {b : Bm} {o es : Ex} (ho : Snd Z T C n o) (hes : Snd Z T C n es) : Snd Z T C n (.bm b o es) := by
  refine .ofE (fun X a' W c h t => ?_) (fun _ _ _ as => by cases as <;> simp [chA]) (fun _ _ _ a => by simp [chC]) (fun _ _ _ _ a => by simp [chI]) (fun _ _ _ _ ops cs _ => by simp [chE])
  unfold chE at h
  split at h <;> first | contradiction | skip
  rename_i x mn apos as cpos heq
  cases heq
  simp only [Bool.and_eq_true] at h
  obtain ⟨h1, h2, ⟨h3, h4⟩, h5⟩ := h
  cases b <;> first | (cases h4; done) | skip
  · simp only [Bool.and_eq_true, decide_eq_true_eq, beq_iff_eq] at h4
    obtain ⟨rfl, hl⟩ := h4
    exact bm_core c t ho hes PySem.F.plainAttrs_list PySem.F.slot_list_append PySem.F.type_list_append sAppend (fun _ _ _ _ _ => ty_list) (fun _ _ _ _ => tyb_append) h1 h2 h3 h5 (by omega)
  · simp only [Bool.and_eq_true, decide_eq_true_eq, beq_iff_eq] at h4
    obtain ⟨rfl, hl⟩ := h4
    exact bm_core c t ho hes PySem.F.plainAttrs_list PySem.F.slot_list_pop PySem.F.type_list_pop sPop0 (fun _ _ _ _ _ => ty_list) (fun _ _ _ _ => tyb_pop0) h1 h2 h3 h5 (by omega)
  · simp only [Bool.and_eq_true, decide_eq_true_eq, beq_iff_eq] at h4
    obtain ⟨rfl, hl⟩ := h4
    exact bm_core c t ho hes PySem.F.plainAttrs_list PySem.F.slot_list_pop PySem.F.type_list_pop sPop1 (fun _ _ _ _ _ => ty_list) (fun _ _ _ _ => tyb_pop1) h1 h2 h3 h5 (by omega)
  · simp only [Bool.and_eq_true, decide_eq_true_eq, beq_iff_eq] at h4
    obtain ⟨rfl, hl⟩ := h4
    exact bm_core c t ho hes PySem.F.plainAttrs_str PySem.F.slot_str_join PySem.F.type_str_join (sJoin c.K) (fun _ _ _ _ _ _ => ty_str) (fun _ _ _ _ => tyb_join) h1 h2 h3 h5 (by omega)
end
/-- every expression -/
theorem snd {T : Tb} {C : Nat → List D → M → O D} {n : Nat} : ∀ (ex : Ex) (Z : Sta), Snd Z T C n ex
  | .var i, Z => snd_var i
  | .con d, Z => snd_con d
  | .nil, Z => snd_nil
  | .cons e r, Z => snd_cons (snd e Z) (snd r Z)
  | .tup es, Z => snd_tup (snd es Z)
  | .lst _ es, Z => snd_lst (snd es Z)
  | .bin _ a b, Z => snd_bin (snd a Z) (snd b Z)
  | .cmp _ a b, Z => snd_cmp (snd a Z) (snd b Z)
  | .chn _ _ a b c, Z => snd_chn (snd a Z) (snd b Z) (snd c Z)
  | .neg a, Z => snd_neg (snd a Z)
  | .vnot a, Z => snd_vnot (snd a Z)
  | .vand a b, Z => snd_vand (snd a Z) (snd b Z)
  | .vor a b, Z => snd_vor (snd a Z) (snd b Z)
  | .ife c a b, Z => snd_ife (snd c Z) (snd a Z) (snd b Z)
  | .idx a b, Z => snd_idx (snd a Z) (snd b Z)
  | .slc a b c, Z => snd_slc (snd a Z) (snd b Z) (snd c Z)
  | .cal _ es, Z => snd_cal (snd es Z)
  | .bi _ es, Z => snd_bi (snd es Z)
  | .bm _ o es, Z => snd_bm (snd o Z) (snd es Z)
  | .lc _ _ _ it c e, Z => snd_lc (snd it Z) (fun Z => snd c Z) (fun Z => snd e Z)
  | .tru e, Z => snd_tru (snd e Z)
  | .tnot e, Z => snd_tnot (snd e Z)
  | .tand a b, Z => snd_tand (snd a Z) (snd b Z)
  | .tor a b, Z => snd_tor (snd a Z) (snd b Z)
  | .ipl e, Z => snd_ipl (snd e Z)
  | .rg1 e, Z => snd_rg1 (snd e Z)
  | .rg2 a b, Z => snd_rg2 (snd a Z) (snd b Z)
  | .glo _ _, Z => .no (fun _ _ _ a => by simp [chE]) (fun _ _ _ as => by cases as <;> simp [chA]) (fun _ _ _ a => by simp [chC]) (fun _ _ _ _ a => by simp [chI])
  | .fnv _, Z => .no (fun _ _ _ a => by simp [chE]) (fun _ _ _ as => by cases as <;> simp [chA]) (fun _ _ _ a => by simp [chC]) (fun _ _ _ _ a => by simp [chI])
  | .newd, Z => .no (fun _ _ _ a => by simp [chE]) (fun _ _ _ as => by cases as <;> simp [chA]) (fun _ _ _ a => by simp [chC]) (fun _ _ _ _ a => by simp [chI])
  | .dsp _, Z => .no (fun _ _ _ a => by simp [chE]) (fun _ _ _ as => by cases as <;> simp [chA]) (fun _ _ _ a => by simp [chC]) (fun _ _ _ _ a => by simp [chI])
  | .rev _, Z => .no (fun _ _ _ a => by simp [chE]) (fun _ _ _ as => by cases as <;> simp [chA]) (fun _ _ _ a => by simp [chC]) (fun _ _ _ _ a => by simp [chI])
  | .att a _, Z => snd_att (snd a Z)
  | .clv _ _, Z => .no (fun _ _ _ a => by simp [chE]) (fun _ _ _ as => by cases as <;> simp [chA]) (fun _ _ _ a => by simp [chC]) (fun _ _ _ _ a => by simp [chI])
  | .mth _ _ _, Z => .no (fun _ _ _ a => by simp [chE]) (fun _ _ _ as => by cases as <;> simp [chA]) (fun _ _ _ a => by simp [chC]) (fun _ _ _ _ a => by simp [chI])
  | .mak _ _, Z => .no (fun _ _ _ a => by simp [chE]) (fun _ _ _ as => by cases as <;> simp [chA]) (fun _ _ _ a => by simp [chC]) (fun _ _ _ _ a => by simp [chI])
  | .bw _ _ it, Z => by
    cases it with
    | rg1 a => exact snd_bw (fun b e => by cases e; exact snd a Z) (fun a b e => by cases e)
    | rg2 a b => exact snd_bw (fun b e => by cases e) (fun c d e => by cases e; exact ⟨snd a Z, snd b Z⟩)
    | _ => exact snd_bw (fun b e => by cases e) (fun a b e => by cases e)
  | .isi a _, Z => snd_isi (snd a Z)
  | .srk _ _ _ _, Z => .no (fun _ _ _ a => by simp [chE]) (fun _ _ _ as => by cases as <;> simp [chA]) (fun _ _ _ a => by simp [chC]) (fun _ _ _ _ a => by simp [chI])
  | .fst _, Z => .no (fun _ _ _ a => by simp [chE]) (fun _ _ _ as => by cases as <;> simp [chA]) (fun _ _ _ a => by simp [chC]) (fun _ _ _ _ a => by simp [chI])
  | .yes, Z => .no (fun _ _ _ a => by simp [chE]) (fun _ _ _ as => by cases as <;> simp [chA]) (fun _ _ _ a => by simp [chC]) (fun _ _ _ _ a => by simp [chI])
  | .enu _, Z => .no (fun _ _ _ a => by simp [chE]) (fun _ _ _ as => by cases as <;> simp [chA]) (fun _ _ _ a => by simp [chC]) (fun _ _ _ _ a => by simp [chI])
  | .zip _ _, Z => .no (fun _ _ _ a => by simp [chE]) (fun _ _ _ as => by cases as <;> simp [chA]) (fun _ _ _ a => by simp [chC]) (fun _ _ _ _ a => by simp [chI])
  | .rvs _, Z => .no (fun _ _ _ a => by simp [chE]) (fun _ _ _ as => by cases as <;> simp [chA]) (fun _ _ _ a => by simp [chC]) (fun _ _ _ _ a => by simp [chI])
  | .itm _, Z => .no (fun _ _ _ a => by simp [chE]) (fun _ _ _ as => by cases as <;> simp [chA]) (fun _ _ _ a => by simp [chC]) (fun _ _ _ _ a => by simp [chI])
  | .vls _, Z => .no (fun _ _ _ a => by simp [chE]) (fun _ _ _ as => by cases as <;> simp [chA]) (fun _ _ _ a => by simp [chC]) (fun _ _ _ _ a => by simp [chI])
end Mi

end
section
set_option Elab.async false
set_option linter.all false
set_option maxRecDepth 100000
set_option maxHeartbeats 4000000
/-! Mi13: statements -/
namespace Mi
open PySem PySem.Spec PyProof.Rows L2 TL
/-- what is wanted behind a statement -/
def PSt (Z : Sta) (W : WX) (N : Ends) (ρ : List Addr) (H : Hp) : Option SR → Prop
  | some (.nx Γ' m') => ∀ σ' ρ' H', Ext ρ H ρ' H' → Rel Z ρ' H' m' → RS Z ρ' H' Γ' σ' → N.nx σ' H'
  | some (.ct Γ' m') => ∀ σ' ρ' H', Ext ρ H ρ' H' → Rel Z ρ' H' m' → RS Z ρ' H' Γ' σ' → N.ct σ' H'
  | some (.rt d m') => ∀ v ρ' H', Ext ρ H ρ' H' → Rel Z ρ' H' m' → RV Z ρ' H' d v → N.rt v H'
  | some (.ex c xs Γ' m') => ∀ cls dd σ' ρ' H', Ext ρ H ρ' H' → Rel Z ρ' H' m' → RS Z ρ' H' Γ' σ' → RX Z ρ' H' c xs cls dd → W cls dd σ' H'
  | none => False
section
variable {Z : Sta} {W : WX} {N N' : Ends} {ρ ρ1 : List Addr} {H H1 : Hp}
theorem PSt.ext {r : Option SR} (e : Ext ρ H ρ1 H1) (h : PSt Z W N ρ H r) : PSt Z W N ρ1 H1 r := by
  match r, h with
  | some (.nx Γ' m'), h => exact fun σ' ρ' H' e' => h σ' ρ' H' (e.trans e')
  | some (.ct Γ' m'), h => exact fun σ' ρ' H' e' => h σ' ρ' H' (e.trans e')
  | some (.rt d m'), h => exact fun v ρ' H' e' => h v ρ' H' (e.trans e')
  | some (.ex c xs Γ' m'), h => exact fun cls dd σ' ρ' H' e' => h cls dd σ' ρ' H' (e.trans e')
/-- an expression's step within a statement -/
theorem PSt.sb {α β : Type} {Γ : Env} {σ : L2.St} {o : O α} {k : α → M → Option SR} {Rp : List Addr → Hp → α → β → Prop} (hs : RS Z ρ H Γ σ) (h : PSt Z W N ρ H (Mi.sb Γ o k)) :
    PO Z Rp (fun c d H' => W c d σ H') ρ H (fun b H1 => ∃ a ρ1 m1, Ext ρ H ρ1 H1 ∧ Rel Z ρ1 H1 m1 ∧ RS Z ρ1 H1 Γ σ ∧ Rp ρ1 H1 a b ∧ PSt Z W N ρ1 H1 (k a m1)) o := by
  match o, h with
  | some (.ok a m'), h => exact fun b ρ' H' e h1 h2 => ⟨a, ρ', m', e, h1, hs.ext e, h2, PSt.ext e h⟩
  | some (.ex c xs m'), h => exact fun cls dd ρ' H' e h1 h2 => h cls dd σ ρ' H' e h1 (hs.ext e) h2
end
def iS (Z : Sta) (W : WX) (f : Env → M → Option SR) : TS := fun N σ H => ∃ ρ Γ m, Rel Z ρ H m ∧ RS Z ρ H Γ σ ∧ PSt Z W N ρ H (f Γ m)

/-! ### checks -/
def isName : Expr → Bool
  | .Name _ _ => true
  | _ => false
def notTup : Expr → Bool
  | .Tuple _ _ _ => false
  | _ => true
/-- a comprehension stored on one line -/
def lcSame (sc : Scope) (tg v : Expr) : Bool := match tg, v with
  | .Name y py, .ListComp _ _ scope pos => locB sc y && ((py.line == pos.line) && !(scope.names.any fun (n, k) => n == y && (k == .local || k == .cell)))
  | _, _ => false
/-- .. and on another -/
def lcOther (tg v : Expr) : Bool := match tg, v with
  | .Name _ py, .ListComp _ _ _ pos => !(py.line == pos.line)
  | _, _ => false
def par2 (N : List Str) (sc : Scope) : Tg → List Expr → Bool
  | .cons (.nm i) (.cons (.nm j) .nil), [.Name x px, .Name y py] => decide (N[i]? = some x) && (decide (N[j]? = some y) && (decide (i ≠ j) && (locB sc x && (locB sc y && ((py.line == px.line) && !(x == y))))))
  | _, _ => false
def par3 (N : List Str) (sc : Scope) : Tg → List Expr → Bool
  | .cons (.nm i) (.cons (.nm j) (.cons (.nm k) .nil)), [.Name x px, .Name y py, .Name z pz] => decide (N[i]? = some x) && (decide (N[j]? = some y) && (decide (N[k]? = some z) && (decide (i ≠ j) && (decide (i ≠ k) && (decide (j ≠ k) && (locB sc x && (locB sc y && (locB sc z && ((py.line == px.line) && ((pz.line == px.line) && ([x, y, z].eraseDups.length == 3)))))))))))
  | _, _ => false
/-- values that are not all constants -/
def someFree (as : List Expr) : Bool := !(as.all (foldedForSure 8)) && !(as.all (constantsAlone 8))
section
variable (Z : Stc) (cm : Bool) (N : List Str) (sc : Scope)
mutual
def chS : Sm → Stmt → Bool
  | .skip, .Pass _ => true
  | .skip, .Expr (.Constant (.str _) _ _) _ => true
  | .asg t e, .Assign [tg] v _ => (cm || isName tg) && (tgB N sc t tg && ((chE Z cm N sc e v && ((notComp v && (isName tg || notTup v)) || lcOther tg v)) || (cm && (match t, e, v with
      | .nm i, .lc _ own t' it c e', .ListComp elt [⟨tg', iter, ifs, 0⟩] scope _ => lcSame sc tg v && (chI Z cm N sc it tg' iter && (blkC N sc scope (ownB own) && (tgB N scope t' tg' && ((tgS t').all (fun i => (slots own).contains i) && ((match c, ifs with | .yes, [] => true | c, [a] => chC Z cm N (relS scope sc) c a | _, _ => false) && (chE Z cm N (relS scope sc) e' elt && notSet iter))))))
      | _, _, _ => false))))
  | .par t es, .Assign [.Tuple ts _ _] (.Tuple as _ _) _ => cm && ((par2 N sc t ts && (as.length == 2) || par3 N sc t ts && (as.length == 3)) && (someFree as && chA Z cm N sc es as))
  | .sub o i e, .Assign [.Subscript x y _] v _ => chE Z cm N sc o x && (chE Z cm N sc i y && (notSlice y && (chE Z cm N sc e v && notComp v)))
  | .aug i e, .AugAssign (.Name x _) .Add v _ => decide (N[i]? = some x) && (lcB sc x && chE Z cm N sc e v)
  | .exp e, .Expr v _ => chE Z cm N sc e v && notComp v
  | .ret e, .Return (some v) _ => chE Z cm N sc e v
  | .retN, .Return none _ => true
  | .ife c a b, .If t x y _ => chC Z cm N sc c t && (chSs a x && chSs b y)
  | .whl c b, .While t x [] _ => cm && (chC Z cm N sc c t && chSs b x)
  | .for t it b, .For tg iter x [] _ => cm && (tgB N sc t tg && (chI Z cm N sc it tg iter && (notSet iter && chSs b x)))
  | .cont, .Continue _ => true
  | _, _ => false
def chSs : Sm → List Stmt → Bool
  | .skip, [] => true
  | .seq a b, s :: r => chS a s && chSs b r
  | _, _ => false
end
end
theorem swapsN_ok {e tg : Expr} {l : Nat} {env : PySem.Env} (h : notComp e = true) : swapsWithSole [tg] e l env = pure false := by
  cases e <;> first | rfl | cases h
theorem swapsO_ok {e tg : Expr} {l : Nat} {env : PySem.Env} (h : lcOther tg e = true) : swapsWithSole [tg] e l env = pure false := by
  unfold lcOther at h
  split at h
  · rename_i y py elt gs scope pos
    show swapsWith (.ListComp elt gs scope pos) (some (.Name y py)) l env = pure false
    unfold swapsWith
    have h' : (py.line == pos.line) = false := by simpa using h
    simp only [Expr.pos, h', Bool.and_false, Bool.false_and]
    try rfl
  · cases h
theorem swapsS_ok {l : Nat} {env : PySem.Env} {y : Str} {py : Pos} {elt : Expr} {gs : List Comprehension} {scope : Scope} {pos : Pos} (hk : env.scope.kind = .function) (h : lcSame env.scope (.Name y py) (.ListComp elt gs scope pos) = true) : swapsWith (.ListComp elt gs scope pos) (some (.Name y py)) l env = pure true := by
  have h' : (locB env.scope y && ((py.line == pos.line) && !(scope.names.any fun (n, k) => n == y && (k == .local || k == .cell)))) = true := h
  rw [Bool.and_eq_true, Bool.and_eq_true] at h'
  obtain ⟨h1, h2, h3⟩ := h'
  exact sw_true hk (locB_ok h1) h2 (by simpa using h3)
theorem stores_ok {e tg : Expr} {env : PySem.Env} (h : (isName tg || notTup e) = true) : swappedStores [tg] e env = pure none := by
  cases tg <;> first | rfl | (cases e <;> first | rfl | (cases h; done))
theorem stores_lc {e tg : Expr} {env : PySem.Env} (h : lcOther tg e = true) : swappedStores [tg] e env = pure none := by
  unfold lcOther at h
  split at h
  · rfl
  · cases h
theorem each1 {tg : Expr} {env : PySem.Env} (h : plT tg = true) : (assignEach [tg] env).map (·.2) = [assign tg env] := by rw [plT_cons h]; rfl
theorem some_none {α : Type} {o : Option α} {P : α → Prop} : (match o with | some a => P a | none => False) → ∃ a, o = some a ∧ P a := by
  cases o with
  | none => exact False.elim
  | some a => exact fun h => ⟨a, rfl, h⟩
theorem PSt.map {Z : Sta} {W : WX} {N : Ends} {ρ : List Addr} {H : Hp} {o : Option Env} {m : M} (h : PSt Z W N ρ H (o.map fun Γ' => .nx Γ' m)) : ∃ Γ', o = some Γ' ∧ ∀ σ' ρ' H', Ext ρ H ρ' H' → Rel Z ρ' H' m → RS Z ρ' H' Γ' σ' → N.nx σ' H' := by
  cases o with
  | none => exact h.elim
  | some Γ' => exact ⟨Γ', rfl, h⟩
section
variable {Z : Sta} {T : Tb} {C : Nat → List D → M → O D} {n : Nat}
/-- what is said of a statement -/
structure SndS (Z : Sta) (T : Tb) (C : Nat → List D → M → O D) (n : Nat) (sm : Sm) : Prop where
  s : ∀ {cm : Bool} (X : Cx) (W : WX) (st : Stmt), Cxt Z T C n cm X → (∀ x, X.fn x = true) → X.env.scope.kind = .function → Takes X W → (cm = true → PassesOwn (model X.prog X.w) X.A X.env X.xe) → chS Z.toStc cm X.N X.env.scope sm st = true → PS X st (iS Z W (exS T C sm))
  ss : ∀ {cm : Bool} (X : Cx) (W : WX) (sts : List Stmt), Cxt Z T C n cm X → (∀ x, X.fn x = true) → X.env.scope.kind = .function → Takes X W → (cm = true → PassesOwn (model X.prog X.w) X.A X.env X.xe) → chSs Z.toStc cm X.N X.env.scope sm sts = true → PSs X sts (iS Z W (exS T C sm))
theorem locOk_def {X : Cx} (hf : ∀ x, X.fn x = true) : LocOk X X.env.scope := fun x hx => ⟨hx, .inl (hf x)⟩
theorem SndS.one {sm : Sm} (hs : ∀ {cm : Bool} (X : Cx) (W : WX) (st : Stmt), Cxt Z T C n cm X → (∀ x, X.fn x = true) → X.env.scope.kind = .function → Takes X W → (cm = true → PassesOwn (model X.prog X.w) X.A X.env X.xe) → chS Z.toStc cm X.N X.env.scope sm st = true → PS X st (iS Z W (exS T C sm)))
    (h : ∀ cm N sc sts, chSs Z.toStc cm N sc sm sts = false) : SndS Z T C n sm where
  s := hs
  ss := fun X W sts _ _ _ _ _ q => by rw [h] at q; cases q
theorem pgN {X : Cx} {sc : Scope} (hn : X.N.Nodup) (hl : LocOk X sc) {i : Nat} {x : Str} {p : Pos} (h : tgB X.N sc (.nm i) (.Name x p) = true) : PG X (.Name x p) (iG Z (.nm i)) := by
  simp only [tgB, Bool.and_eq_true, decide_eq_true_eq] at h
  obtain ⟨l1, l2⟩ := hl _ (lcB_ok h.2)
  refine (pg_name hn h.1 l1 l2).imp fun x σ H Q ⟨ρ, Γ, m, d, Γ', hr, hs, hv, ha, q⟩ => ?_
  simp only [asgT, Option.some.injEq] at ha
  subst ha
  refine q _ (hs.set i hv) fun j hj => ?_
  rw [List.getElem?_set_ne]
  simp only [tgS, List.mem_singleton] at hj
  exact fun z => hj z.symm
theorem asg_rd {W : WX} {t : Tg} {e : Ex} {N : Ends} {σ : L2.St} {H : Hp} (q : iS Z W (exS T C (.asg t e)) N σ H) : tAsg (iE Z W (ev T C e)) (iG Z t) N σ H := by
  obtain ⟨ρ, Γ, m, hr, hs, q⟩ := q
  unfold exS at q
  refine ⟨ρ, Γ, m, hr, hs, (PSt.sb (Rp := RV Z) hs q).mono fun v H1 ⟨d, ρ1, m1, e1, r1, s1, v1, q1⟩ => ?_⟩
  obtain ⟨Γ', ha, q1⟩ := PSt.map q1
  exact ⟨ρ1, Γ, m1, d, Γ', r1, s1, v1, ha, fun σ' hs' _ => q1 σ' ρ1 H1 Ext.refl r1 hs'⟩
theorem snds_asg {t : Tg} {e : Ex} : SndS Z T C n (.asg t e) := by
  refine .one (fun X W st c hf hk tk _ h => ?_) (fun _ _ _ sts => by cases sts <;> simp [chSs])
  have he := snd (T := T) (C := C) (n := n) e Z
  unfold chS at h
  split at h <;> first | contradiction | skip
  rename_i tg v pos heq
  cases heq
  simp only [Bool.and_eq_true, Bool.or_eq_true] at h
  obtain ⟨h0, h1, h2⟩ := h
  have hg : PG X tg (iG Z t) := by
    rcases h0 with h0 | h0
    · exact pgT c.K (c.calm h0) c.nd (locOk_def hf) t tg h1
    · cases tg <;> first | (cases h0; done) | skip
      cases t <;> first | (simp [tgB] at h1; done) | skip
      exact pgN c.nd (locOk_def hf) h1
  rcases h2 with ⟨h2, h3⟩ | ⟨hcm, h2⟩
  · refine (ps_asg (he.e X v W c h2 tk) hg ?_ ?_ (each1 (tgB_pl h1))).imp fun N σ H q => asg_rd q
    · rcases h3 with ⟨h3, _⟩ | h3
      · exact swapsN_ok h3
      · exact swapsO_ok h3
    · rcases h3 with ⟨_, h3⟩ | h3
      · exact stores_ok (by simpa using h3)
      · exact stores_lc h3
  · subst hcm
    split at h2
    · rename_i i al own t' it c' e' elt tg' iter ifs scope p
      simp only [Bool.and_eq_true] at h2
      obtain ⟨g0, g1, g2, g3, g4, g5, g6, g7⟩ := h2
      have ht : ∀ i ∈ tgS t', i ∈ slots own := fun i hi => by
        have := List.all_eq_true.mp g4 i hi
        simpa using this
      have g5' : (c' = .yes ∧ ifs = []) ∨ ∃ a, ifs = [a] ∧ chC Z.toStc true X.N (relS scope X.env.scope) c' a = true := by
        split at g5
        · exact .inl ⟨rfl, rfl⟩
        · exact .inr ⟨_, rfl, g5⟩
        · cases g5
      obtain ⟨p1, p2, p3⟩ := lc_parts (T := T) (own := own) (fun Z => snd c' Z) (fun Z => snd e' Z) c rfl g3 g5' g6
      cases tg <;> first | (simp [lcSame] at g0; done) | skip
      rename_i y py
      simp only [tgB, Bool.and_eq_true, decide_eq_true_eq] at h1
      have hl : X.env.scope.names.lookup y = some .local := by
        have g0' := g0
        simp only [lcSame, Bool.and_eq_true] at g0'
        exact locB_ok g0'.1
      refine (ps_setLc (c.calm rfl) c.nd h1.1 hl (swapsS_ok hk g0) ((snd (T := T) it Z).i X _ _ W c g1 tk) (blkOk_by g2) p1 p2 p3 (fold_ok g7)).imp fun N σ H q => ?_
      obtain ⟨ρ, Γ, m, hr, hs, q⟩ := q
      unfold exS at q
      refine lc_fin (T := T) (C := C) (al := al) (W := W) ht ⟨ρ, Γ, m, hr, hs, (PSt.sb (Rp := RV Z) hs q).mono fun v H1 ⟨d, ρ1, m1, e1, r1, s1, v1, q1⟩ => ?_⟩
      obtain ⟨Γ', ha, q1⟩ := PSt.map q1
      simp only [asgT, Option.some.injEq] at ha
      subst ha
      exact q1 _ ρ1 H1 Ext.refl r1 (s1.set i v1)
    · cases h2

theorem snds_skip : SndS Z T C n .skip where
  s := fun X W st c hf hk tk _ h => by
    cases st <;> first | (simp [chS] at h; done) | skip
    · rename_i e pos
      unfold chS at h
      split at h <;> first | contradiction | skip
      · rename_i heq
        cases heq
        exact ps_doc.imp (t' := iS Z W (exS T C .skip)) fun N σ H ⟨ρ, Γ, m, hr, hs, q⟩ => q σ ρ H Ext.refl hr hs
    · exact ps_pass.imp fun N σ H ⟨ρ, Γ, m, hr, hs, q⟩ => q σ ρ H Ext.refl hr hs
  ss := fun X W sts c hf hk tk _ h => by
    cases sts <;> first | (simp [chSs] at h; done) | skip
    exact pss_nil.imp fun N σ H ⟨ρ, Γ, m, hr, hs, q⟩ => q σ ρ H Ext.refl hr hs
theorem seq_core {a b : Sm} {X : Cx} {W : WX} {st : Stmt} {r : List Stmt} (ha : PS X st (iS Z W (exS T C a))) (hb : PSs X r (iS Z W (exS T C b))) : PSs X (st :: r) (iS Z W (exS T C (.seq a b))) := by
  refine (pss_cons ha hb).imp fun N σ H ⟨ρ, Γ, m, hr, hs, q⟩ => ?_
  refine ⟨ρ, Γ, m, hr, hs, ?_⟩
  unfold exS at q
  match exS T C a Γ m, q with
  | some (.nx Γ' m'), q => exact fun σ' ρ' H' e r' s' => ⟨ρ', Γ', m', r', s', PSt.ext e q⟩
  | some (.ct Γ' m'), q => exact q
  | some (.rt d m'), q => exact q
  | some (.ex c xs Γ' m'), q => exact q
theorem snds_seq {a b : Sm} (ha : SndS Z T C n a) (hb : SndS Z T C n b) : SndS Z T C n (.seq a b) where
  s := fun X W st c hf hk tk _ h => by cases st <;> simp [chS] at h
  ss := fun X W sts c hf hk tk hp h => by
    cases sts <;> first | (simp [chSs] at h; done) | skip
    rename_i s r
    simp only [chSs, Bool.and_eq_true] at h
    exact seq_core (ha.s X W s c hf hk tk hp h.1) (hb.ss X W r c hf hk tk hp h.2)
theorem snds_exp {e : Ex} : SndS Z T C n (.exp e) := by
  refine .one (fun X W st c hf hk tk _ h => ?_) (fun _ _ _ sts => by cases sts <;> simp [chSs])
  unfold chS at h
  split at h <;> first | contradiction | skip
  rename_i heq
  cases heq
  rw [Bool.and_eq_true] at h
  refine (ps_expr ((snd (T := T) e Z).e X _ W c h.1 tk) (swaps_ok h.2)).imp fun N σ H ⟨ρ, Γ, m, hr, hs, q⟩ => ?_
  unfold exS at q
  exact ⟨ρ, Γ, m, hr, hs, (PSt.sb (Rp := RV Z) hs q).mono fun v H1 ⟨d, ρ1, m1, e1, r1, s1, v1, q1⟩ => q1 σ ρ1 H1 Ext.refl r1 s1⟩
theorem snds_ret {e : Ex} : SndS Z T C n (.ret e) := by
  refine .one (fun X W st c hf hk tk _ h => ?_) (fun _ _ _ sts => by cases sts <;> simp [chSs])
  unfold chS at h
  split at h <;> first | contradiction | skip
  rename_i heq
  cases heq
  refine (ps_ret ((snd (T := T) e Z).e X _ W c h tk)).imp fun N σ H ⟨ρ, Γ, m, hr, hs, q⟩ => ?_
  unfold exS at q
  exact ⟨ρ, Γ, m, hr, hs, (PSt.sb (Rp := RV Z) hs q).mono fun v H1 ⟨d, ρ1, m1, e1, r1, s1, v1, q1⟩ => q1 v ρ1 H1 Ext.refl r1 v1⟩
theorem snds_retN : SndS Z T C n .retN := by
  refine .one (fun X W st c hf hk tk _ h => ?_) (fun _ _ _ sts => by cases sts <;> simp [chSs])
  unfold chS at h
  split at h <;> first | contradiction | skip
  exact ps_retN.imp fun N σ H ⟨ρ, Γ, m, hr, hs, q⟩ => q .non ρ H Ext.refl hr rfl
theorem snds_cont : SndS Z T C n .cont := by
  refine .one (fun X W st c hf hk tk _ h => ?_) (fun _ _ _ sts => by cases sts <;> simp [chSs])
  unfold chS at h
  split at h <;> first | contradiction | skip
  exact ps_continue.imp fun N σ H ⟨ρ, Γ, m, hr, hs, q⟩ => q σ ρ H Ext.refl hr hs
theorem ife_core {cm : Bool} {t : Ex} {a b : Sm} {X : Cx} {W : WX} {te : Expr} {x y : List Stmt} {pos : Pos} (c : Cxt Z T C n cm X) (tk : Takes X W) (h1 : chC Z.toStc cm X.N X.env.scope t te = true) (ha : PSs X x (iS Z W (exS T C a))) (hb : PSs X y (iS Z W (exS T C b))) : PS X (.If te x y pos) (iS Z W (exS T C (.ife t a b))) := by
  refine (ps_if ((snd (T := T) t Z).c X _ W c h1 tk) ha hb).imp fun N σ H ⟨ρ, Γ, m, hr, hs, q⟩ => ?_
  unfold exS at q
  refine ⟨ρ, Γ, m, hr, hs, (PSt.sb (Rp := fun _ _ a b => a = b) hs q).mono fun v H1 ⟨d, ρ1, m1, e1, r1, s1, v1, q1⟩ => ?_⟩
  subst v1
  cases d with
  | true => exact ⟨ρ1, Γ, m1, r1, s1, q1⟩
  | false => exact ⟨ρ1, Γ, m1, r1, s1, q1⟩
theorem snds_ife {t : Ex} {a b : Sm} (ha : SndS Z T C n a) (hb : SndS Z T C n b) : SndS Z T C n (.ife t a b) := by
  refine .one (fun X W st c hf hk tk hp h => ?_) (fun _ _ _ sts => by cases sts <;> simp [chSs])
  unfold chS at h
  split at h <;> first | contradiction | skip
  rename_i heq
  cases heq
  rw [Bool.and_eq_true, Bool.and_eq_true] at h
  obtain ⟨h1, h2, h3⟩ := h
  exact ife_core c tk h1 (ha.ss X W _ c hf hk tk hp h2) (hb.ss X W _ c hf hk tk hp h3)
theorem snds_aug {i : Nat} {e : Ex} : SndS Z T C n (.aug i e) := by
  refine .one (fun X W st c hf hk tk _ h => ?_) (fun _ _ _ sts => by cases sts <;> simp [chSs])
  unfold chS at h
  split at h <;> first | contradiction | skip
  rename_i heq
  cases heq
  simp only [Bool.and_eq_true, decide_eq_true_eq] at h
  obtain ⟨h1, h2, h3⟩ := h
  refine (ps_aug c.nd h1 (lcB_ok h2) ((snd (T := T) e Z).e X _ W c h3 tk) ip_add (.inl (hf _))).imp fun N σ H ⟨ρ, Γ, m, hr, hs, q⟩ => ?_
  unfold exS at q
  split at q
  · rename_i k hk'
    obtain ⟨v, g1, g2⟩ := hs.2 i _ hk'
    refine ⟨v, g1, ρ, Γ, m, hr, hs, (PSt.sb (Rp := RV Z) hs q).mono fun u H1 ⟨d, ρ1, m1, e1, r1, s1, v1, q1⟩ => ?_⟩
    split at q1
    · rename_i j
      exact ⟨k, j, g2, v1, q1 _ ρ1 H1 Ext.refl r1 (s1.set i rfl)⟩
    · exact q1.elim
  · exact q.elim
theorem anyStar {vs : List Expr} (h : vs.all notStar = true) : (vs.any fun | .Starred .. => true | _ => false) = false := by
  rw [List.any_eq_false]
  intro e he
  have := List.all_eq_true.mp h e he
  cases e <;> first | (cases this; done) | simp
theorem swap2 {env : PySem.Env} {x y : Str} {px py pt pt2 : Pos} {kt k2 : Nat} {a b : Expr} (hb : env.blockKind = .function) (kx : env.kindOf x = some .local) (ky : env.kindOf y = some .local) (g6 : (py.line == px.line) = true) (g7 : (!(x == y)) = true)
    (hs : [a, b].all notStar = true) (h1 : [a, b].all (foldedForSure 8) = false) (h2 : [a, b].all (constantsAlone 8) = false) : swappedStores [.Tuple [.Name x px, .Name y py] kt pt] (.Tuple [a, b] k2 pt2) env = pure (some [x, y]) := by
  unfold swappedStores
  have hst := anyStar hs
  have hxy : (x == y) = false := by simpa using g7
  have hyx : (y == x) = false := by rw [beq_eq_false_iff_ne] at hxy ⊢; exact fun e => hxy e.symm
  have hd : [x, y].eraseDups.length = 2 := by simp [List.eraseDups_cons, hyx]
  dsimp only
  rw [if_neg (by simp [hb])]
  rw [if_neg (by rw [Bool.not_eq_true]; exact hst)]
  have g6' : py.line = px.line := beq_iff_eq.mp g6
  have hn : (List.filterMap (fun | .Name id pos => if (env.kindOf id == some .local && pos.line == (([Expr.Name x px, Expr.Name y py].head?.map (·.pos.line)).getD 0)) = true then some id else none | _ => none) [Expr.Name x px, Expr.Name y py]) = [x, y] := by
    simp [List.filterMap_cons, kx, ky, Expr.pos, g6']
  have hL : ∀ L : List Str, L = [x, y] → ((L.length != 2 || L.eraseDups.length != L.length) = false) := fun L e => by rw [e, hd]; rfl
  rw [if_neg (by rw [Bool.not_eq_true]; exact hL _ hn)]
  rw [if_neg (by rw [h1]; exact Bool.false_ne_true), if_neg (by rw [h2]; exact Bool.false_ne_true)]
  exact congrArg (fun L => (pure (some L) : Sem (Option (List Str)))) hn
theorem swap3 {env : PySem.Env} {x y z : Str} {px py pz pt pt2 : Pos} {kt k2 : Nat} {a b c : Expr} (hb : env.blockKind = .function) (kx : env.kindOf x = some .local) (ky : env.kindOf y = some .local) (kz : env.kindOf z = some .local) (g6 : (py.line == px.line) = true) (g8 : (pz.line == px.line) = true) (hd : ([x, y, z].eraseDups.length == 3) = true)
    (hs : [a, b, c].all notStar = true) (h1 : [a, b, c].all (foldedForSure 8) = false) (h2 : [a, b, c].all (constantsAlone 8) = false) : swappedStores [.Tuple [.Name x px, .Name y py, .Name z pz] kt pt] (.Tuple [a, b, c] k2 pt2) env = pure (some [x, y, z]) := by
  unfold swappedStores
  have hst := anyStar hs
  have hd := beq_iff_eq.mp hd
  dsimp only
  rw [if_neg (by simp [hb])]
  rw [if_neg (by rw [Bool.not_eq_true]; exact hst)]
  have g6' : py.line = px.line := beq_iff_eq.mp g6
  have g8' : pz.line = px.line := beq_iff_eq.mp g8
  have hn : (List.filterMap (fun | .Name id pos => if (env.kindOf id == some .local && pos.line == (([Expr.Name x px, Expr.Name y py, Expr.Name z pz].head?.map (·.pos.line)).getD 0)) = true then some id else none | _ => none) [Expr.Name x px, Expr.Name y py, Expr.Name z pz]) = [x, y, z] := by
    simp [List.filterMap_cons, kx, ky, kz, Expr.pos, g6', g8']
  have hL : ∀ L : List Str, L = [x, y, z] → ((L.length != 3 || L.eraseDups.length != L.length) = false) := fun L e => by rw [e, hd]; rfl
  rw [if_neg (by rw [Bool.not_eq_true]; exact hL _ hn)]
  rw [if_neg (by rw [h1]; exact Bool.false_ne_true), if_neg (by rw [h2]; exact Bool.false_ne_true)]
  exact congrArg (fun L => (pure (some L) : Sem (Option (List Str)))) hn
theorem snds_par {t : Tg} {es : Ex} : SndS Z T C n (.par t es) := by
  refine .one (fun X W st c hf hk tk _ h => ?_) (fun _ _ _ sts => by cases sts <;> simp [chSs])
  unfold chS at h
  split at h <;> first | contradiction | skip
  rename_i ts kt pt as k2 pt2 pos heq
  cases heq
  simp only [Bool.and_eq_true, Bool.or_eq_true, beq_iff_eq] at h
  obtain ⟨hcm, h1, h2, h3⟩ := h
  have hA := (snd (T := T) es Z).a X _ W c h3 tk
  have hb : X.env.blockKind = .function := by unfold Env.blockKind; rw [hk]; rfl
  unfold someFree at h2
  rw [Bool.and_eq_true, Bool.not_eq_true', Bool.not_eq_true'] at h2
  have hstar := chA_star h3
  rcases h1 with ⟨h1, hl⟩ | ⟨h1, hl⟩
  · unfold par2 at h1
    split at h1
    · rename_i i j x px y py
      simp only [Bool.and_eq_true, decide_eq_true_eq] at h1
      obtain ⟨g1, g2, g3, g4, g5, g6, g7⟩ := h1
      match as, hl, hA, h2, hstar with
      | [a, b], _, hA, h2, hstar =>
        have kx : X.env.kindOf x = some .local := locB_ok g4
        have ky : X.env.kindOf y = some .local := locB_ok g5
        have hw : swappedStores [.Tuple [.Name x px, .Name y py] kt pt] (.Tuple [a, b] k2 pt2) X.env = pure (some [x, y]) := by
          exact swap2 hb kx ky g6 g7 hstar h2.1 h2.2
        refine (ps_par (c.calm hcm) c.nd g1 g2 g3 (locB_ok g4) (locB_ok g5) hA hw).imp fun N σ H ⟨ρ, Γ, m, hr, hs, q⟩ => ?_
        unfold exS at q
        refine ⟨ρ, Γ, m, hr, hs, (PSt.sb (Rp := RVs Z) hs q).mono fun vs H1 ⟨d, ρ1, m1, e1, r1, s1, v1, q1⟩ => ?_⟩
        obtain ⟨Γ', ha, q1⟩ := PSt.map q1
        match d, ha with
        | [d1, d2], ha =>
          unfold RVs at v1
          obtain ⟨u1, vr, rfl, w1, v1⟩ := v1
          obtain ⟨u2, rfl, w2⟩ := v1.one_inv
          simp only [asgL, asgT, Option.bind_some, Option.some.injEq] at ha
          subst ha
          exact ⟨u1, u2, rfl, q1 _ ρ1 H1 Ext.refl r1 ((s1.set i w1).set j w2)⟩
    · cases h1
  · unfold par3 at h1
    split at h1
    · rename_i i j l x px y py z pz
      simp only [Bool.and_eq_true, decide_eq_true_eq] at h1
      obtain ⟨g1, g2, g3, g4, g5, g6, g7, g8, g9, k1, k2', k3⟩ := h1
      match as, hl, hA, h2, hstar with
      | [a, b, d0], _, hA, h2, hstar =>
        have hw : swappedStores [.Tuple [.Name x px, .Name y py, .Name z pz] kt pt] (.Tuple [a, b, d0] k2 pt2) X.env = pure (some [x, y, z]) := swap3 hb (locB_ok g7) (locB_ok g8) (locB_ok g9) k1 k2' k3 hstar h2.1 h2.2
        refine (L2.ps_par3 (c.calm hcm) c.nd g1 g2 g3 g4 g5 g6 (locB_ok g7) (locB_ok g8) (locB_ok g9) hA hw).imp fun N σ H ⟨ρ, Γ, m, hr, hs, q⟩ => ?_
        unfold exS at q
        refine ⟨ρ, Γ, m, hr, hs, (PSt.sb (Rp := RVs Z) hs q).mono fun vs H1 ⟨d, ρ1, m1, e1, r1, s1, v1, q1⟩ => ?_⟩
        obtain ⟨Γ', ha, q1⟩ := PSt.map q1
        match d, ha with
        | [d1, d2, d3], ha =>
          unfold RVs at v1
          obtain ⟨u1, vr, rfl, w1, v1⟩ := v1
          unfold RVs at v1
          obtain ⟨u2, vr, rfl, w2, v1⟩ := v1
          obtain ⟨u3, rfl, w3⟩ := v1.one_inv
          simp only [asgL, asgT, Option.bind_some, Option.some.injEq] at ha
          subst ha
          exact ⟨u1, u2, u3, rfl, q1 _ ρ1 H1 Ext.refl r1 (((s1.set i w1).set j w2).set l w3)⟩
    · cases h1
theorem sub_ok {X : Cx} {o i : Expr} {pos : Pos} (h : notSlice i = true) : ∀ v, assign (.Subscript o i pos) X.env v = (do
      let ov ← holding [v] (eval o X.env)
      let iv ← holding [v, ov] (eval i X.env)
      standAt pos
      holding [v, ov, iv] (setItem ov iv v)
      release [v, ov, iv] []) := by
  intro v
  cases i <;> first | rfl | cases h
theorem snds_sub {o i e : Ex} : SndS Z T C n (.sub o i e) := by
  refine .one (fun X W st c hf hk tk hp h => ?_) (fun _ _ _ sts => by cases sts <;> simp [chSs])
  unfold chS at h
  split at h <;> first | contradiction | skip
  rename_i heq
  cases heq
  simp only [Bool.and_eq_true] at h
  obtain ⟨h1, h2, h3, h4, h5⟩ := h
  refine (ps_asg ((snd (T := T) e Z).e X _ W c h4 tk) (pg_sub ((snd (T := T) o Z).e X _ W c h1 tk) ((snd (T := T) i Z).e X _ W c h2 tk) set_list (sub_ok h3)) (swapsN_ok h5) (by rfl) (by rfl)).imp fun N σ H ⟨ρ, Γ, m, hr, hs, q⟩ => ?_
  unfold exS at q
  refine ⟨ρ, Γ, m, hr, hs, (PSt.sb (Rp := RV Z) hs q).mono fun v H1 ⟨d, ρ1, m1, e1, r1, s1, v1, q1⟩ => ?_⟩
  refine ⟨ρ1, Γ, m1, r1, s1, (PSt.sb (Rp := RV Z) s1 q1).mono fun x H2 ⟨dx, ρ2, m2, e2, r2, s2, v2, q2⟩ => ?_⟩
  refine ⟨ρ2, Γ, m2, r2, s2, (PSt.sb (Rp := RV Z) s2 q2).mono fun y H3 ⟨dy, ρ3, m3, e3, r3, s3, v3, q3⟩ => ?_⟩
  cases hm : putItem m3 dx dy d with
  | none => rw [hm] at q3; exact q3.elim
  | some m' =>
    rw [hm] at q3
    unfold putItem at hm
    split at hm <;> first | contradiction | skip
    rename_i a _
    split at hm <;> first | contradiction | skip
    · rename_i xs hx
      split at hm <;> first | contradiction | skip
      rename_i k
      obtain ⟨j, hj, e⟩ := Option.map_eq_some_iff.mp hm
      subst e
      obtain ⟨p, vs, g1, g2, g3, g4, g5⟩ := ref_at r3 (v2.ext e3) hx
      subst g1
      obtain ⟨ee, rr⟩ := r3.setL (ys := xs.set j d) (ws := vs.set j v) g2 g3 (by rw [List.length_set]; exact g4) (g5.set j ((v1.ext e2).ext e3))
      refine ⟨p, vs, k, j, rfl, v3, g3, ?_, q3 σ ρ3 _ ee rr (s3.ext ee)⟩
      rw [g5.length, ← ix_eq]; exact hj
    · rename_i kvs hx
      have v2' := v2.ext e3
      unfold RV at v2'
      obtain ⟨p, _, g2⟩ := v2'
      exact (r3.ob a p _ g2 hx).elim
theorem for_core {cm : Bool} {t : Tg} {it : Ex} {b : Sm} {X : Cx} {W : WX} {tg iter : Expr} {x : List Stmt} {pos : Pos} (c : Cxt Z T C n cm X) (hf : ∀ x, X.fn x = true) (tk : Takes X W) (hp : PassesOwn (model X.prog X.w) X.A X.env X.xe) (hcm : cm = true) (h1 : tgB X.N X.env.scope t tg = true) (h2 : chI Z.toStc cm X.N X.env.scope it tg iter = true) (h3 : notSet iter = true)
    (hb : PSs X x (iS Z W (exS T C b))) : PS X (.For tg iter x [] pos) (iS Z W (exS T C (.for t it b))) := by
  refine (ps_for hp (c.calm hcm) ((snd (T := T) it Z).i X _ _ W c h2 tk) (pgT c.K (c.calm hcm) c.nd (locOk_def hf) t _ h1) hb (fold_ok h3)).imp fun N σ H ⟨ρ, Γ, m, hr, hs, q⟩ => ?_
  unfold exS at q
  refine ⟨ρ, Γ, m, hr, hs, (PSt.sb (Rp := fun ρ' H' w J => RIt Z ρ' H' w J) hs q).mono fun J H1 ⟨w, ρ1, m1, e1, r1, s1, j1, q1⟩ => ?_⟩
  generalize hF : (fun (x : D) (Γ : Env) (m : M) => match asgT m t x Γ with | some Γ' => exS T C b Γ' m | none => none) = F at q1
  refine ⟨fun i k σ H' => k = w.xs.length - i ∧ i ≤ w.xs.length ∧ ∃ ρ' Γ' m', Ext ρ1 H1 ρ' H' ∧ Rel Z ρ' H' m' ∧ RS Z ρ' H' Γ' σ ∧ PSt Z W N ρ' H' (forGo F w.ws (w.xs.drop i) Γ' m'), ⟨_, rfl, Nat.zero_le _, ρ1, Γ, m1, Ext.refl, r1, s1, by rw [List.drop_zero]; exact q1⟩, ?_⟩
  rintro i k σ2 H2 ⟨rfl, hi, ρ2, Γ2, m2, e2, r2, s2, q2⟩
  have hh : ∀ a ∈ Z.hid, a ∈ Z.hid ∨ H1 a = none := fun a ha => .inl ha
  by_cases hlt : i < w.xs.length
  · rw [List.drop_eq_getElem_cons hlt] at q2
    unfold forGo at q2
    split at q2
    · rename_i hw
      obtain ⟨g1, g2⟩ := j1.go _ ρ2 H2 m2 hh e2 r2 hw i hlt
      refine .inr ⟨g1, fun σ' H' => ∃ ρ' Γ' m', Ext ρ1 H1 ρ' H' ∧ Rel Z ρ' H' m' ∧ RS Z ρ' H' Γ' σ' ∧ PSt Z W N ρ' H' (forGo F w.ws (w.xs.drop (i + 1)) Γ' m'), fun σ' H' nx => ⟨_, ?_, rfl, by omega, nx⟩, fun x H3 hy => ?_⟩
      · omega
      obtain ⟨e3, r3, d, hd, v3⟩ := g2 x H3 hy
      rw [List.getElem?_eq_getElem hlt] at hd
      cases hd
      have hFx : F w.xs[i] Γ2 m2 = match asgT m2 t w.xs[i] Γ2 with | some Γ' => exS T C b Γ' m2 | none => none := by rw [← hF]
      rw [hFx] at q2
      cases ha : asgT m2 t w.xs[i] Γ2 with
      | none => rw [ha] at q2; exact q2.elim
      | some Γ' =>
        rw [ha] at q2
        refine ⟨ρ2, Γ2, m2, w.xs[i], Γ', r3, s2.ext e3, v3, ha, fun σ' hs' _ => ⟨ρ2, Γ', m2, r3, hs', ?_⟩⟩
        dsimp only at q2
        match exS T C b Γ' m2, q2 with
        | some (.nx Γ3 m3), q2 => exact fun σ4 ρ4 H4 e4 r4 s4 => ⟨ρ4, Γ3, m3, (e2.trans e3).trans e4, r4, s4, PSt.ext (e3.trans e4) q2⟩
        | some (.ct Γ3 m3), q2 => exact fun σ4 ρ4 H4 e4 r4 s4 => ⟨ρ4, Γ3, m3, (e2.trans e3).trans e4, r4, s4, PSt.ext (e3.trans e4) q2⟩
        | some (.rt d m'), q2 => exact PSt.ext (Z := Z) (W := W) (N := N) (r := some (.rt d m')) e3 q2
        | some (.ex c xs Γ' m'), q2 => exact PSt.ext (Z := Z) (W := W) (N := N) (r := some (.ex c xs Γ' m')) e3 q2
    · exact q2.elim
  · have ei : i = w.xs.length := by omega
    subst ei
    rw [List.drop_length] at q2
    unfold forGo at q2
    split at q2
    · rename_i hw
      exact .inl ⟨j1.stop _ ρ2 H2 m2 hh e2 r2 hw, q2 σ2 ρ2 H2 Ext.refl r2 s2⟩
    · exact q2.elim
theorem snds_for {t : Tg} {it : Ex} {b : Sm} (hb : SndS Z T C n b) : SndS Z T C n (.for t it b) := by
  refine .one (fun X W st c hf hk tk hp h => ?_) (fun _ _ _ sts => by cases sts <;> simp [chSs])
  unfold chS at h
  split at h <;> first | contradiction | skip
  rename_i heq
  cases heq
  simp only [Bool.and_eq_true] at h
  obtain ⟨hcm, h1, h2, h3, h4⟩ := h
  exact for_core c hf tk (hp hcm) hcm h1 h2 h3 (hb.ss X W _ c hf hk tk hp h4)
/-- a while, with fuel -/
def whlK (c : Env → M → O Bool) (b : Env → M → Option SR) : Nat → Env → M → Option SR
  | 0, _, _ => none
  | k + 1, Γ, m => match c Γ m with
    | some (.ok true m') => (match b Γ m' with
      | some (.nx Γ' m'') => whlK c b k Γ' m''
      | some (.ct Γ' m'') => whlK c b k Γ' m''
      | o => o)
    | some (.ok false m') => some (.nx Γ m')
    | some (.ex e v m') => some (.ex e v Γ m')
    | none => none
theorem whlK_of {c : Env → M → O Bool} {b : Env → M → Option SR} {Γ : Env} {m : M} {r : SR} (h : whlGo c b Γ m = some r) : ∃ k, whlK c b k Γ m = some r := by
  refine whlGo.partial_correctness c b (motive := fun Γ m r => ∃ k, whlK c b k Γ m = some r) ?_ Γ m r h
  intro f ih Γ m r h
  match hc : c Γ m, h with
  | some (.ok true m'), h =>
    dsimp only at h
    match hb : b Γ m', h with
    | some (.nx Γ' m''), h =>
      obtain ⟨k, hk⟩ := ih Γ' m'' r h
      exact ⟨k + 1, by unfold whlK; rw [hc]; dsimp only; rw [hb]; exact hk⟩
    | some (.ct Γ' m''), h =>
      obtain ⟨k, hk⟩ := ih Γ' m'' r h
      exact ⟨k + 1, by unfold whlK; rw [hc]; dsimp only; rw [hb]; exact hk⟩
    | some (.rt d m''), h => exact ⟨1, by unfold whlK; rw [hc]; dsimp only; rw [hb]; exact h⟩
    | some (.ex e v Γ' m''), h => exact ⟨1, by unfold whlK; rw [hc]; dsimp only; rw [hb]; exact h⟩
  | some (.ok false m'), h => exact ⟨1, by unfold whlK; rw [hc]; exact h⟩
  | some (.ex e v m'), h => exact ⟨1, by unfold whlK; rw [hc]; exact h⟩
theorem PSt.some {Z : Sta} {W : WX} {N : Ends} {ρ : List Addr} {H : Hp} {o : Option SR} (h : PSt Z W N ρ H o) : ∃ r, o = some r := by
  cases o with
  | none => exact h.elim
  | some r => exact ⟨r, rfl⟩
theorem whl_core {cm : Bool} {c : Ex} {b : Sm} {X : Cx} {W : WX} {te : Expr} {x : List Stmt} {pos : Pos} (cx : Cxt Z T C n cm X) (tk : Takes X W) (hp : PassesOwn (model X.prog X.w) X.A X.env X.xe) (h1 : chC Z.toStc cm X.N X.env.scope c te = true) (hb : PSs X x (iS Z W (exS T C b))) : PS X (.While te x [] pos) (iS Z W (exS T C (.whl c b))) := by
  refine (ps_while hp ((snd (T := T) c Z).c X _ W cx h1 tk) hb).imp fun N σ H ⟨ρ, Γ, m, hr, hs, q⟩ => ?_
  unfold exS at q
  obtain ⟨r, er⟩ := q.some
  obtain ⟨k, ek⟩ := whlK_of er
  rw [er, ← ek] at q
  clear er ek
  refine ⟨fun k σ H' => ∃ ρ' Γ' m', Rel Z ρ' H' m' ∧ RS Z ρ' H' Γ' σ ∧ PSt Z W N ρ' H' (whlK (evC T C c) (exS T C b) k Γ' m'), ⟨k, ρ, Γ, m, hr, hs, q⟩, ?_⟩
  rintro k σ2 H2 ⟨ρ2, Γ2, m2, r2, s2, q2⟩
  cases k with
  | zero => exact q2.elim
  | succ k =>
    unfold whlK at q2
    refine ⟨ρ2, Γ2, m2, r2, s2, ?_⟩
    match evC T C c Γ2 m2, q2 with
    | some (.ok true m3), q2 =>
      intro bb ρ3 H3 e3 r3 hb'
      subst hb'
      rw [if_pos rfl]
      dsimp only at q2
      refine ⟨fun σ' H' => ∃ ρ' Γ' m', Rel Z ρ' H' m' ∧ RS Z ρ' H' Γ' σ' ∧ PSt Z W N ρ' H' (whlK (evC T C c) (exS T C b) k Γ' m'), fun σ' H' nx => ⟨k, Nat.lt_succ_self _, nx⟩, ρ3, Γ2, m3, r3, s2.ext e3, ?_⟩
      match exS T C b Γ2 m3, q2 with
      | some (.nx Γ3 m3), q2 => exact fun σ4 ρ4 H4 e4 r4 s4 => ⟨ρ4, Γ3, m3, r4, s4, PSt.ext (e3.trans e4) q2⟩
      | some (.ct Γ3 m3), q2 => exact fun σ4 ρ4 H4 e4 r4 s4 => ⟨ρ4, Γ3, m3, r4, s4, PSt.ext (e3.trans e4) q2⟩
      | some (.rt d m'), q2 => exact PSt.ext (Z := Z) (W := W) (N := N) (r := Option.some (.rt d m')) e3 q2
      | some (.ex c xs Γ' m'), q2 => exact PSt.ext (Z := Z) (W := W) (N := N) (r := Option.some (.ex c xs Γ' m')) e3 q2
    | some (.ok false m3), q2 =>
      intro bb ρ3 H3 e3 r3 hb'
      subst hb'
      rw [if_neg Bool.false_ne_true]
      exact q2 σ2 ρ3 H3 e3 r3 (s2.ext e3)
    | some (.ex e v m3), q2 => exact fun cls dd ρ3 H3 e3 r3 hx => q2 cls dd σ2 ρ3 H3 e3 r3 (s2.ext e3) hx
theorem snds_whl {c : Ex} {b : Sm} (hb : SndS Z T C n b) : SndS Z T C n (.whl c b) := by
  refine .one (fun X W st cx hf hk tk hp h => ?_) (fun _ _ _ sts => by cases sts <;> simp [chSs])
  unfold chS at h
  split at h <;> first | contradiction | skip
  rename_i heq
  cases heq
  simp only [Bool.and_eq_true] at h
  obtain ⟨hcm, h1, h2⟩ := h
  exact whl_core cx tk (hp hcm) h1 (hb.ss X W _ cx hf hk tk hp h2)
end
/-- every statement without a try, without a raise -/
theorem snds {Z : Sta} {T : Tb} {C : Nat → List D → M → O D} {n : Nat} : ∀ sm : Sm, SndS Z T C n sm
  | .skip => snds_skip
  | .seq a b => snds_seq (snds a) (snds b)
  | .asg _ _ => snds_asg
  | .par _ _ => snds_par
  | .sub _ _ _ => snds_sub
  | .aug _ _ => snds_aug
  | .exp _ => snds_exp
  | .ret _ => snds_ret
  | .retN => snds_retN
  | .ife _ a b => snds_ife (snds a) (snds b)
  | .whl _ b => snds_whl (snds b)
  | .for _ _ b => snds_for (snds b)
  | .cont => snds_cont
  | .att _ _ _ => .one (fun X W st c hf hk tk hp h => by cases st <;> simp [chS] at h) (fun _ _ _ sts => by cases sts <;> simp [chSs])
  | .rse _ _ => .one (fun X W st c hf hk tk hp h => by cases st <;> simp [chS] at h) (fun _ _ _ sts => by cases sts <;> simp [chSs])
  | .tri _ _ _ _ _ => .one (fun X W st c hf hk tk hp h => by cases st <;> simp [chS] at h) (fun _ _ _ sts => by cases sts <;> simp [chSs])
end Mi

end
section
set_option Elab.async false
set_option linter.all false
set_option maxRecDepth 100000
set_option maxHeartbeats 4000000
/-! Mi14: exceptions: a try whose caught exception is kept as a value, raise -/
namespace Mi
open PySem PySem.Spec PyProof.Rows L2 TL

/-! ### the caught exception, tracked -/
theorem exo_good {P : Program} {w : World} {H : Hp} {h : Heap} {a : Addr} {cls : Value} {d : Option Addr} {oe : Obj} {vs : Array Value} (e : h.get? a = some oe) (z : Zc cls d oe) (hd : oe.data = .fields vs) : ObjOk P w H h a (EXO a cls d) :=
  ⟨⟨oe, vs, e, z, hd⟩, ⟨oe, e⟩, fun h1 h2 ⟨o, v, q1, q2, q3⟩ k => ⟨o, v, k o q1, q2, q3⟩⟩
theorem track {X : Cx} {pins : List (Addr × Obj)} {σ : L2.St} {H : Hp} {sI s : Shared} {a : Addr} {cls : Value} {d : Option Addr} {oe : Obj} {vs : Array Value} (hex : X.ex = []) (J : Inv X pins σ H sI) (I : Inv X pins σ H s) (new : sI.heap.get? a = none) (na : H a = none) (nL : a ≠ X.env.locals)
    (e : s.heap.get? a = some oe) (z : Zc cls d oe) (hd : oe.data = .fields vs) : Inv X pins σ (L2.upd H a (EXO a cls d)) s := by
  have ne : ∀ {b : Addr} {o : Obj}, sI.heap.get? b = some o → b ≠ a := fun {b o} q z => by rw [z, new] at q; cases q
  have n0 : ∀ {b : Addr} {o : Obj}, X.s_0.heap.get? b = some o → b ≠ a := fun {b o} q => by
    obtain ⟨o', q'⟩ := J.base.there b o q (by rw [hex]; simp)
    exact ne q'
  have k : ∀ {b : Addr} {u : HO}, H b = some u → L2.upd H a (EXO a cls d) b = some u := fun {b u} q => by rw [upd_ne (ne_of_none q na)]; exact q
  refine ⟨I.ok, I.os, I.bare, ⟨I.base.keep, I.base.slot, fun b o q n hx => ?_, I.base.there, fun b xs q => k (I.base.tups b xs q), fun b o u q => k (I.base.frzs b o u q), fun b ps q => ?_⟩, I.loc, I.cell, ?_, fun x c q => ?_, fun p hp => ?_, fun b ob q => ?_, I.len⟩
  · rw [upd_ne (n0 q)]; exact I.base.free b o q n hx
  · obtain ⟨more, q'⟩ := I.base.tbls b ps q
    exact ⟨more, k q'⟩
  · rw [upd_ne (Ne.symm nL)]; exact I.free
  · obtain ⟨v, o, ho, _⟩ := J.cell x c q
    rw [upd_ne (ne ho)]; exact I.freeC x c q
  · obtain ⟨q1, q2, q3⟩ := I.pin p hp
    exact ⟨q1, by rw [upd_ne (ne (J.pin p hp).1)]; exact q2, q3⟩
  · by_cases hb : b = a
    · subst hb
      rw [upd_same] at q
      cases q
      exact exo_good e z hd
    · rw [upd_ne hb] at q
      exact (I.hok b ob q).stay (fun c v hc y => y) (fun c hc => k hc) fun c xs hc => k hc

/-! ### try -/
/-- a clause: its class, its name's slot, its suite -/
structure Cl where
  c : Value
  nm : Option Nat
  ts : TS
def goneE (N : Ends) : Option Nat → Ends
  | none => N
  | some i => { nx := fun σ' H' => N.nx (σ'.set i none) H', rt := N.rt, bk := fun σ' H' => N.bk (σ'.set i none) H', ct := fun σ' H' => N.ct (σ'.set i none) H' }
def comeE (σ : L2.St) (a : Addr) : Option Nat → L2.St
  | none => σ
  | some i => σ.set i (some (.ref a))
/-- what the clauses wish, one after the other -/
def wM (K : PySem.W.Frag) (Wout : WX) (N : Ends) : List Cl → WX
  | [] => Wout
  | p :: r => fun cls d σ H => ∃ b, PySem.W.exmOne K cls p.c = some b ∧ (b = true → ∀ a, H a = none → p.ts (goneE N p.nm) (comeE σ a p.nm) (L2.upd H a (EXO a cls d))) ∧ (b = false → wM K Wout N r cls d σ H)
/-- one clause of the text -/
inductive OneM (X : Cx) : ExceptHandler → Cl → Prop
  | mk {x : Str} {nm : Option Str} {np pos : Pos} {b₀ : Stmt} {suite : List Stmt} {p : Cl} (hc : Names X x p.c)
      (hn : (nm = none ∧ p.nm = none) ∨ ∃ y i, nm = some y ∧ p.nm = some i ∧ X.N[i]? = some y ∧ X.env.kindOf y = some .local)
      (hsu : ∀ (a : Addr) (pn : List (Addr × Obj)), PSs (X.suite a pn) (b₀ :: suite) p.ts) : OneM X (.ExceptHandler (some (.Name x np)) nm (b₀ :: suite) pos) p
inductive HdM (X : Cx) : List ExceptHandler → List Cl → Prop
  | nil : HdM X [] []
  | cons {h : ExceptHandler} {p : Cl} {hs : List ExceptHandler} {l : List Cl} (h1 : OneM X h p) (r : HdM X hs l) : HdM X (h :: hs) (p :: l)
theorem Inv.inSuite {X : Cx} {pins : List (Addr × Obj)} {σ : L2.St} {H : Hp} {s : Shared} (I : Inv X pins σ H s) (a : Addr) : Inv (X.suite a (X.pn ++ pins)) [] σ H s :=
  ⟨I.ok.suite _ _, I.os, I.bare, I.base, I.loc, I.cell, I.free, I.freeC, fun p hp => by rw [List.append_nil] at hp; exact I.pin p hp, I.hok, I.len⟩
theorem Inv.ofSuite {X : Cx} {pins pn' : List (Addr × Obj)} {σ : L2.St} {H : Hp} {s : Shared} {a : Addr} (I : Inv (X.suite a (X.pn ++ pins)) pn' σ H s) (ok : X.Ok) : Inv X pins σ H s :=
  ⟨ok, I.os, I.bare, I.base, I.loc, I.cell, I.free, I.freeC, fun p hp => I.pin p (List.mem_append_left _ hp), I.hok, I.len⟩
theorem ps_tryM {X : Cx} {body : List Stmt} {h₀ : ExceptHandler} {hds : List ExceptHandler} {l : List Cl} {pos : Pos} {tb : WX → TS} {Wout : WX} (hex : X.ex = []) (hs : X.stack = X.env :: X.outer) (hf : X.env.frame = some X.env.locals) (hN : X.N.Nodup) (tk : Takes X Wout)
    (hb : ∀ (W : WX) (pn : List (Addr × Obj)) (xe : Value → Shared → Prop), Takes (X.tr pn xe) W → PassesOwn (model X.prog X.w) X.A X.env xe → PSs (X.tr pn xe) body (tb W))
    (hh : HdM X (h₀ :: hds) l) : PS X (.Try body (h₀ :: hds) [] [] pos) (fun N σ H => tb (wM X.K Wout N l) N σ H) := by
  refine ⟨fun pins s σ H N I h => ?_⟩
  have ok := I.ok
  have hfr : X.A.frames = some (X.env :: X.outer) := by rw [ok.frames, hs]
  refine wpAny_Try_except ?_
  let after : Value → Shared → Prop := fun e s₁ => wpAny (model X.prog X.w) X.A (noteFrame e X.env) (fun _ s₂ => wpAny (model X.prog X.w) X.A (setFlight e none) (fun _ s₃ => wpAny (model X.prog X.w) X.A (handleBy e X.env (h₀ :: hds)) (SP X pins N) X.xe s₃) X.xe s₂) X.xe s₁
  have caught : Takes (X.tr (X.pn ++ pins) after) (wM X.K Wout N l) := by
    rintro u s' ⟨a, B, sI, pins', σ', H', cls, d, rfl, J', nb, up, sky, na, os, ag, w⟩
    have J : Inv X pins σ' H' sI := Inv.ofTry J' ok
    have sky' : Sky B (X.env :: X.outer) a (Zc cls d) X.env.locals s'.heap := by rw [← hs]; exact sky
    refine Sky.land Zc.steady hfr hf sky' fun h3 fl3 up3 => ?_
    have J3 : Inv X pins σ' H' { s' with heap := h3 } := Inv.landed J nb fl3.1 (Heap.UpToSlots.trans up up3) os ag
    obtain ⟨oe3, vs3, he3, hz3, hd3⟩ := fl3.there
    have nfr : a ∉ frs (X.env :: X.outer) := fun hm => by
      obtain ⟨_, o', e', hnf⟩ := Heap.FunFrames.mem fl3.2.2.1 hm
      rw [he3] at e'
      cases e'
      exact hnf _ hd3
    have nL : a ≠ X.env.locals := fun z => nfr (List.mem_filterMap.mpr ⟨X.env, List.mem_cons_self, by rw [hf, z]⟩)
    have nF : a ∉ X.fs := fun hm => by
      obtain ⟨e, he, q⟩ := List.mem_filterMap.mp hm
      exact nfr (List.mem_filterMap.mpr ⟨e, List.mem_cons_of_mem _ he, q⟩)
    have new : sI.heap.get? a = none := by
      cases q : sI.heap.get? a with
      | none => rfl
      | some o =>
        have q1 := nb a o q (by show a ∉ frs X.stack; rw [hs]; exact nfr)
        rw [fl3.2.1] at q1
        cases q1
    have S3 := Inv.suite J3 he3 hd3 na nL nF
    have go : ∀ {hs' : List ExceptHandler} {l' : List Cl}, HdM X hs' l' → wM X.K Wout N l' cls d σ' H' → wpAny (model X.prog X.w) X.A (handleBy (.ref a) X.env hs') (SP X pins N) X.xe { s' with heap := h3 } := by
      intro hs' l' hk
      induction hk with
      | nil =>
        intro w
        refine wpAny_handleBy_nil ?_
        obtain ⟨k1, k2, k3, oe, vs, T, oT, ts', he, hz, hd, h1, hr⟩ := id fl3
        unfold PySem.passOn
        refine wpAny_bind (wpAny_field he hd h1 ?_)
        rw [if_neg (show ¬ ((Value.ref T == Value.none) = true) from by simp)]
        have fin : wpAny (model X.prog X.w) X.A (setFlight (.ref a) X.env.frame) (fun _ s4 => wpAny (model X.prog X.w) X.A (throw (.ref a) : Sem Flow) (SP X pins N) X.xe s4) X.xe { s' with heap := h3 } := by
          rw [hf]
          exact HandSPX.setFlight_upZ fl3 fun h4 hh4 up4 => wpAny_throw (tk _ _ ⟨a, B, sI, pins, σ', H', cls, d, rfl, J, nb, (up.trans up3).trans up4, .inr (.inr (by rw [hs]; exact hh4)), na, os, ag, w⟩)
        first | exact wpAny_bind (wpAny_pure (wpAny_bind fin)) | exact wpAny_bind fin
      | cons o1 r ih =>
        rename_i hd0 p hs2 l2
        intro w
        obtain ⟨b, hb1, hyes, hno⟩ := w
        cases o1 with
        | mk hc hn hsu =>
          rename_i x nm np pos' b₀ suite
          have LT : PySem.W.Looks (model X.prog X.w) h3 (typeOf (.ref a)) cls := fun A Q E s k q => wpAny_typeOf_ref (k _ _ he3) (by rw [hz3.1]; exact q)
          have LM := PySem.W.exm_one (M := model X.prog X.w) J3.kIn LT hb1
          have test : ∀ {Q : Value → Shared → Prop} {E : Value → Shared → Prop}, Q p.c { s' with heap := h3 } → wpAny (model X.prog X.w) (X.A.mark (some (.ref a))) (eval (.Name x np) X.env) Q E { s' with heap := h3 } := fun {Q E} q => by
            obtain ⟨hg, hdbg, hm | ⟨hm, hv, hnn⟩⟩ := hc
            · exact ld_glob (X := X.suite a ((a, oe3) :: (X.pn ++ pins))) S3 hg hm q hdbg
            · exact ld_blt (X := X.suite a ((a, oe3) :: (X.pn ++ pins))) S3 hg hm hv q hnn hdbg
          rcases hn with ⟨rfl, hpn⟩ | ⟨y, i, rfl, hpn, hi, hln⟩
          · -- no name
            refine wpAny_handleBy_cons (codeAny_handlers_test ?_) (by intro q; cases q)
            refine test (LM.here ?_)
            cases b with
            | false => exact ih (hno rfl)
            | true =>
              refine codeAny_handlers_suite ?_
              refine HandSPX.lands_againZ fl3 fun h4 fl4 up4 => ?_
              obtain ⟨oe4, vs4, he4, hz4, hd4⟩ := fl4.there
              have J4 := track (s := { s' with heap := h4 }) hex J (Inv.landed (s' := { s' with heap := h4 }) J nb fl4.1 ((up.trans up3).trans up4) os ag) new na nL he4 hz4 hd4
              have w1 := hyes rfl a na
              rw [hpn] at w1
              refine wpAny_mono ((hsu a (X.pn ++ pins)).run [] _ _ _ _ (Inv.inSuite J4 a) w1) (fun f s6 hsp => ?_) fun _ _ z => z.elim
              cases f with
              | next => obtain ⟨σ6, H6, S6, q6⟩ := hsp; exact ⟨_, _, Inv.ofSuite S6 ok, q6⟩
              | brk => obtain ⟨σ6, H6, S6, q6⟩ := hsp; exact ⟨_, _, Inv.ofSuite S6 ok, q6⟩
              | cont => obtain ⟨σ6, H6, S6, q6⟩ := hsp; exact ⟨_, _, Inv.ofSuite S6 ok, q6⟩
              | ret u => obtain ⟨v6, σ6, H6, S6, r6, q6⟩ := hsp; exact ⟨_, _, _, Inv.ofSuite S6 ok, r6, q6⟩
          · -- a name
            refine wpAny_handleBy_cons (codeAny_handlers_test ?_) (by intro q; cases q)
            refine test (LM.here ?_)
            cases b with
            | false => exact ih (hno rfl)
            | true =>
              refine codeAny_handlers_suite_as ?_
              refine HandSPX.lands_againZ fl3 fun h4 fl4 up4 => ?_
              obtain ⟨oe4, vs4, he4, hz4, hd4⟩ := fl4.there
              have J4 := track (s := { s' with heap := h4 }) hex J (Inv.landed (s' := { s' with heap := h4 }) J nb fl4.1 ((up.trans up3).trans up4) os ag) new na nL he4 hz4 hd4
              refine store_ok (X := X.suite a (X.pn ++ pins)) (v := .ref a) (Inv.inSuite J4 a) hN hi (.inl hln) rfl (fun s5 S5 => ?_) (.inr hln)
              have w1 := hyes rfl a na
              rw [hpn] at w1
              refine wpAny_mono ((hsu a (X.pn ++ pins)).run [] s5 _ _ _ S5 w1) (fun f s6 hsp => ?_) fun _ _ z => z.elim
              have gone : ∀ {σ6 : L2.St} {H6 : Hp} {Q : Shared → Prop}, Inv (X.suite a (X.pn ++ pins)) [] σ6 H6 s6 → (∀ s7, Inv X pins (σ6.set i none) H6 s7 → Q s7) → wpAny (model X.prog X.w) X.A (do bindName X.env y .none; unbindBehindTheSuite X.env y pos') (fun _ s7 => Q s7) X.xe s6 :=
                fun {σ6 H6 Q} S6 hq => gone_ok (Inv.ofSuite S6 ok) hN hi hln hq
              cases f with
              | next => obtain ⟨σ6, H6, S6, q6⟩ := hsp; exact gone S6 fun s7 J7 => ⟨_, _, J7, q6⟩
              | brk => obtain ⟨σ6, H6, S6, q6⟩ := hsp; exact gone S6 fun s7 J7 => ⟨_, _, J7, q6⟩
              | cont => obtain ⟨σ6, H6, S6, q6⟩ := hsp; exact gone S6 fun s7 J7 => ⟨_, _, J7, q6⟩
              | ret u => obtain ⟨v6, σ6, H6, S6, r6, q6⟩ := hsp; exact gone S6 fun s7 J7 => ⟨_, _, _, J7, r6, q6⟩
    exact go hh w
  refine wpAny_mono ((hb (wM X.K Wout N l) (X.pn ++ pins) after caught PassesOwn.looking).run [] s σ H N (I.toTry _) h) (fun f s1 hsp => ?_) fun e s1 he => he
  cases f with
  | next => obtain ⟨σ', H', J', q⟩ := hsp; exact wpAny_execs_nil ⟨σ', H', Inv.ofTry J' ok, q⟩
  | brk => obtain ⟨σ', H', J', q⟩ := hsp; exact ⟨σ', H', Inv.ofTry J' ok, q⟩
  | cont => obtain ⟨σ', H', J', q⟩ := hsp; exact ⟨σ', H', Inv.ofTry J' ok, q⟩
  | ret u => obtain ⟨v, σ', H', J', r, q⟩ := hsp; exact ⟨v, σ', H', Inv.ofTry J' ok, r, q⟩

/-! ### checks of the statements that may hold a try or a raise -/
section
variable (Z : Stc) (N : List Str) (sc : Scope)
def csB (cs : List Nat) (x : Str) : Bool := (match cs with | [k] => (match Z.xad k with | some a => mgB Z x (.ref a) | none => false) | _ => false) && (glB sc x && nmB x)
def nmC : Option Nat → Option Str → Bool
  | none, none => true
  | some i, some y => decide (N[i]? = some y) && locB sc y
  | _, _ => false
def hdB (cs : List Nat) (n : Option Nat) : ExceptHandler → Bool
  | .ExceptHandler (some (.Name x _)) nm (_ :: _) _ => csB Z sc cs x && nmC N sc n nm
  | _ => false
def hdSu : ExceptHandler → List Stmt
  | .ExceptHandler _ _ su _ => su
mutual
def chT : Sm → Stmt → Bool
  | .tri b cs n s more, .Try body (h :: hs) [] [] _ => chTs b body && (hdB Z N sc cs n h && (chSs Z false N sc s (hdSu h) && chH more hs))
  | .rse c es, .Raise (some (.Call (.Name x _) (a :: as) [] _)) none _ => (match Z.xad c with | some a => mgB Z x (.ref a) && PySem.W.keepIn Z.K (.ref a) | none => false) && (glB sc x && (nmB x && chA Z true N sc es (a :: as)))
  | .ife c a b, .If t x y _ => chC Z true N sc c t && (chTs a x && chTs b y)
  | .whl c b, .While t x [] _ => chC Z true N sc c t && chTs b x
  | .for t it b, .For tg iter x [] _ => tgB N sc t tg && (chI Z true N sc it tg iter && (notSet iter && chTs b x))
  | sm, st => chS Z true N sc sm st
def chH : Sm → List ExceptHandler → Bool
  | .skip, [] => true
  | .tri _ cs n s more, h :: hs => hdB Z N sc cs n h && (chSs Z false N sc s (hdSu h) && chH more hs)
  | _, _ => false
def chTs : Sm → List Stmt → Bool
  | .skip, [] => true
  | .seq a b, s :: r => chT a s && chTs b r
  | _, _ => false
end
end

/-! ### a class's __init__ that stores its one argument -/
def spI (C : Addr) (f : Str) : Sp := fun vs H Q _ => ∃ a y, vs = [.ref a, y] ∧ H a = some (exo a C none) ∧ ∀ d, H d = none → d ≠ a → Q .non (L2.upd (L2.upd H d (exd d [(f, y)])) a (exo a C (some d)))
/-- the context of a def's body, for exceptions -/
structure CxtT (Z : Sta) (T : Tb) (C : Nat → List D → M → O D) (n : Nat) (X : Cx) : Prop extends Cxt Z T C n true X where
  sub : ∀ c k A B, Z.xad c = some A → Z.xad k = some B → PySem.W.exmOne Z.K (.ref A) (.ref B) = some (T.sub c k)
  rai : ∀ c A, Z.xad c = some A → PySem.W.subIn Z.K (.ref A) (.type "BaseException") = some true ∧ PySem.W.typeIn Z.K (.ref A) = some (.type "type")
  own : ∀ c A, Z.xad c = some A → T.fld c = false → ∃ bmB B newId initId, ExcBaseFacts B newId initId bmB ∧ PySem.W.excIn Z.K A bmB newId = true
  ini : ∀ c A, Z.xad c = some A → T.fld c = true → OexC Z.K A ∧ ∃ fI fd ps, PySem.W.findIn Z.K (.ref A) "__init__" = some (some (.ref fI)) ∧ PySem.W.typeIn Z.K (.ref fI) = some (.type "function") ∧ Binds Z.K fd ps [] ∧ FnOk X.prog X.w X.K X.mg X.base (L2.CX X.prog X.w) 1 fI fd ps (spI A Z.xfn)
  ex : X.ex = []
  stk : X.stack = X.env :: X.outer
  frm : X.env.frame = some X.env.locals
  fn : ∀ x, X.fn x = true
  knd : X.env.scope.kind = .function
theorem CxtT.trT {Z : Sta} {T : Tb} {C : Nat → List D → M → O D} {n : Nat} {X : Cx} (c : CxtT Z T C n X) (pn : List (Addr × Obj)) (xe : Value → Shared → Prop) : CxtT Z T C n (X.tr pn xe) :=
  ⟨c.toCxt.tr pn xe, c.sub, c.rai, c.own, c.ini, c.ex, c.stk, c.frm, c.fn, c.knd⟩
theorem suite_ok {Z : Sta} {C : Nat → List D → M → O D} {n : Nat} {cm : Bool} {X : Cx} (c : Cxt Z T C n cm X) (a : Addr) (pn : List (Addr × Obj)) : Cxt Z T C n false (X.suite a pn) :=
  ⟨c.K, c.nd, (fun z => nomatch z), (fun z => nomatch z), c.units, c.mgs, c.mgn, c.isf, c.xc, c.fns⟩
section
variable {Z : Sta} {T : Tb} {C : Nat → List D → M → O D} {n : Nat}
structure SndT (Z : Sta) (T : Tb) (C : Nat → List D → M → O D) (n : Nat) (sm : Sm) : Prop where
  s : ∀ (X : Cx) (W : WX) (st : Stmt), CxtT Z T C n X → Takes X W → PassesOwn (model X.prog X.w) X.A X.env X.xe → chT Z.toStc X.N X.env.scope sm st = true → PS X st (iS Z W (exS T C sm))
  ss : ∀ (X : Cx) (W : WX) (sts : List Stmt), CxtT Z T C n X → Takes X W → PassesOwn (model X.prog X.w) X.A X.env X.xe → chTs Z.toStc X.N X.env.scope sm sts = true → PSs X sts (iS Z W (exS T C sm))
  h : ∀ (X : Cx) (hs : List ExceptHandler), CxtT Z T C n X → chH Z.toStc X.N X.env.scope sm hs = true → ∃ l, HdM X hs l ∧
    ∀ (Wout : WX) (N : Ends) (c : Nat) (v : List D) (Γ : Env) (m : M) (cls : Value) (dd : Option Addr) (σ : L2.St) (ρ : List Addr) (H : Hp), Rel Z ρ H m → RS Z ρ H Γ σ → RX Z ρ H c v cls dd → PSt Z Wout N ρ H (hdS T C sm c v Γ m) → wM X.K Wout N l cls dd σ H
/-- a statement that is checked by chS alone -/
theorem SndT.ofS {sm : Sm} (hs : ∀ st N sc Z, chT Z N sc sm st = true → chS Z true N sc sm st = true) (hss : ∀ sts N sc Z, chTs Z N sc sm sts = false) (hh : ∀ l N sc Z, chH Z N sc sm l = false) : SndT Z T C n sm where
  s := fun X W st c tk hp h => (snds sm).s X W st c.toCxt c.fn c.knd tk (fun _ => hp) (hs _ _ _ _ h)
  ss := fun X W sts c tk hp h => by rw [hss] at h; cases h
  h := fun X l c h => by rw [hh] at h; cases h
/-- one clause -/
theorem clause {cs : List Nat} {n' : Option Nat} {s : Sm} {X : Cx} {h : ExceptHandler} (c : CxtT Z T C n X) (h1 : hdB Z.toStc X.N X.env.scope cs n' h = true) (h2 : chSs Z.toStc false X.N X.env.scope s (hdSu h) = true) :
    ∃ p k A, cs = [k] ∧ Z.xad k = some A ∧ p = ⟨.ref A, n', iS Z noW (exS T C s)⟩ ∧ OneM X h p := by
  unfold hdB at h1
  split at h1 <;> first | contradiction | skip
  rename_i x np nm b₀ suite pos
  rw [Bool.and_eq_true] at h1
  obtain ⟨g1, g2⟩ := h1
  unfold csB at g1
  simp only [Bool.and_eq_true] at g1
  obtain ⟨g0, g3, g4⟩ := g1
  split at g0 <;> first | contradiction | skip
  rename_i k
  split at g0 <;> first | contradiction | skip
  rename_i A hA
  obtain ⟨n1, _, _⟩ := nmB_ok g4
  refine ⟨_, k, A, rfl, hA, rfl, .mk ⟨glB_ok g3, n1, .inl (c.mgs _ _ (mgB_ok g0))⟩ ?_ fun a pn => ?_⟩
  · unfold nmC at g2
    split at g2 <;> first | contradiction | skip
    · exact .inl ⟨rfl, rfl⟩
    · rename_i i y
      rw [Bool.and_eq_true, decide_eq_true_eq] at g2
      exact .inr ⟨y, i, rfl, rfl, g2.1, locB_ok g2.2⟩
  · exact (snds s).ss (X.suite a pn) noW _ (suite_ok c.toCxt a pn) c.fn c.knd takes_false (fun z => nomatch z) h2
theorem clause_rd {cs : List Nat} {k : Nat} {A : Addr} {n' : Option Nat} {s : Sm} {X : Cx} (c : CxtT Z T C n X) (hk : cs = [k]) (hA : Z.xad k = some A) {l : List Cl} {Wout : WX} {N : Ends} {cx : Nat} {v : List D} {Γ : Env} {m : M} {cls : Value} {dd : Option Addr} {σ : L2.St} {ρ : List Addr} {H : Hp} (r : Rel Z ρ H m) (rs : RS Z ρ H Γ σ) (hx : RX Z ρ H cx v cls dd) {more : Option SR}
    (q : PSt Z Wout N ρ H (if cs.any (T.sub cx) then suiR n' cx v (exS T C s) Γ m else more)) (hm : PSt Z Wout N ρ H more → wM X.K Wout N l cls dd σ H) : wM X.K Wout N (⟨.ref A, n', iS Z noW (exS T C s)⟩ :: l) cls dd σ H := by
  subst hk
  obtain ⟨B, vs, x1, x2, x3, x4⟩ := hx
  subst x2
  refine ⟨T.sub cx k, by rw [c.K]; exact c.sub _ _ _ _ x1 hA, fun ht a na => ?_, fun hf => ?_⟩
  · have hany : ([k].any (T.sub cx)) = true := by simp [ht]
    rw [if_pos hany] at q
    have e0 : Ext ρ H ρ (L2.upd H a (EXO a (.ref B) dd)) := Ext.new na
    have rv : RV Z ρ (L2.upd H a (EXO a (.ref B) dd)) (.exc cx v) (.ref a) := by
      unfold RV
      exact ⟨a, B, dd, vs, rfl, upd_same, r.notin na, x1, x3.ext e0, x4.ext e0⟩
    cases n' with
    | none =>
      refine ⟨ρ, Γ, m, r.new na, rs.ext e0, ?_⟩
      have q' : PSt Z Wout N ρ H (match exS T C s Γ m with | some (.ex _ _ _ _) => none | o => o) := q
      match exS T C s Γ m, q' with
      | some (.nx Γ' m'), q' => exact PSt.ext (Z := Z) (W := noW) (N := N) (r := some (.nx Γ' m')) e0 q'
      | some (.ct Γ' m'), q' => exact PSt.ext (Z := Z) (W := noW) (N := N) (r := some (.ct Γ' m')) e0 q'
      | some (.rt d m'), q' => exact PSt.ext (Z := Z) (W := noW) (N := N) (r := some (.rt d m')) e0 q'
    | some i =>
      refine ⟨ρ, Γ.set i (some (.exc cx v)), m, r.new na, (rs.ext e0).set i rv, ?_⟩
      have q' : PSt Z Wout N ρ H (match exS T C s (Γ.set i (some (.exc cx v))) m with
        | some (.nx Γ' m') => some (.nx (Γ'.set i none) m')
        | some (.ct Γ' m') => some (.ct (Γ'.set i none) m')
        | some (.rt d m') => some (.rt d m')
        | _ => none) := q
      match exS T C s (Γ.set i (some (.exc cx v))) m, q' with
      | some (.nx Γ' m'), q' => exact fun σ' ρ' H' e r s => q' _ ρ' H' (e0.trans e) r (s.unset i)
      | some (.ct Γ' m'), q' => exact fun σ' ρ' H' e r s => q' _ ρ' H' (e0.trans e) r (s.unset i)
      | some (.rt d m'), q' => exact fun v' ρ' H' e r s => q' v' ρ' H' (e0.trans e) r s
  · have hany : ([k].any (T.sub cx)) = false := by simp [hf]
    rw [if_neg (by rw [hany]; exact Bool.false_ne_true)] at q
    exact hm q
theorem sndt_tri {b s more : Sm} {cs : List Nat} {n' : Option Nat} (hb : SndT Z T C n b) (hm : SndT Z T C n more) : SndT Z T C n (.tri b cs n' s more) where
  ss := fun X W sts c tk hp h => by cases sts <;> simp [chTs] at h
  s := fun X W st c tk hp h => by
    unfold chT at h
    split at h <;> first | contradiction | skip
    · rename_i body h0 hs pos heq
      cases heq
      simp only [Bool.and_eq_true] at h
      obtain ⟨g1, g2, g3, g4⟩ := h
      obtain ⟨p, k, A, e1, e2, e3, o1⟩ := clause c g2 g3
      obtain ⟨l, hl, rd⟩ := hm.h X hs c g4
      refine (ps_tryM (tb := fun W => iS Z W (exS T C b)) c.ex c.stk c.frm c.nd tk (fun W' pn xe tk' hp' => hb.ss (X.tr pn xe) W' body (c.trT pn xe) tk' hp' g1) (.cons o1 hl)).imp fun N σ H ⟨ρ, Γ, m, hr, hss, q⟩ => ?_
      refine ⟨ρ, Γ, m, hr, hss, ?_⟩
      unfold exS at q
      match exS T C b Γ m, q with
      | some (.nx Γ' m'), q => exact q
      | some (.ct Γ' m'), q => exact q
      | some (.rt d m'), q => exact q
      | some (.ex cx v Γ' m'), q =>
        intro cls dd σ' ρ' H' e r rs hx
        subst e3
        exact clause_rd c e1 e2 r rs hx (PSt.ext e q) fun q' => rd W N cx v Γ' m' cls dd σ' ρ' H' r rs hx q'
  h := fun X hs c h => by
    cases hs with
    | nil => simp [chH] at h
    | cons h0 hs =>
      simp only [chH, Bool.and_eq_true] at h
      obtain ⟨g2, g3, g4⟩ := h
      obtain ⟨p, k, A, e1, e2, e3, o1⟩ := clause c g2 g3
      obtain ⟨l, hl, rd⟩ := hm.h X hs c g4
      refine ⟨_, .cons o1 hl, fun Wout N cx v Γ m cls dd σ ρ H r rs hx q => ?_⟩
      subst e3
      unfold hdS at q
      exact clause_rd c e1 e2 r rs hx q fun q' => rd Wout N cx v Γ m cls dd σ ρ H r rs hx q'
theorem sndt_skip : SndT Z T C n .skip where
  s := fun X W st c tk hp h => (snds .skip).s X W st c.toCxt c.fn c.knd tk (fun _ => hp) (by unfold chT at h; exact h)
  ss := fun X W sts c tk hp h => by
    cases sts <;> first | (simp [chTs] at h; done) | skip
    exact (snds_skip (Z := Z) (T := T) (C := C) (n := n)).ss X W [] c.toCxt c.fn c.knd tk (fun _ => hp) rfl
  h := fun X hs c h => by
    cases hs <;> first | (simp [chH] at h; done) | skip
    exact ⟨[], .nil, fun Wout N cx v Γ m cls dd σ ρ H r rs hx q => q cls dd σ ρ H Ext.refl r rs hx⟩
theorem sndt_seq {a b : Sm} (ha : SndT Z T C n a) (hb : SndT Z T C n b) : SndT Z T C n (.seq a b) where
  s := fun X W st c tk hp h => by unfold chT at h; cases st <;> simp [chS] at h
  h := fun X hs c h => by cases hs <;> simp [chH] at h
  ss := fun X W sts c tk hp h => by
    cases sts <;> first | (simp [chTs] at h; done) | skip
    rename_i s r
    simp only [chTs, Bool.and_eq_true] at h
    exact seq_core (ha.s X W s c tk hp h.1) (hb.ss X W r c tk hp h.2)
theorem sndt_ife {t : Ex} {a b : Sm} (ha : SndT Z T C n a) (hb : SndT Z T C n b) : SndT Z T C n (.ife t a b) where
  ss := fun X W sts c tk hp h => by cases sts <;> simp [chTs] at h
  h := fun X hs c h => by cases hs <;> simp [chH] at h
  s := fun X W st c tk hp h => by
    unfold chT at h
    split at h <;> first | contradiction | skip
    · rename_i heq
      cases heq
      simp only [Bool.and_eq_true] at h
      exact ife_core c.toCxt tk h.1 (ha.ss X W _ c tk hp h.2.1) (hb.ss X W _ c tk hp h.2.2)
    · exact (snds _).s X W _ c.toCxt c.fn c.knd tk (fun _ => hp) h
theorem sndt_whl {t : Ex} {b : Sm} (hb : SndT Z T C n b) : SndT Z T C n (.whl t b) where
  ss := fun X W sts c tk hp h => by cases sts <;> simp [chTs] at h
  h := fun X hs c h => by cases hs <;> simp [chH] at h
  s := fun X W st c tk hp h => by
    unfold chT at h
    split at h <;> first | contradiction | skip
    · rename_i heq
      cases heq
      simp only [Bool.and_eq_true] at h
      exact whl_core c.toCxt tk hp h.1 (hb.ss X W _ c tk hp h.2)
    · exact (snds _).s X W _ c.toCxt c.fn c.knd tk (fun _ => hp) h
theorem sndt_for {t : Tg} {it : Ex} {b : Sm} (hb : SndT Z T C n b) : SndT Z T C n (.for t it b) where
  ss := fun X W sts c tk hp h => by cases sts <;> simp [chTs] at h
  h := fun X hs c h => by cases hs <;> simp [chH] at h
  s := fun X W st c tk hp h => by
    unfold chT at h
    split at h <;> first | contradiction | skip
    · rename_i heq
      cases heq
      simp only [Bool.and_eq_true] at h
      obtain ⟨h1, h2, h3, h4⟩ := h
      exact for_core c.toCxt c.fn tk hp rfl h1 h2 h3 (hb.ss X W _ c tk hp h4)
    · exact (snds _).s X W _ c.toCxt c.fn c.knd tk (fun _ => hp) h
theorem sndt_rse {k : Nat} {es : Ex} : SndT Z T C n (.rse k es) where
  ss := fun X W sts c tk hp h => by cases sts <;> simp [chTs] at h
  h := fun X hs c h => by cases hs <;> simp [chH] at h
  s := fun X W st c tk hp h => by
    unfold chT at h
    split at h <;> first | contradiction | skip
    · rename_i x np a as pos rpos heq
      cases heq
      simp only [Bool.and_eq_true] at h
      obtain ⟨h1, h2, h3, h4⟩ := h
      split at h1 <;> first | contradiction | skip
      rename_i A hA
      rw [Bool.and_eq_true] at h1
      obtain ⟨n1, _, _⟩ := nmB_ok h3
      have hm := c.mgs _ _ (mgB_ok h1.1)
      have hk : PySem.W.keepIn X.K (.ref A) = true := by rw [c.K]; exact h1.2
      have hP := (snd (T := T) es Z).a X _ W c.toCxt h4 tk
      have hstar := chA_star h4
      rw [List.all_cons, Bool.and_eq_true] at hstar
      obtain ⟨ra1, ra2⟩ := c.rai k A hA
      have hR : Raises X (.ref A) := raises_own (by rw [c.K]; exact ra1) (by rw [c.K]; exact ra2)
      cases hf : T.fld k with
      | false =>
        obtain ⟨bmB, B, i1, i2, F, g1⟩ := c.own k A hA hf
        refine (ps_raise (c.calm rfl) tk (pmk_ownA F (by rw [c.K]; exact g1) hm hk hR (glB_ok h2) hP n1 (star_cons hstar.1) (star_any hstar.2))).imp fun N σ H ⟨ρ, Γ, m, hr, hs, q⟩ => ?_
        unfold exS at q
        refine ⟨ρ, Γ, m, hr, hs, (PSt.sb (Rp := RVs Z) hs q).mono fun vs H1 ⟨ds, ρ1, m1, e1, r1, s1, v1, q1⟩ => ?_⟩
        split at q1
        · rw [if_neg (by rw [hf]; exact Bool.false_ne_true)] at q1
          refine ⟨?_, q1 _ _ σ ρ1 H1 Ext.refl r1 s1 ⟨A, [], hA, rfl, RVs.nil, .inl ⟨rfl, rfl⟩⟩⟩
          rw [v1.length, sizeLine_eq]; show 1 ≤ 16777216; decide
        · exact q1.elim
      | true =>
        obtain ⟨g1, fI, fd, ps, g2, g3, g4, g5⟩ := c.ini k A hA hf
        refine (ps_raise (c.calm rfl) tk (pmk_oex (by rw [c.K]; exact g1) (by rw [c.K]; exact g2) (by rw [c.K]; exact g3) g5 ((c.room rfl).mono (by omega)) (by rw [c.K]; exact g4) .nil (passes_call (E := fun _ _ _ => False) tk fun _ _ _ _ z => z.elim) (glB_ok h2) hm hP n1 (star_cons hstar.1) (star_any hstar.2))).imp fun N σ H ⟨ρ, Γ, m, hr, hs, q⟩ => ?_
        unfold exS at q
        refine ⟨ρ, Γ, m, hr, hs, (PSt.sb (Rp := RVs Z) hs q).mono fun vs H1 ⟨ds, ρ1, m1, e1, r1, s1, v1, q1⟩ => ?_⟩
        split at q1
        · rename_i x'
          rw [if_pos hf] at q1
          obtain ⟨y, rfl, hy⟩ := v1.one_inv
          refine ⟨by show 1 ≤ 1000; omega, fun a na => ⟨a, y, rfl, upd_same, fun d nd da => ⟨rfl, d, [(Z.xfn, y)], upd_same, by rw [upd_ne da, upd_same], ?_, ?_⟩⟩⟩
          · rw [upd_ne da] at nd; exact nd
          · have nd' : H1 d = none := by rw [upd_ne da] at nd; exact nd
            have eH : L2.upd (del (L2.upd (L2.upd (L2.upd H1 a (exo a A none)) d (exd d [(Z.xfn, y)])) a (exo a A (some d))) a) d (.xd [(Z.xfn, y)]) = L2.upd H1 d (.xd [(Z.xfn, y)]) := by
              funext b
              by_cases hb : b = d
              · subst hb; rw [upd_same, upd_same]
              · rw [upd_ne hb, upd_ne hb]
                by_cases hba : b = a
                · subst hba; rw [del_same, na]
                · rw [del_ne hba, upd_ne hba, upd_ne hb, upd_ne hba]
            rw [eH]
            refine q1 _ _ σ ρ1 _ (Ext.new nd') (r1.new nd') (s1.ext (Ext.new nd')) ⟨A, [y], hA, rfl, v1.ext (Ext.new nd'), .inr ⟨d, [(Z.xfn, y)], y, rfl, rfl, r1.notin nd', upd_same, ?_⟩⟩
            simp [List.lookup]
        · exact q1.elim
end
/-- every statement -/
theorem sndt {Z : Sta} {T : Tb} {C : Nat → List D → M → O D} {n : Nat} : ∀ sm : Sm, SndT Z T C n sm
  | .skip => sndt_skip
  | .seq a b => sndt_seq (sndt a) (sndt b)
  | .ife _ a b => sndt_ife (sndt a) (sndt b)
  | .whl _ b => sndt_whl (sndt b)
  | .for _ _ b => sndt_for (sndt b)
  | .tri b _ _ _ more => sndt_tri (sndt b) (sndt more)
  | .rse _ _ => sndt_rse
  | .asg _ _ => .ofS (fun st N sc Z h => by unfold chT at h; exact h) (fun sts _ _ _ => by cases sts <;> simp [chTs]) (fun l _ _ _ => by cases l <;> simp [chH])
  | .par _ _ => .ofS (fun st N sc Z h => by unfold chT at h; exact h) (fun sts _ _ _ => by cases sts <;> simp [chTs]) (fun l _ _ _ => by cases l <;> simp [chH])
  | .sub _ _ _ => .ofS (fun st N sc Z h => by unfold chT at h; exact h) (fun sts _ _ _ => by cases sts <;> simp [chTs]) (fun l _ _ _ => by cases l <;> simp [chH])
  | .att _ _ _ => .ofS (fun st N sc Z h => by unfold chT at h; exact h) (fun sts _ _ _ => by cases sts <;> simp [chTs]) (fun l _ _ _ => by cases l <;> simp [chH])
  | .aug _ _ => .ofS (fun st N sc Z h => by unfold chT at h; exact h) (fun sts _ _ _ => by cases sts <;> simp [chTs]) (fun l _ _ _ => by cases l <;> simp [chH])
  | .exp _ => .ofS (fun st N sc Z h => by unfold chT at h; exact h) (fun sts _ _ _ => by cases sts <;> simp [chTs]) (fun l _ _ _ => by cases l <;> simp [chH])
  | .ret _ => .ofS (fun st N sc Z h => by unfold chT at h; exact h) (fun sts _ _ _ => by cases sts <;> simp [chTs]) (fun l _ _ _ => by cases l <;> simp [chH])
  | .retN => .ofS (fun st N sc Z h => by unfold chT at h; exact h) (fun sts _ _ _ => by cases sts <;> simp [chTs]) (fun l _ _ _ => by cases l <;> simp [chH])
  | .cont => .ofS (fun st N sc Z h => by unfold chT at h; exact h) (fun sts _ _ _ => by cases sts <;> simp [chTs]) (fun l _ _ _ => by cases l <;> simp [chH])
end Mi

end
section
set_option Elab.async false
set_option linter.all false
set_option maxRecDepth 100000
set_option maxHeartbeats 4000000
/-! Mi15: defs: what is handed back, how arguments bind, a table's promise -/
namespace Mi
open PySem PySem.Spec PyProof.Rows L2 TL

/-! ### what is handed back -/
section
variable {Z : Sta} {ρ new : List Addr} {H : Hp}
mutual
theorem RV.bound : ∀ {d : D} {v : V}, RV Z ρ H d v → d.bw ρ.length = true
  | .non, _, _ => rfl
  | .bl _, _, _ => rfl
  | .int _, _, _ => rfl
  | .str _, _, _ => rfl
  | .scr _, _, _ => rfl
  | .fn _, _, _ => rfl
  | .tup xs, _, h => by
    unfold RV at h
    obtain ⟨_, _, _, _, _, e4⟩ := h
    exact RVs.bound e4
  | .lst xs, _, h => by
    unfold RV at h
    obtain ⟨_, _, _, _, _, _, e5⟩ := h
    exact RVs.bound e5
  | .exc c xs, _, h => by
    unfold RV at h
    obtain ⟨_, _, _, _, _, _, _, _, e5, _⟩ := h
    exact RVs.bound e5
  | .dct _, _, h => by unfold RV at h; exact h.elim
  | .ref i, _, h => by
    unfold RV at h
    obtain ⟨a, _, e⟩ := h
    have := (List.getElem?_eq_some_iff.mp e).1
    simpa [D.bw] using this
theorem RVs.bound : ∀ {ds : List D} {vs : List V}, RVs Z ρ H ds vs → D.bwL ρ.length ds = true
  | [], _, _ => rfl
  | x :: r, _, h => by
    unfold RVs at h
    obtain ⟨_, _, _, e2, e3⟩ := h
    simp only [D.bwL, RV.bound e2, RVs.bound e3, Bool.and_self]
end
mutual
/-- of values that name none of the new objects -/
theorem RV.narrow : ∀ {d : D} {v : V}, d.bw ρ.length = true → RV Z (ρ ++ new) H d v → RV Z ρ H d v
  | .non, _, _, h => h
  | .bl _, _, _, h => h
  | .int _, _, _, h => h
  | .str _, _, _, h => h
  | .scr _, _, _, h => h
  | .fn _, _, _, h => h
  | .tup xs, _, b, h => by
    unfold RV at h ⊢
    obtain ⟨a, vs, e1, e2, e3, e4⟩ := h
    exact ⟨a, vs, e1, e2, e3, RVs.narrow b e4⟩
  | .lst xs, _, b, h => by
    unfold RV at h ⊢
    obtain ⟨a, vs, e1, e2, e3, e4, e5⟩ := h
    refine ⟨a, vs, e1, e2, fun hm => e3 ?_, e4, RVs.narrow b e5⟩
    rcases List.mem_append.mp hm with hm | hm
    · exact List.mem_append_left _ (List.mem_append_left _ hm)
    · exact List.mem_append_right _ hm
  | .exc c xs, _, b, h => by
    unfold RV at h ⊢
    obtain ⟨a, C, dd, vs, e1, e2, e3, e4, e5, e6⟩ := h
    refine ⟨a, C, dd, vs, e1, e2, fun hm => e3 (List.mem_append_left _ hm), e4, RVs.narrow b e5, ?_⟩
    rcases e6 with e6 | ⟨p, fs, xv, q1, q2, q3, q4, q5⟩
    · exact .inl e6
    · exact .inr ⟨p, fs, xv, q1, q2, fun hm => q3 (List.mem_append_left _ hm), q4, q5⟩
  | .dct _, _, _, h => by unfold RV at h; exact h.elim
  | .ref i, _, b, h => by
    unfold RV at h ⊢
    obtain ⟨a, e1, e2⟩ := h
    have hi : i < ρ.length := by simpa [D.bw] using b
    rw [List.getElem?_append_left hi] at e2
    exact ⟨a, e1, e2⟩
theorem RVs.narrow : ∀ {ds : List D} {vs : List V}, D.bwL ρ.length ds = true → RVs Z (ρ ++ new) H ds vs → RVs Z ρ H ds vs
  | [], _, _, h => h
  | x :: r, _, b, h => by
    unfold RVs at h ⊢
    simp only [D.bwL, Bool.and_eq_true] at b
    obtain ⟨v, vr, e1, e2, e3⟩ := h
    exact ⟨v, vr, e1, RV.narrow b.1 e2, RVs.narrow b.2 e3⟩
end
theorem RF.bound : ∀ {fs : List (Mi.Tx × D)} {l : List (Str × V)}, RF Z ρ H fs l → (fs.all fun p => p.2.bw ρ.length) = true
  | [], _, _ => rfl
  | (f, d) :: r, _, h => by
    unfold RF at h
    obtain ⟨_, _, _, e2, e3⟩ := h
    rw [List.all_cons, RF.bound e3, RV.bound e2]; rfl
theorem RF.narrow : ∀ {fs : List (Mi.Tx × D)} {l : List (Str × V)}, (fs.all fun p => p.2.bw ρ.length) = true → RF Z (ρ ++ new) H fs l → RF Z ρ H fs l
  | [], _, _, h => h
  | (f, d) :: r, _, b, h => by
    unfold RF at h ⊢
    rw [List.all_cons, Bool.and_eq_true] at b
    obtain ⟨v, lr, e1, e2, e3⟩ := h
    exact ⟨v, lr, e1, RV.narrow b.1 e2, RF.narrow b.2 e3⟩
theorem RO.narrow {a : Addr} {o : Ob} (b : o.bw ρ.length = true) (h : RO Z (ρ ++ new) H a o) : RO Z ρ H a o := by
  cases o with
  | lst xs => obtain ⟨vs, g1, g2, g3⟩ := h; exact ⟨vs, g1, g2, RVs.narrow b g3⟩
  | dct kvs => exact h.elim
  | ins c fs => obtain ⟨C, dx, vfs, h0, g1, g2⟩ := h; exact ⟨C, dx, vfs, h0, g1, RF.narrow b g2⟩
theorem RO.bound {a : Addr} {o : Ob} (h : RO Z ρ H a o) : o.bw ρ.length = true := by
  cases o with
  | lst xs => obtain ⟨vs, g1, g2, g3⟩ := h; exact RVs.bound g3
  | dct kvs => exact h.elim
  | ins c fs => obtain ⟨C, dx, vfs, h0, g1, g2⟩ := h; exact RF.bound g2
theorem okPre_get {n : Nat} : ∀ {m m' : M} {i : Nat} {o : Ob}, okPre n m m' = true → i < m.length → m'[i]? = some o → m[i]? = some o ∨ o.bw n = true
  | [], _, _, _, _, h, _ => by simp at h
  | _ :: _, [], _, _, h, _, _ => by simp [okPre] at h
  | a :: r, b :: s, 0, o, h, _, e => by
    simp only [okPre, Bool.and_eq_true, Bool.or_eq_true, decide_eq_true_eq] at h
    simp at e
    subst e
    rcases h.1 with h1 | h1
    · exact .inl (by simp [h1])
    · exact .inr h1
  | a :: r, b :: s, i + 1, o, h, hi, e => by
    simp only [okPre, Bool.and_eq_true] at h
    simp at e hi
    rcases okPre_get h.2 hi e with h1 | h1
    · exact .inl (by simpa using h1)
    · exact .inr h1
/-- the refs of what is handed back, told by value -/
theorem rep_ok (n : Nat) (g : Nat → Option D) (hg : ∀ i a d, (ρ ++ new)[i]? = some a → g i = some d → RV Z ρ H d (.ref a)) : (∀ (d : D) (v : V) (d' : D), RV Z (ρ ++ new) H d v → D.rep g d = some d' → RV Z ρ H d' v) ∧ (∀ (ds : List D) (vs : List V) (ds' : List D), RVs Z (ρ ++ new) H ds vs → D.repL g ds = some ds' → RVs Z ρ H ds' vs) := by
  have out : ∀ {a : Addr}, a ∉ (ρ ++ new) ++ Z.hid → a ∉ ρ ++ Z.hid := fun {a} h hm => h (by
    rcases List.mem_append.mp hm with hm | hm
    · exact List.mem_append_left _ (List.mem_append_left _ hm)
    · exact List.mem_append_right _ hm)
  have len : ∀ (ds ds' : List D), D.repL g ds = some ds' → ds'.length = ds.length := by
    intro ds
    induction ds with
    | nil => intro ds' h; simp [D.repL] at h; subst h; rfl
    | cons x r ih =>
      intro ds' h
      have h' : (match D.rep g x, D.repL g r with | some y, some s => some (y :: s) | _, _ => none) = some ds' := h
      split at h' <;> first | contradiction | skip
      rename_i y s h1 h2
      cases h'
      rw [List.length_cons, ih _ h2, List.length_cons]
  let P1 : D → Prop := fun d => ∀ (v : V) (d' : D), RV Z (ρ ++ new) H d v → D.rep g d = some d' → RV Z ρ H d' v
  let P2 : List D → Prop := fun ds => ∀ (vs : List V) (ds' : List D), RVs Z (ρ ++ new) H ds vs → D.repL g ds = some ds' → RVs Z ρ H ds' vs
  have key : ∀ d : D, P1 d := by
    intro d
    refine D.rec (motive_1 := P1) (motive_2 := P2) (motive_3 := fun _ => True) (motive_4 := fun _ => True) ?_ ?_ ?_ ?_ ?_ ?_ ?_ ?_ ?_ ?_ ?_ ?_ ?_ ?_ ?_ ?_ d
    · intro v d' h e; simp [D.rep] at e; subst e; exact h
    · intro b v d' h e; simp [D.rep] at e; subst e; exact h
    · intro b v d' h e; simp [D.rep] at e; subst e; exact h
    · intro b v d' h e; simp [D.rep] at e; subst e; exact h
    · intro xs ih v d' h e
      have e' : (D.repL g xs).map D.tup = some d' := e
      obtain ⟨ys, hy, rfl⟩ := Option.map_eq_some_iff.mp e'
      unfold RV at h ⊢
      obtain ⟨a, vs, e1, e2, e3, e4⟩ := h
      exact ⟨a, vs, e1, e2, by rw [len _ _ hy]; exact e3, ih vs ys e4 hy⟩
    · intro xs ih v d' h e
      have e' : (D.repL g xs).map D.lst = some d' := e
      obtain ⟨ys, hy, rfl⟩ := Option.map_eq_some_iff.mp e'
      unfold RV at h ⊢
      obtain ⟨a, vs, e1, e2, e3, e4, e5⟩ := h
      exact ⟨a, vs, e1, e2, out e3, by rw [len _ _ hy]; exact e4, ih vs ys e5 hy⟩
    · intro kvs _ v d' h e; unfold RV at h; exact h.elim
    · intro i v d' h e
      have e' : g i = some d' := e
      unfold RV at h
      obtain ⟨a, rfl, e2⟩ := h
      exact hg i a d' e2 e'
    · intro b v d' h e; simp [D.rep] at e; subst e; exact h
    · intro c xs ih v d' h e
      have e' : (D.repL g xs).map (D.exc c) = some d' := e
      obtain ⟨ys, hy, rfl⟩ := Option.map_eq_some_iff.mp e'
      unfold RV at h ⊢
      obtain ⟨a, C, dd, vs, e1, e2, e3, e4, e5, e6⟩ := h
      refine ⟨a, C, dd, vs, e1, e2, fun hm => e3 (List.mem_append_left _ hm), e4, ih vs ys e5 hy, ?_⟩
      rcases e6 with e6 | ⟨p, fs, xv, q1, q2, q3, q4, q5⟩
      · exact .inl e6
      · exact .inr ⟨p, fs, xv, q1, q2, fun hm => q3 (List.mem_append_left _ hm), q4, q5⟩
    · intro b v d' h e; simp [D.rep] at e; subst e; exact h
    · intro vs ds' h e; simp [D.repL] at e; subst e; exact h
    · intro x r i1 i2 vs ds' h e
      have h' : (match D.rep g x, D.repL g r with | some y, some s => some (y :: s) | _, _ => none) = some ds' := e
      split at h' <;> first | contradiction | skip
      rename_i y s h1 h2
      cases h'
      unfold RVs at h ⊢
      obtain ⟨v, vr, e1, e2, e3⟩ := h
      exact ⟨v, vr, e1, i1 v y e2 h1, i2 vr s e3 h2⟩
    · trivial
    · intros; trivial
    · intros; trivial
  refine ⟨key, fun ds => ?_⟩
  induction ds with
  | nil => intro vs ds' h e; simp [D.repL] at e; subst e; exact h
  | cons x r ih =>
    intro vs ds' h e
    have h' : (match D.rep g x, D.repL g r with | some y, some s => some (y :: s) | _, _ => none) = some ds' := e
    split at h' <;> first | contradiction | skip
    rename_i y s h1 h2
    cases h'
    unfold RVs at h ⊢
    obtain ⟨v, vr, e1, e2, e3⟩ := h
    exact ⟨v, vr, e1, key x v y e2 h1, ih vr s e3 h2⟩
theorem frz_ok {m' : M} (r : Rel Z (ρ ++ new) H m') : ∀ (f : Nat) (i : Nat) (a : Addr) (d : D), (ρ ++ new)[i]? = some a → frz m' ρ.length f i = some d → RV Z ρ H d (.ref a)
  | 0, i, a, d, _, h => by simp [frz] at h
  | f + 1, i, a, d, ha, h => by
    have h' : (if i < ρ.length then some (D.ref i) else match m'[i]? with
      | some (Ob.lst xs) => (D.repL (frz m' ρ.length f) xs).map .lst
      | some (Ob.dct kvs) => (D.repK (frz m' ρ.length f) kvs).map .dct
      | _ => none) = some d := h
    split at h'
    · rename_i hi
      cases h'
      unfold RV
      exact ⟨a, rfl, by rw [List.getElem?_append_left hi] at ha; exact ha⟩
    · rename_i hi
      split at h'
      · rename_i xs hx
        obtain ⟨ys, hy, rfl⟩ := Option.map_eq_some_iff.mp h'
        obtain ⟨vs, g1, g2, g3⟩ := r.ob i a _ ha hx
        have nr : a ∉ ρ := fun hm => by
          obtain ⟨j, hj, e⟩ := List.mem_iff_getElem.mp hm
          obtain ⟨hi2, e2⟩ := List.getElem?_eq_some_iff.mp ha
          have hj2 : j < (ρ ++ new).length := by rw [List.length_append]; omega
          have e3 : (ρ ++ new)[j] = a := by rw [List.getElem_append_left hj]; exact e
          have := (List.getElem_inj r.nd).mp (e3.trans e2.symm)
          omega
        unfold RV
        refine ⟨a, vs, rfl, g1, fun hm => ?_, ?_, (rep_ok 0 _ (fun i a d => frz_ok r f i a d)).2 xs vs ys g3 hy⟩
        · rcases List.mem_append.mp hm with hm | hm
          · exact nr hm
          · exact (r.hd a hm).1 (List.mem_of_getElem? ha)
        · have l1 := RVs.length ((rep_ok (Z := Z) (ρ := ρ) (new := new) (H := H) 0 _ (fun i a d => frz_ok r f i a d)).2 xs vs ys g3 hy)
          rw [← l1, g3.length]; exact g2
      · rename_i kvs hx
        exact (r.ob i a _ ha hx).elim
      · cases h'
end
theorem back_ok {Z : Sta} {E : XK} {ρ ρ' : List Addr} {H H' : Hp} {Q : VK} {m m' : M} {d : D} {v : V} (r : Rel Z ρ H m) (e : Ext ρ H ρ' H') (r' : Rel Z ρ' H' m') (hv : RV Z ρ' H' d v) (h : PO Z (RV Z) E ρ H Q (back m d m')) : Q v H' := by
  unfold back at h
  split at h
  · rename_i hp
    split at h
    · rename_i d' hd
      obtain ⟨new, rfl, hn⟩ := e.pre
      have hl : m.length = ρ.length := r.len.symm
      rw [hl] at hd hp h
      have e2 : Ext ρ H ρ H' := ⟨⟨[], by simp, by simp⟩, e.tup, e.frz, e.keep, e.free⟩
      have hlen : ρ.length ≤ m'.length := by have := r'.len; rw [List.length_append] at this; omega
      refine h v ρ H' e2 ⟨by rw [List.length_take]; omega, (List.nodup_append.mp r'.nd).1, fun i a o h1 h2 => ?_, fun a ha => ⟨fun hm => (r'.hd a ha).1 (List.mem_append_left _ hm), (r'.hd a ha).2⟩⟩ ((rep_ok 0 _ fun i a d => frz_ok r' deep i a d).1 d v d' hv hd)
      have hi : i < ρ.length := (List.getElem?_eq_some_iff.mp h1).1
      rw [List.getElem?_take_of_lt hi] at h2
      have q := r'.ob i a o (by rw [List.getElem?_append_left hi]; exact h1) h2
      refine RO.narrow ?_ q
      rcases okPre_get hp (by rw [hl]; exact hi) h2 with z | z
      · exact RO.bound (r.ob i a o h1 z)
      · exact z
    · exact h v ρ' H' e r' hv
  · exact h v ρ' H' e r' hv
end Mi

end
section
set_option Elab.async false
set_option linter.all false
set_option maxRecDepth 100000
set_option maxHeartbeats 4000000
/-! Mi16: the table of defs: checks, and the promise of each def at each depth -/
namespace Mi
section
open PySem PySem.W
theorem lookup_zip {N : List Str} {us : List Value} : ∀ {x : Str} {i : Nat} {v : Value}, N.Nodup → N[i]? = some x → us[i]? = some v → (N.zip us).lookup x = some v := by
  induction N generalizing us with
  | nil => intro x i v _ h; simp at h
  | cons y N ih =>
    intro x i v nd h1 h2
    cases us with
    | nil => simp at h2
    | cons u us =>
      rw [List.zip_cons_cons, List.lookup_cons]
      cases i with
      | zero => simp at h1 h2; subst h1 h2; simp
      | succ i =>
        simp at h1 h2
        have hne : x ≠ y := fun e => (List.nodup_cons.mp nd).1 (e ▸ List.mem_of_getElem? h1)
        have : (x == y) = false := by simpa using hne
        rw [this]
        exact ih (List.nodup_cons.mp nd).2 h1 h2
theorem filterMap_zip {N : List Str} {us : List Value} (nd : N.Nodup) (hl : us.length = N.length) (S : List (Str × Value)) (hS : ∀ (i : Nat) (x : Str) (v : Value), N[i]? = some x → us[i]? = some v → S.lookup x = some v) : N.filterMap (fun n => (S.lookup n).map (n, ·)) = N.zip us := by
  induction N generalizing us with
  | nil => rfl
  | cons y N ih =>
    cases us with
    | nil => simp at hl
    | cons u us =>
      rw [List.filterMap_cons, hS 0 y u rfl rfl, List.zip_cons_cons]
      simp only [Option.map_some]
      rw [ih (List.nodup_cons.mp nd).2 (by simpa using hl) fun i x v h1 h2 => hS (i + 1) x v (by simpa using h1) (by simpa using h2)]
theorem missing_nil {N : List Str} {us : List Value} (nd : N.Nodup) (hl : us.length = N.length) : (N.take N.length).filter (fun n => ((N.zip us).lookup n).isNone) = [] := by
  rw [List.take_length, List.filter_eq_nil_iff]
  intro x hx
  obtain ⟨i, hi, e⟩ := List.mem_iff_getElem.mp hx
  have : (N.zip us).lookup x = some us[i] := lookup_zip nd (by rw [← e]; exact List.getElem?_eq_getElem hi) (List.getElem?_eq_getElem (by omega))
  rw [this]; simp
theorem bind_plain (fd : FuncData) (A : List PySem.Arg) (us : List Value) (hp : fd.params = { posonlyargs := [], args := A, vararg := none, kwonlyargs := [], kw_defaults := [], kwarg := none, defaults := [] }) (hd : fd.defaults = .none) (nd : (A.map (·.arg)).Nodup) (hl : us.length = A.length) :
   bindArgs fd ⟨us, []⟩ = pure ((A.map (·.arg)).zip us) := by
  unfold bindArgs
  rw [hp, hd]
  have e0 : (([] : List Str) ++ A.map (·.arg)) = A.map (·.arg) := rfl
  have hl' : us.length = (A.map (·.arg)).length := by rw [List.length_map]; exact hl
  generalize hN : A.map (·.arg) = N at *
  have m := missing_nil nd hl'
  have f := filterMap_zip nd hl' (N.zip us) fun i x v h1 h2 => lookup_zip nd h1 h2
  rw [List.take_length] at m
  simp [hl', m, f, hN, seqItems?]
  rfl
end
open PySem PySem.Spec PyProof.Rows L2 TL
def argsB : Arguments → Option (List PySem.Arg)
  | ⟨[], A, none, [], [], none, []⟩ => some A
  | _ => none
theorem argsB_ok {p : Arguments} {A : List PySem.Arg} (h : argsB p = some A) : p = { posonlyargs := [], args := A, vararg := none, kwonlyargs := [], kw_defaults := [], kwarg := none, defaults := [] } := by
  unfold argsB at h
  split at h
  · cases h; rfl
  · cases h
def fnK : ScopeKind → Bool
  | .function => true
  | _ => false
def isNone : Value → Bool
  | .none => true
  | _ => false
def noFree (sc : Scope) : Bool := sc.names.all fun y => match y.2 with | .free => false | _ => true
/-- the shape of a def: its parameters and names -/
def scB (N : List Str) (A : List PySem.Arg) (sc : Scope) : Bool := decide N.Nodup && (decide (N.take A.length = A.map (·.arg)) && (fnK sc.kind && (!sc.isCoroutine && (!sc.isGenerator && ((A.map (·.arg)).all (lcB sc) && noFree sc)))))
theorem scB_ok {N : List Str} {A : List PySem.Arg} {sc : Scope} (h : scB N A sc = true) : FnScope N (A.map (·.arg)) sc := by
  unfold scB at h
  simp only [Bool.and_eq_true, decide_eq_true_eq, Bool.not_eq_true'] at h
  obtain ⟨h1, h2, h3, h4, h5, h6, h7⟩ := h
  refine ⟨?_, h4, h5, h1, by rw [List.length_map]; exact h2, fun x hx => lcB_ok (List.all_eq_true.mp h6 x hx), fun y hy e => ?_⟩
  · unfold fnK at h3; split at h3
    · assumption
    · cases h3
  · have := List.all_eq_true.mp h7 y hy
    rw [e] at this
    cases this
/-- the written part holds at a a def of these -/
def fdB (K : PySem.W.Frag) (a : Addr) (chk : Str → List PySem.Arg → List Stmt → Scope → Bool) : Bool := match K.lookup a with
  | some ⟨_, _, .func fd, _⟩ => (match fd.body, argsB fd.params with
    | .stmts body, some A => (fd.globals == mainGlobals) && (fd.closure.isEmpty && ((fd.builtins == builtinsNs) && (isNone fd.defaults && (PySem.W.codeIn K fd.code fd.qualname && chk fd.qualname A body fd.scope))))
    | _, _ => false)
  | _ => false
theorem fdB_ok {K : PySem.W.Frag} {a : Addr} {chk : Str → List PySem.Arg → List Stmt → Scope → Bool} (h : fdB K a chk = true) : ∃ (oc : Value) (od : Option Addr) (name qual : Str) (A : List PySem.Arg) (body : List Stmt) (scope : Scope) (kV doc pm : Value) (an : Option Addr) (cdv ct : Value) (osl : Array (Option Value)),
    K.lookup a = some ⟨oc, od, .func (PySem.W.fnOf name qual { posonlyargs := [], args := A, vararg := none, kwonlyargs := [], kw_defaults := [], kwarg := none, defaults := [] } body scope .none kV doc pm an cdv ct), osl⟩ ∧ PySem.W.codeIn K cdv qual = true ∧ chk qual A body scope = true := by
  unfold fdB at h
  split at h <;> first | contradiction | skip
  rename_i oc od fd osl ho
  split at h <;> first | contradiction | skip
  rename_i body A hb hp
  have hp2 := argsB_ok hp
  clear hp
  simp only [Bool.and_eq_true, beq_iff_eq, List.isEmpty_iff] at h
  obtain ⟨h1, h2, h3, h4, h5, h6⟩ := h
  obtain ⟨name, qual, params, fb, scope, globals, closure, dflt, kV, doc, pm, an, cdv, ct, blt⟩ := fd
  dsimp only at hb hp2 h1 h2 h3 h4 h5 h6
  subst hb hp2 h1 h2 h3
  have hd : dflt = .none := by
    unfold isNone at h4
    split at h4
    · rfl
    · cases h4
  subst hd
  exact ⟨oc, od, name, qual, A, body, scope, kV, doc, pm, an, cdv, ct, osl, ho, h5, h6⟩
def fnB (Z : Stc) (a : Addr) (f : Fn) (N : List Str) : Bool := fdB Z.K a fun _ A body sc => (A.length == f.np) && ((N.length == f.nv) && (scB N A sc && chTs Z N sc f.body body))
/-- an __init__ that stores its argument in a field of its own -/
def inB (K : PySem.W.Frag) (C : Addr) (f : Str) (a : Addr) : Bool := fdB K a fun _ A body sc => match A, body with
  | [x, y], [.Assign [.Attribute (.Name s _) g _] (.Name r _) _] => (s == x.arg) && ((r == y.arg) && ((g == f) && (scB [x.arg, y.arg] [x, y] sc && (nmB s && (nmB r && (visB sc s && visB sc r))))))
  | _, _ => false

/-- what the written part says of the classes of exceptions -/
structure XFac (Z : Stc) (T : Tb) : Prop where
  isf : ∀ tg ty tv cv, tgVal Z tg = some tv → tyVal Z ty = some cv → PySem.W.kitOne Z.K tv cv = some (tgIs T tg ty)
  xc : ∀ c A, Z.xad c = some A → ExcC Z.K A ∧ PySem.W.findIn Z.K (.ref A) Z.xfn = some none
  sub : ∀ c k A B, Z.xad c = some A → Z.xad k = some B → PySem.W.exmOne Z.K (.ref A) (.ref B) = some (T.sub c k)
  rai : ∀ c A, Z.xad c = some A → PySem.W.subIn Z.K (.ref A) (.type "BaseException") = some true ∧ PySem.W.typeIn Z.K (.ref A) = some (.type "type")
  own : ∀ c A, Z.xad c = some A → T.fld c = false → ∃ bmB B newId initId, ExcBaseFacts B newId initId bmB ∧ PySem.W.excIn Z.K A bmB newId = true
  ini : ∀ c A, Z.xad c = some A → T.fld c = true → OexC Z.K A ∧ ∃ fI, PySem.W.findIn Z.K (.ref A) "__init__" = some (some (.ref fI)) ∧ PySem.W.typeIn Z.K (.ref fI) = some (.type "function") ∧ PySem.W.findIn Z.K (.ref A) Z.xfn = some none ∧ inB Z.K A Z.xfn fI = true
section
variable {P : Program} {w : World} {mg : Str → Option Value} {base : Heap} {Z : Stc} {T : Tb}
theorem vs2 {x y : Str} {us : List Value} (h : us.length = 2) : True := trivial
theorem ini_ok {C fI : Addr} {f : Str} (hK : Z.K.In base) (hx : OexC Z.K C) (hno : PySem.W.findIn Z.K (.ref C) f = some none) (h : inB Z.K C f fI = true) : ∃ fd ps, Binds Z.K fd ps [] ∧ FnOk P w Z.K mg base (L2.CX P w) 1 fI fd ps (spI C f) := by
  obtain ⟨oc, od, name, qual, A, body, scope, kV, doc, pm, an, cdv, ct, osl, lk, hcd, hc⟩ := fdB_ok h
  split at hc <;> first | contradiction | skip
  rename_i x y s p1 g p2 r p3 p4
  simp only [Bool.and_eq_true, beq_iff_eq] at hc
  obtain ⟨rfl, rfl, rfl, h1, h2, h3, h4, h5⟩ := hc
  have S := scB_ok h1
  refine ⟨_, [x.arg, y.arg], .all fun us hl => bind_plain _ [x, y] us rfl rfl ?_ hl, fn_of lk hcd S (fun vs H Q E ⟨a, v, e, _⟩ => by rw [e]; rfl) fun A' outer st H vs Q E hr ⟨a, v, e1, e2, e3⟩ => ?_⟩
  · exact S.nd
  · subst e1
    obtain ⟨n1, n2, _⟩ := nmB_ok h2
    obtain ⟨m1, m2, _⟩ := nmB_ok h3
    have P0 : PE (cxOf (L2.CX P w) P w Z.K mg base [x.arg, y.arg] qual scope fI cdv A' outer st H E) (.Name x.arg p1) (tVar 0) := pe_var (i := 0) rfl (visB_ok h4) n1 n2
    have P1 : PE (cxOf (L2.CX P w) P w Z.K mg base [x.arg, y.arg] qual scope fI cdv A' outer st H E) (.Name y.arg p3) (tVar 1) := pe_var (i := 1) rfl (visB_ok h5) m1 m2
    refine ⟨_, pss_one (ps_ost P0 P1 (by rfl)), ?_⟩
    refine ⟨v, rfl, .ref a, rfl, a, C, rfl, hx, hno, .inl ⟨e2, fun dx hd hne => e3 dx hd hne⟩⟩
/-- one def, from the promises one call deeper -/
theorem fn_core {n k : Nat} {a : Addr} {f : Fn} {N : List Str} (hK : Z.K.In base) (hG : base.Ns mainGlobals mg) (xf : XFac Z T) (hf : T.fns k = some f) {oc : Value} {od : Option Addr} {name qual : Str} {A : List PySem.Arg} {body : List Stmt} {scope : Scope} {kV doc pm : Value} {an : Option Addr} {cdv ct : Value} {osl : Array (Option Value)}
    (lk : Z.K.lookup a = some ⟨oc, od, .func (PySem.W.fnOf name qual { posonlyargs := [], args := A, vararg := none, kwonlyargs := [], kw_defaults := [], kwarg := none, defaults := [] } body scope .none kV doc pm an cdv ct), osl⟩) (hcd : PySem.W.codeIn Z.K cdv qual = true)
    (g1 : A.length = f.np) (g2 : N.length = f.nv) (g3 : scB N A scope = true) (g4 : chTs Z N scope f.body body = true)
    (ih : ∀ j b, Z.fad j = some b → ∃ fd ps, Binds Z.K fd ps [] ∧ ∀ hid, FnOk P w Z.K mg base (L2.CX P w) (3 * n) b fd ps (prF ⟨Z, hid⟩ (callN T n) j)) (hid : List Addr) :
    FnOk P w Z.K mg base (L2.CX P w) (3 * (n + 1)) a (PySem.W.fnOf name qual { posonlyargs := [], args := A, vararg := none, kwonlyargs := [], kw_defaults := [], kwarg := none, defaults := [] } body scope .none kV doc pm an cdv ct) (A.map (·.arg)) (prF ⟨Z, hid⟩ (callN T (n + 1)) k) := by
  have S := scB_ok g3
  have hlen : ∀ vs H Q E, prF ⟨Z, hid⟩ (callN T (n + 1)) k vs H Q E → vs.length = (A.map (·.arg)).length := by
    rintro vs H Q E ⟨ρ, m, ds, r, rv, q⟩
    unfold callN at q
    rw [hf] at q
    dsimp only at q
    split at q
    · rename_i hl
      rw [rv.length, hl, List.length_map, g1]
    · exact q.elim
  rw [show 3 * (n + 1) = (3 * n + 2) + 1 from by omega]
  refine fn_of lk hcd S hlen fun A' outer s H vs Q E hr hsp => ?_
  obtain ⟨ρ, m, ds, r, rv, q⟩ := hsp
  have hl : ds.length = f.np := by
    unfold callN at q
    rw [hf] at q
    dsimp only at q
    split at q
    · assumption
    · exact q.elim
  have c : CxtT ⟨Z, hid⟩ T (callN T n) n (cxOf (L2.CX P w) P w Z.K mg base N qual scope a cdv A' outer s H E) := {
    K := rfl
    nd := S.nd
    calm := fun _ => rfl
    room := fun _ => hr.mono (Nat.le_refl _)
    units := Room.units hr
    mgs := fun x v e => PySem.W.mg_of hK hG e
    mgn := fun x e => PySem.W.mg_none_of hK hG e
    isf := xf.isf
    xc := xf.xc
    fns := fun j b hj => ih j b hj
    sub := xf.sub
    rai := xf.rai
    own := xf.own
    ini := fun c A hA hfl => by
      obtain ⟨i1, fI, i2, i3, i4, i5⟩ := xf.ini c A hA hfl
      obtain ⟨fd, ps, hb, F⟩ := ini_ok (P := P) (w := w) (mg := mg) hK i1 i4 i5
      exact ⟨i1, fI, fd, ps, i2, i3, hb, F⟩
    ex := rfl
    stk := rfl
    frm := rfl
    fn := fun _ => rfl
    knd := S.kind }
  refine ⟨_, (sndt f.body).ss _ (fun cls d _ H' => E cls d H') body c (takes_of rfl rfl rfl rfl) (passes_of rfl) g4, ρ, Mi.start f.nv ds, m, r, ?_, ?_⟩
  · refine ⟨?_, fun i d e => ?_⟩
    · have : (L2.start N vs).length = N.length := by
        unfold L2.start
        rw [List.length_append, List.length_map, List.length_replicate, rv.length]
        have h9 := congrArg List.length S.pre
        rw [List.length_take, List.length_map] at h9
        omega
      rw [this]
      unfold Mi.start
      rw [List.length_append, List.length_map, List.length_replicate, ← g2]
      have h9 := congrArg List.length S.pre
      rw [List.length_take, List.length_map] at h9
      omega
    · unfold Mi.start at e
      by_cases hi : i < ds.length
      · rw [List.getElem?_append_left (by simpa using hi), List.getElem?_map] at e
        obtain ⟨d', e1, e2⟩ := Option.map_eq_some_iff.mp e
        cases e2
        obtain ⟨v, w1, w2⟩ := rv.get e1
        refine ⟨v, ?_, w2⟩
        unfold L2.start
        rw [List.getElem?_append_left (by rw [List.length_map, rv.length]; exact hi), List.getElem?_map, w1]
        rfl
      · rw [List.getElem?_append_right (by simpa using hi), List.getElem?_replicate] at e
        split at e <;> cases e
  · unfold callN at q
    rw [hf] at q
    dsimp only at q
    rw [if_pos hl] at q
    match hx : exS T (callN T n) f.body (Mi.start f.nv ds) m, q with
    | some (.nx Γ' m'), q =>
      intro σ' ρ' H' e r' s'
      dsimp only at q
      split at q
      · exact back_ok (d := .non) r e r' rfl q
      · exact q _ ρ' H' e r' rfl
    | some (.rt d m'), q =>
      intro v ρ' H' e r' hv
      dsimp only at q
      split at q
      · exact back_ok r e r' hv q
      · exact q v ρ' H' e r' hv
    | some (.ex c v Γ' m'), q => exact fun cls dd σ' ρ' H' e r' s' hx' => q cls dd ρ' H' e r' hx'
    | some (.ct Γ' m'), q => exact q.elim
    | none, q => exact q.elim
theorem fns_ok (hK : Z.K.In base) (hG : base.Ns mainGlobals mg) (tab : ∀ k a, Z.fad k = some a → ∃ f N, T.fns k = some f ∧ fnB Z a f N = true) (xf : XFac Z T) (n : Nat) : ∀ k a, Z.fad k = some a → ∃ fd ps, Binds Z.K fd ps [] ∧ ∀ hid, FnOk P w Z.K mg base (L2.CX P w) (3 * n) a fd ps (prF ⟨Z, hid⟩ (callN T n) k) := by
  induction n with
  | zero =>
    intro k a hk
    obtain ⟨f, N, hf, hb⟩ := tab k a hk
    obtain ⟨oc, od, name, qual, A, body, scope, kV, doc, pm, an, cdv, ct, osl, lk, hcd, hc⟩ := fdB_ok hb
    simp only [Bool.and_eq_true, beq_iff_eq] at hc
    obtain ⟨g1, g2, g3, g4⟩ := hc
    refine ⟨_, A.map (·.arg), .all fun us hl => bind_plain (PySem.W.fnOf name qual { posonlyargs := [], args := A, vararg := none, kwonlyargs := [], kw_defaults := [], kwarg := none, defaults := [] } body scope .none kV doc pm an cdv ct) A us rfl rfl (by have := (scB_ok g3).nd; have e := (scB_ok g3).pre; rw [← e]; exact this.sublist (List.take_sublist _ _)) (by simpa using hl), fun hid => ?_⟩
    exact ⟨fun vs H Q E ⟨ρ, m, ds, r, rv, q⟩ => q.elim, fun A outer s H args us vs Q E hr he hb hv ⟨ρ, m, ds, r, rv, q⟩ => q.elim⟩
  | succ n ih =>
    intro k a hk
    obtain ⟨f, N, hf, hb⟩ := tab k a hk
    obtain ⟨oc, od, name, qual, A, body, scope, kV, doc, pm, an, cdv, ct, osl, lk, hcd, hc⟩ := fdB_ok hb
    simp only [Bool.and_eq_true, beq_iff_eq] at hc
    obtain ⟨g1, g2, g3, g4⟩ := hc
    exact ⟨_, A.map (·.arg), .all fun us hl => bind_plain _ A us rfl rfl (by have := (scB_ok g3).nd; have e := (scB_ok g3).pre; rw [← e]; exact this.sublist (List.take_sublist _ _)) (by simpa using hl), fun hid => fn_core hK hG xf hf lk hcd g1 g2 g3 g4 ih hid⟩
end
/-- the law's def: its function object ahead of the base -/
theorem law_one {Z : Stc} {T : Tb} (tab : ∀ k a, Z.fad k = some a → ∃ f N, T.fns k = some f ∧ fnB Z a f N = true) (xf : XFac Z T) {k : Nat} {a : Addr} {f : Fn} {N : List Str} {x : Str} (hf : T.fns k = some f) (hb : fnB Z a f N = true) (hN : N.take 1 = [x]) (h1 : f.np = 1) (n : Nat) :
    ∃ fd : FuncData, (∀ (s : Shared) (u : Value), BindsTo s fd ⟨[u], []⟩ [(x, u)]) ∧ ∀ (P : Program) (w : World) (mg : Str → Option Value) (base : Heap), Z.K.In base → base.Ns mainGlobals mg → FnOk P w Z.K mg base (L2.CX P w) (3 * (n + 1)) a fd [x] (prF ⟨Z, []⟩ (callN T (n + 1)) k) := by
  obtain ⟨oc, od, name, qual, A, body, scope, kV, doc, pm, an, cdv, ct, osl, lk, hcd, hc⟩ := fdB_ok hb
  simp only [Bool.and_eq_true, beq_iff_eq] at hc
  obtain ⟨g1, g2, g3, g4⟩ := hc
  have S := scB_ok g3
  have hA : A.map (·.arg) = [x] := by
    have e := S.pre
    rw [List.length_map, g1, h1] at e
    rw [← e, hN]
  refine ⟨_, fun s u => ?_, fun P w mg base hK hG => by rw [← hA]; exact fn_core hK hG xf hf lk hcd g1 g2 g3 g4 (fns_ok hK hG tab xf n) []⟩
  have nd : (A.map (·.arg)).Nodup := by rw [hA]; simp
  have := bind_plain (PySem.W.fnOf name qual { posonlyargs := [], args := A, vararg := none, kwonlyargs := [], kw_defaults := [], kwarg := none, defaults := [] } body scope .none kV doc pm an cdv ct) A [u] rfl rfl nd (by rw [g1, h1]; rfl)
  rw [hA] at this
  exact .of_eq this
end Mi

end
section
set_option Elab.async false
set_option linter.all false
set_option maxRecDepth 100000
set_option maxHeartbeats 4000000
/-! Mi17: a program as a table; one check of it all over the written part -/
namespace Mi
open PySem PySem.Spec PyProof.Rows L2 TL
/-- defs: name, body, names; exceptions' classes: name, whether it bears a field, the classes above it (its own number too) -/
structure Pr where
  fs : List (Mi.Tx × Fn × List Mi.Tx)
  cs : List (Mi.Tx × Bool × List Nat)
  xf : Mi.Tx
def adr (K : PySem.W.Frag) (x : Str) : Option Addr := match PySem.W.nsIn K mainGlobals x with | some (some (.ref a)) => some a | _ => none
def Pr.Z (p : Pr) (K : PySem.W.Frag) : Stc := { K := K, fad := fun k => (p.fs[k]?).bind fun e => adr K (toS e.1), cad := fun _ => none, xad := fun c => (p.cs[c]?).bind fun e => adr K (toS e.1), xfn := toS p.xf }
def Pr.T (p : Pr) : Tb := { fns := fun k => (p.fs[k]?).map (·.2.1), meth := fun _ _ => none, init := fun _ => none, sub := fun c k => match p.cs[c]? with | some e => e.2.2.contains k | none => false, fld := fun c => match p.cs[c]? with | some e => e.2.1 | none => false }
def fsB (p : Pr) (K : PySem.W.Frag) : Bool := p.fs.all fun e => match adr K (toS e.1) with | some a => fnB (p.Z K) a e.2.1 (e.2.2.map toS) | none => false
def excB (K : PySem.W.Frag) (D : Addr) : Bool :=
  decide (PySem.W.findIn K (.ref D) "__getattribute__" = some (some (.builtin "BaseException.__getattribute__"))) && (decide (PySem.W.findIn K (.ref D) "__getattr__" = some none) && (decide (PySem.W.subIn K (.ref D) (.type "BaseException") = some true) && (PySem.W.hasDictIn K D &&
    (decide (PySem.W.findIn K (.ref D) "__class__" = some (some (.builtin "object.__class__"))) && (decide (PySem.W.specialIn K (.builtin "object.__class__") "__get__" = some (some (.builtin "getset_descriptor.__get__"))) && (decide (PySem.W.takesIn K (.builtin "object.__class__") = some true) && decide (PySem.W.mroIn K D (.type "object") = some true)))))))
theorem excB_ok {K : PySem.W.Frag} {D : Addr} (h : excB K D = true) : ExcC K D := by
  unfold excB at h
  simp only [Bool.and_eq_true, decide_eq_true_eq] at h
  obtain ⟨h1, h2, h3, h4, h5, h6, h7, h8⟩ := h
  exact ⟨h1, h2, h3, h4, h5, h6, h7, h8⟩
/-- a class with an __init__ of its own, over ValueError -/
def oexB (K : PySem.W.Frag) (C : Addr) : Bool := (match K.lookup C with
  | some ⟨.type "type", _, .cls cd, sl⟩ => (match cd.mro, sl.toList with
    | .ref C' :: bm, [_, _, _, _, some (.builtin n), _] => (C' == C) && ((n == "ValueError.__new__") && (!cd.hasDel && (cd.hasDict && PySem.HandSPX.refsVE bm)))
    | _, _ => false)
  | _ => false) && (decide (PySem.W.findIn K (.ref C) "__setattr__" = some (some (.builtin "object.__setattr__"))) && (decide (PySem.W.subIn K (.ref C) (.type "BaseException") = some true) && (decide (PySem.W.typeIn K (.ref C) = some (.type "type")) && PySem.W.keepIn K (.ref C))))
theorem oexB_ok {K : PySem.W.Frag} {C : Addr} (h : oexB K C = true) : OexC K C := by
  unfold oexB at h
  rw [Bool.and_eq_true] at h
  obtain ⟨h, h'⟩ := h
  simp only [Bool.and_eq_true, decide_eq_true_eq] at h'
  obtain ⟨g1, g2, g3, g4⟩ := h'
  refine ⟨?_, g1, g2, g3, g4⟩
  split at h <;> first | contradiction | skip
  rename_i dd cd sl ho
  split at h <;> first | contradiction | skip
  rename_i C' bm k0 k1 k2 k3 n k5 hm hs
  simp only [Bool.and_eq_true, beq_iff_eq, Bool.not_eq_true'] at h
  obtain ⟨rfl, rfl, hdel, hd, hr⟩ := h
  obtain ⟨nm, bs, mro, ns, qn, hdct, sn, sb, ab, col, del⟩ := cd
  dsimp only at hm hdel hd
  subst hm hdel hd
  obtain ⟨l⟩ := sl
  dsimp only at hs
  subst hs
  exact ⟨nm, qn, ns, bs, bm, sn, sb, ab, col, dd, k0, k1, k2, k3, k5, ho, hr⟩
def initB (p : Pr) (K : PySem.W.Frag) (A : Addr) : Bool := oexB K A && ((match PySem.W.findIn K (.ref A) "__init__" with
  | some (some (.ref fI)) => decide (PySem.W.typeIn K (.ref fI) = some (.type "function")) && inB K A (toS p.xf) fI
  | _ => false))
def veMro : List Value := match PySem.fastBuiltinMro "ValueError" with | some l => l | none => []
/-- one class -/
def clB (p : Pr) (K : PySem.W.Frag) (e : Mi.Tx × Bool × List Nat) : Bool := match adr K (toS e.1) with
  | some A => decide (PySem.W.subIn K (.ref A) (.type "BaseException") = some true) && (decide (PySem.W.typeIn K (.ref A) = some (.type "type")) && (excB K A && (decide (PySem.W.findIn K (.ref A) (toS p.xf) = some none) &&
      ((if e.2.1 then initB p K A else PySem.W.excIn K A veMro "ValueError.__new__") &&
      ((List.range p.cs.length).all fun k => match (p.Z K).xad k with | some B => decide (PySem.W.exmOne K (.ref A) (.ref B) = some (e.2.2.contains k)) | none => false)))))
  | none => false
def kds (p : Pr) : List Kd := [.non, .bl, .int, .str, .tup, .lst] ++ (List.range p.cs.length).map .ex
def tys (p : Pr) : List Ty := [.str, .int, .bool, .tuple, .list, .dict, .vErr] ++ (List.range p.cs.length).map .ex
def isB (p : Pr) (K : PySem.W.Frag) : Bool := (kds p).all fun tg => (tys p).all fun ty => match tgVal (p.Z K) tg, tyVal (p.Z K) ty with
  | some tv, some cv => decide (PySem.W.kitOne K tv cv = some (tgIs p.T tg ty))
  | _, _ => true
def prB (p : Pr) (K : PySem.W.Frag) : Bool := fsB p K && (p.cs.all (clB p K) && isB p K)
theorem xad_lt {p : Pr} {K : PySem.W.Frag} {c : Nat} {A : Addr} (h : (p.Z K).xad c = some A) : c < p.cs.length ∧ ∃ e, p.cs[c]? = some e ∧ adr K (toS e.1) = some A := by
  obtain ⟨e, h1, h2⟩ := Option.bind_eq_some_iff.mp h
  exact ⟨(List.getElem?_eq_some_iff.mp h1).1, e, h1, h2⟩
theorem tab_ok {p : Pr} {K : PySem.W.Frag} (h : prB p K = true) : ∀ k a, (p.Z K).fad k = some a → ∃ f N, p.T.fns k = some f ∧ fnB (p.Z K) a f N = true := by
  intro k a hk
  obtain ⟨e, h1, h2⟩ := Option.bind_eq_some_iff.mp hk
  unfold prB at h
  rw [Bool.and_eq_true] at h
  have := List.all_eq_true.mp h.1 e (List.mem_of_getElem? h1)
  rw [h2] at this
  exact ⟨e.2.1, _, by show (p.fs[k]?).map _ = _; rw [h1]; rfl, this⟩
theorem xfac_ok {p : Pr} {K : PySem.W.Frag} (hF : ExcBaseFacts "ValueError" "ValueError.__new__" "ValueError.__init__" veMro) (h : prB p K = true) : XFac (p.Z K) p.T := by
  unfold prB at h
  rw [Bool.and_eq_true, Bool.and_eq_true] at h
  obtain ⟨_, h2, h3⟩ := h
  have cl : ∀ {c : Nat} {A : Addr}, (p.Z K).xad c = some A → ∃ e, p.cs[c]? = some e ∧ PySem.W.subIn K (.ref A) (.type "BaseException") = some true ∧ PySem.W.typeIn K (.ref A) = some (.type "type") ∧ ExcC K A ∧ PySem.W.findIn K (.ref A) (toS p.xf) = some none ∧
      (if e.2.1 then initB p K A else PySem.W.excIn K A veMro "ValueError.__new__") = true ∧ ∀ k B, (p.Z K).xad k = some B → PySem.W.exmOne K (.ref A) (.ref B) = some (e.2.2.contains k) := fun {c A} hA => by
    obtain ⟨_, e, e1, e2⟩ := xad_lt hA
    have q := List.all_eq_true.mp h2 e (List.mem_of_getElem? e1)
    unfold clB at q
    rw [e2] at q
    simp only [Bool.and_eq_true, decide_eq_true_eq] at q
    obtain ⟨q1, q2, q3, q4, q5, q6⟩ := q
    refine ⟨e, e1, q1, q2, excB_ok q3, q4, q5, fun k B hB => ?_⟩
    have q7 := List.all_eq_true.mp q6 k (List.mem_range.mpr (xad_lt hB).1)
    rw [hB] at q7
    simpa using q7
  have tf : ∀ {c : Nat} {e : Mi.Tx × Bool × List Nat}, p.cs[c]? = some e → p.T.fld c = e.2.1 ∧ ∀ k, p.T.sub c k = e.2.2.contains k := fun {c e} he => by
    refine ⟨?_, fun k => ?_⟩
    · show (match p.cs[c]? with | some e => e.2.1 | none => false) = _; rw [he]
    · show (match p.cs[c]? with | some e => e.2.2.contains k | none => false) = _; rw [he]
  refine ⟨fun tg ty tv cv ht hc => ?_, fun c A hA => ?_, fun c k A B hA hB => ?_, fun c A hA => ?_, fun c A hA hf => ?_, fun c A hA hf => ?_⟩
  · have m1 : tg ∈ kds p := by
      unfold kds
      cases tg with
      | ex c =>
        obtain ⟨A, hA, _⟩ := Option.map_eq_some_iff.mp ht
        exact List.mem_append_right _ (List.mem_map.mpr ⟨c, List.mem_range.mpr (xad_lt hA).1, rfl⟩)
      | _ => simp
    have m2 : ty ∈ tys p := by
      unfold tys
      cases ty with
      | ex c =>
        obtain ⟨A, hA, _⟩ := Option.map_eq_some_iff.mp hc
        exact List.mem_append_right _ (List.mem_map.mpr ⟨c, List.mem_range.mpr (xad_lt hA).1, rfl⟩)
      | _ => simp
    have q := List.all_eq_true.mp (List.all_eq_true.mp h3 tg m1) ty m2
    rw [ht, hc] at q
    have q' : decide (PySem.W.kitOne K tv cv = some (tgIs p.T tg ty)) = true := q
    exact of_decide_eq_true q'
  · obtain ⟨e, e1, _, _, q3, q4, _⟩ := cl hA
    exact ⟨q3, q4⟩
  · obtain ⟨e, e1, _, _, _, _, _, q6⟩ := cl hA
    rw [(tf e1).2]
    exact q6 k B hB
  · obtain ⟨e, e1, q1, q2, _⟩ := cl hA
    exact ⟨q1, q2⟩
  · obtain ⟨e, e1, _, _, _, _, q5, _⟩ := cl hA
    rw [(tf e1).1] at hf
    rw [hf] at q5
    exact ⟨_, _, _, _, hF, q5⟩
  · obtain ⟨e, e1, _, _, _, q4, q5, _⟩ := cl hA
    rw [(tf e1).1] at hf
    rw [hf] at q5
    have q5 : initB p K A = true := q5
    unfold initB at q5
    rw [Bool.and_eq_true] at q5
    obtain ⟨w1, w2⟩ := q5
    split at w2 <;> first | contradiction | skip
    rename_i fI hI
    rw [Bool.and_eq_true, decide_eq_true_eq] at w2
    exact ⟨oexB_ok w1, fI, hI, w2.1, q4, w2.2⟩

/-! ### the end: the law's def at a script -/
/-- what the evaluator must answer for the law's def, number k, at each script -/
def Good (p : Pr) (n k : Nat) : Prop := ∀ is : List Int, is.length ≤ 63 → ∃ m, callN p.T n k [.scr is] [] = some (.ok (.bl true) m)
theorem law_sp {p : Pr} {K : PySem.W.Frag} {n k : Nat} (g : Good p n k) (H : Hp) (a : Addr) (is : List Int) (hl : is.length ≤ 63) (hO : Only H) (hS : SqL K H a (is.map V.int)) : prF ⟨p.Z K, []⟩ (callN p.T n) k [.ref a] H (fun v _ => v = .bl true) fun _ _ _ => False := by
  obtain ⟨m, e⟩ := g is hl
  refine ⟨[], [], [.scr is], ⟨rfl, List.nodup_nil, fun i a o h => by simp at h, fun a ha => absurd ha (by simp)⟩, ⟨.ref a, [], rfl, ?_, rfl⟩, ?_⟩
  · unfold RV
    refine ⟨a, rfl, ?_, Nat.le_trans hl (by decide)⟩
    rcases hS with (h | ⟨o, h⟩) | h
    · rcases hO a with q | ⟨o, xs, q⟩
      · rw [q] at h; cases h
      · rw [q] at h; cases h
    · exact .inl ⟨o, h⟩
    · exact .inr h
  · rw [e]
    exact fun b ρ' H' _ _ hb => hb
theorem law_fn {p : Pr} {K : PySem.W.Frag} (h : prB p K = true) {n k : Nat} {e : Mi.Tx × Fn × List Mi.Tx} {a : Addr} {x : Str} (he : p.fs[k]? = some e) (ha : adr K (toS e.1) = some a) (hx : (e.2.2.map toS).take 1 = [x]) (h1 : e.2.1.np = 1) :
    ∃ fd : FuncData, (∀ (s : Shared) (u : Value), BindsTo s fd ⟨[u], []⟩ [(x, u)]) ∧ ∀ (P : Program) (w : World) (mg : Str → Option Value) (base : Heap), K.In base → base.Ns mainGlobals mg → FnOk P w K mg base (L2.CX P w) (3 * (n + 1)) a fd [x] (prF ⟨p.Z K, []⟩ (callN p.T (n + 1)) k) := by
  have hb : fnB (p.Z K) a e.2.1 (e.2.2.map toS) = true := by
    have h' := h
    unfold prB at h'
    rw [Bool.and_eq_true] at h'
    have := List.all_eq_true.mp h'.1 e (List.mem_of_getElem? he)
    rw [ha] at this
    exact this
  exact law_one (Z := p.Z K) (T := p.T) (tab_ok h) (xfac_ok PySem.F.excBase_ValueError h) (show (p.fs[k]?).map _ = _ by rw [he]; rfl) hb hx h1 n
theorem adr_ok {K : PySem.W.Frag} {x : Str} {a : Addr} (h : adr K x = some a) : PySem.W.nsIn K mainGlobals x = some (some (.ref a)) := by
  unfold adr at h
  split at h
  · rename_i b q
    cases h
    exact q
  · cases h
theorem law_F {P : Program} {p : Pr} {K : PySem.W.Frag} {n k : Nat} {e : Mi.Tx × Fn × List Mi.Tx} {x nm : Str} (h : prB p K = true) (hs : (adr K (toS e.1)).isSome = true) (he : p.fs[k]? = some e) (hn : toS e.1 = nm) (hx : (e.2.2.map toS).take 1 = [x]) (h1 : e.2.1.np = 1) {w : World} {mg : Str → Option Value} {fa : Addr} {hp : Heap} (hK : K.In hp) (hG : hp.Ns mainGlobals mg) (hm : mg nm = some (.ref fa)) :
    ∃ fd : FuncData, (∀ (s : Shared) (u : Value), BindsTo s fd ⟨[u], []⟩ [(x, u)]) ∧ ∀ base : Heap, K.In base → base.Ns mainGlobals mg → FnOk P w K mg base (L2.CX P w) (3 * (n + 1)) fa fd [x] (prF ⟨p.Z K, []⟩ (callN p.T (n + 1)) k) := by
  obtain ⟨a, ha⟩ := Option.isSome_iff_exists.mp hs
  have e1 := PySem.W.mg_of hK hG (adr_ok ha)
  rw [hn, hm] at e1
  cases e1
  obtain ⟨fd, h2, h3⟩ := law_fn (n := n) h he ha hx h1
  exact ⟨fd, h2, fun base hb hg => h3 P w mg base hb hg⟩
end Mi

end
section
set_option maxRecDepth 100000
namespace K82
open Mi
/-- pot -/
def b0 : Sm :=
    (.seq (.asg (.nm 2) (.bin .add (.bin .mul (.con (.int 7)) (.var 1)) (.bi .len (.cons (.var 0) .nil))))
    (.seq (.ife (.tru (.cmp .lt (.var 1) (.bi .len (.cons (.var 0) .nil)))) (.seq (.asg (.nm 2) (.idx (.var 0) (.var 1)))
    .skip) .skip)
    (.seq (.asg (.nm 3) (.bin .mul (.bin .mod (.bi .abs (.cons (.var 2) .nil)) (.bin .pow (.bin .pow (.con (.int 10)) (.con (.int 60))) (.con (.int 3)))) (.bi .int (.cons (.cmp .ge (.bi .abs (.cons (.var 2) .nil)) (.bin .pow (.con (.int 10)) (.con (.int 18)))) .nil))))
    (.seq (.asg (.nm 4) (.bin .add (.bin .add (.bin .mod (.bi .abs (.cons (.var 2) .nil)) (.con (.int 2147483629))) (.bin .mul (.bin .mul (.con (.int 7919)) (.var 1)) (.var 1))) (.con (.int 11))))
    (.seq (.ret (.lst true (.cons (.var 3) (.cons (.bin .mod (.bin .mul (.bin .mod (.bin .mul (.var 4) (.var 4)) (.con (.int 2147483629))) (.con (.int 48271))) (.con (.int 2147483647))) .nil))))
    .skip)))))
def e0 : Tx × Fn × List Tx := ([95, 108, 97, 119, 95, 112, 111, 116], ⟨2, 5, b0, false⟩, [[95, 108, 97, 119, 95, 115, 99, 114, 105, 112, 116], [95, 108, 97, 119, 95, 107], [95, 108, 97, 119, 95, 99, 101, 108, 108], [95, 108, 97, 119, 95, 103, 114, 101, 97, 116], [95, 108, 97, 119, 95, 109, 105, 120, 101, 100]])
/-- take -/
def b1 : Sm :=
    (.seq (.ife (.tru (.cmp .gt (.idx (.var 0) (.con (.int 0))) (.con (.int 0)))) (.seq (.asg (.nm 2) (.bin .mod (.idx (.var 0) (.con (.int 0))) (.var 1)))
    (.seq (.sub (.var 0) (.con (.int 0)) (.bin .fdiv (.idx (.var 0) (.con (.int 0))) (.var 1)))
    (.seq (.ret (.var 2))
    .skip))) .skip)
    (.seq (.sub (.var 0) (.con (.int 1)) (.bin .mod (.bin .add (.bin .mul (.idx (.var 0) (.con (.int 1))) (.con (.int 48271))) (.con (.int 12345))) (.con (.int 2147483647))))
    (.seq (.ret (.bin .mod (.bin .fdiv (.bin .mod (.bin .mul (.bin .fdiv (.idx (.var 0) (.con (.int 1))) (.con (.int 7))) (.bin .add (.bin .mod (.idx (.var 0) (.con (.int 1))) (.con (.int 65537))) (.con (.int 3)))) (.con (.int 1999999973))) (.con (.int 5))) (.var 1)))
    .skip)))
def e1 : Tx × Fn × List Tx := ([95, 108, 97, 119, 95, 116, 97, 107, 101], ⟨2, 3, b1, false⟩, [[95, 108, 97, 119, 95, 112, 111, 116, 95, 104, 101, 114, 101], [95, 108, 97, 119, 95, 109, 97, 110, 121], [95, 108, 97, 119, 95, 100, 105, 103, 105, 116]])
/-- order -/
def b2 : Sm :=
    (.seq (.asg (.nm 2) (.bw true .list (.rg1 (.var 1))))
    (.seq (.ret (.lc false [([95, 108, 97, 119, 95, 107], 3)] (.nm 3) (.rg1 (.var 1)) .yes (.bm .pop1 (.var 2) (.cons (.cal 1 (.cons (.var 0) (.cons (.bi .len (.cons (.var 2) .nil)) .nil))) .nil))))
    .skip))
def e2 : Tx × Fn × List Tx := ([95, 108, 97, 119, 95, 111, 114, 100, 101, 114], ⟨2, 4, b2, true⟩, [[95, 108, 97, 119, 95, 112, 111, 116, 95, 104, 101, 114, 101], [95, 108, 97, 119, 95, 109, 97, 110, 121], [95, 108, 97, 119, 95, 108, 101, 102, 116], [95, 108, 97, 119, 95, 107]])
/-- raised -/
def b3 : Sm :=
    (.seq (.ife (.tru (.cmp .eq (.var 0) (.con (.int 0)))) (.seq (.rse 1 (.cons (.var 1) .nil))
    .skip) .skip)
    (.seq (.ife (.tru (.cmp .eq (.var 0) (.con (.int 1)))) (.seq (.rse 2 (.cons (.var 2) .nil))
    .skip) .skip)
    (.seq (.ife (.tru (.cmp .eq (.var 0) (.con (.int 2)))) (.seq (.rse 3 (.cons (.var 2) .nil))
    .skip) .skip)
    (.seq (.ife (.tru (.cmp .eq (.var 0) (.con (.int 3)))) (.seq (.rse 4 (.cons (.var 2) .nil))
    .skip) .skip)
    (.seq (.ife (.tru (.cmp .eq (.var 0) (.con (.int 4)))) (.seq (.rse 5 (.cons (.var 2) .nil))
    .skip) .skip)
    (.seq (.rse 6 (.cons (.var 2) .nil))
    .skip))))))
def e3 : Tx × Fn × List Tx := ([95, 108, 97, 119, 95, 114, 97, 105, 115, 101, 100], ⟨3, 3, b3, false⟩, [[95, 108, 97, 119, 95, 110, 117, 109, 98, 101, 114, 95, 104, 101, 114, 101], [95, 108, 97, 119, 95, 114, 111, 119, 95, 104, 101, 114, 101], [95, 108, 97, 119, 95, 116, 101, 120, 116, 95, 104, 101, 114, 101]])
/-- caught -/
def b4 : Sm :=
    (.seq (.asg (.nm 3) (.con .non))
    (.seq (.tri (.seq (.exp (.cal 3 (.cons (.var 0) (.cons (.var 1) (.cons (.var 2) .nil)))))
    .skip) [0] (some 4) (.seq (.asg (.nm 3) (.var 4))
    .skip) .skip)
    (.seq (.ret (.var 3))
    .skip)))
def e4 : Tx × Fn × List Tx := ([95, 108, 97, 119, 95, 99, 97, 117, 103, 104, 116], ⟨3, 5, b4, false⟩, [[95, 108, 97, 119, 95, 110, 117, 109, 98, 101, 114, 95, 104, 101, 114, 101], [95, 108, 97, 119, 95, 114, 111, 119, 95, 104, 101, 114, 101], [95, 108, 97, 119, 95, 116, 101, 120, 116, 95, 104, 101, 114, 101], [95, 108, 97, 119, 95, 99, 97, 117, 103, 104, 116, 95, 104, 101, 114, 101], [101]])
/-- number -/
def b5 : Sm :=
    (.seq (.ret (.cal 1 (.cons (.var 0) (.cons (.idx (.lst false (.cons (.con (.int 4)) (.cons (.con (.int 100)) (.cons (.bin .pow (.con (.int 10)) (.con (.int 9))) .nil)))) (.cal 1 (.cons (.var 0) (.cons (.con (.int 3)) .nil)))) .nil))))
    .skip)
def e5 : Tx × Fn × List Tx := ([95, 108, 97, 119, 95, 110, 117, 109, 98, 101, 114], ⟨1, 1, b5, false⟩, [[95, 108, 97, 119, 95, 112, 111, 116, 95, 104, 101, 114, 101]])
/-- text -/
def b6 : Sm :=
    (.seq (.asg (.nm 1) (.con (.str [32, 33, 34, 35, 36, 38, 39, 40, 41, 42, 43, 44, 45, 46, 47, 48, 49, 50, 51, 52, 53, 54, 55, 56, 57, 58, 59, 60, 61, 62, 63, 64, 65, 66, 67, 68, 69, 70, 71, 72, 73, 74, 75, 76, 77, 78, 79, 80, 81, 82, 83, 84, 85, 86, 87, 88, 89, 90, 91, 92, 93, 94, 95, 96])))
    (.seq (.asg (.nm 1) (.bin .add (.var 1) (.con (.str [97, 98, 99, 100, 101, 102, 103, 104, 105, 106, 107, 108, 109, 110, 111, 112, 113, 114, 115, 116, 117, 118, 119, 120, 121, 122, 123, 124, 125, 126]))))
    (.seq (.ret (.bm .join (.con (.str [])) (.cons (.lc false [([95, 108, 97, 119, 95, 107], 2)] (.nm 2) (.rg1 (.cal 1 (.cons (.var 0) (.cons (.con (.int 13)) .nil)))) .yes (.idx (.var 1) (.cal 1 (.cons (.var 0) (.cons (.bi .len (.cons (.var 1) .nil)) .nil))))) .nil)))
    .skip)))
def e6 : Tx × Fn × List Tx := ([95, 108, 97, 119, 95, 116, 101, 120, 116], ⟨1, 3, b6, false⟩, [[95, 108, 97, 119, 95, 112, 111, 116, 95, 104, 101, 114, 101], [95, 108, 97, 119, 95, 115, 105, 103, 110, 115], [95, 108, 97, 119, 95, 107]])
/-- right -/
def b7 : Sm :=
    (.seq (.asg (.nm 2) (.lst false (.cons (.isi (.var 0) [.ex 1]) (.cons (.isi (.var 0) [.ex 2]) (.cons (.isi (.var 0) [.ex 3]) .nil)))))
    (.seq (.asg (.nm 2) (.bin .add (.var 2) (.lst false (.cons (.isi (.var 0) [.ex 4]) (.cons (.isi (.var 0) [.ex 5]) (.cons (.isi (.var 0) [.ex 6]) .nil))))))
    (.seq (.ret (.vand (.cmp .eq (.var 2) (.lc false [([95, 108, 97, 119, 95, 107], 3)] (.nm 3) (.rg1 (.con (.int 6))) .yes (.cmp .eq (.var 3) (.var 1)))) (.isi (.var 0) [.vErr])))
    .skip)))
def e7 : Tx × Fn × List Tx := ([95, 108, 97, 119, 95, 114, 105, 103, 104, 116], ⟨2, 4, b7, false⟩, [[95, 108, 97, 119, 95, 99, 97, 117, 103, 104, 116, 95, 104, 101, 114, 101], [95, 108, 97, 119, 95, 110, 117, 109, 98, 101, 114, 95, 104, 101, 114, 101], [95, 108, 97, 119, 95, 102, 111, 117, 110, 100], [95, 108, 97, 119, 95, 107]])
/-- row -/
def b8 : Sm :=
    (.seq (.ret (.vand (.isi (.att (.var 0) [114, 111, 119]) [.int]) (.vand (.vnot (.isi (.att (.var 0) [114, 111, 119]) [.bool])) (.cmp .eq (.att (.var 0) [114, 111, 119]) (.var 1)))))
    .skip)
def e8 : Tx × Fn × List Tx := ([95, 108, 97, 119, 95, 114, 111, 119], ⟨2, 2, b8, false⟩, [[95, 108, 97, 119, 95, 99, 97, 117, 103, 104, 116, 95, 104, 101, 114, 101], [95, 108, 97, 119, 95, 114, 111, 119, 95, 104, 101, 114, 101]])
/-- law -/
def b9 : Sm :=
    (.seq (.for (.nm 1) (.rg1 (.bi .max2 (.cons (.con (.int 1)) (.cons (.bi .min2 (.cons (.con (.int 20)) (.cons (.bi .len (.cons (.var 0) .nil)) .nil))) .nil)))) (.seq (.asg (.nm 2) (.cal 0 (.cons (.var 0) (.cons (.var 1) .nil))))
    (.seq (.par (.cons (.nm 4) (.cons (.nm 5) .nil)) (.cons (.lst false (.cons (.cal 5 (.cons (.var 2) .nil)) (.cons (.cal 5 (.cons (.var 2) .nil)) .nil))) (.cons (.lst false (.cons (.cal 6 (.cons (.var 2) .nil)) (.cons (.cal 6 (.cons (.var 2) .nil)) .nil))) .nil)))
    (.seq (.for (.nm 3) (.ipl (.cal 2 (.cons (.var 2) (.cons (.con (.int 6)) .nil)))) (.seq (.asg (.nm 6) (.cal 4 (.cons (.var 3) (.cons (.idx (.var 4) (.con (.int 0))) (.cons (.idx (.var 5) (.con (.int 0))) .nil)))))
    (.seq (.asg (.nm 7) (.cal 4 (.cons (.var 3) (.cons (.idx (.var 4) (.con (.int 1))) (.cons (.idx (.var 5) (.con (.int 1))) .nil)))))
    (.seq (.ife (.tor (.tnot (.tru (.cal 7 (.cons (.var 6) (.cons (.var 3) .nil))))) (.tnot (.tru (.cal 7 (.cons (.var 7) (.cons (.var 3) .nil)))))) (.seq (.ret (.con (.bl false)))
    .skip) .skip)
    (.seq (.ife (.tand (.tru (.cmp .eq (.var 3) (.con (.int 0)))) (.tor (.tnot (.tru (.cal 8 (.cons (.var 6) (.cons (.idx (.var 4) (.con (.int 0))) .nil))))) (.tnot (.tru (.cal 8 (.cons (.var 7) (.cons (.idx (.var 4) (.con (.int 1))) .nil))))))) (.seq (.ret (.con (.bl false)))
    .skip) .skip)
    .skip)))))
    .skip))))
    (.seq (.ret (.con (.bl true)))
    .skip))
def e9 : Tx × Fn × List Tx := ([108, 97, 119], ⟨1, 8, b9, true⟩, [[95, 108, 97, 119, 95, 115, 99, 114, 105, 112, 116], [95, 108, 97, 119, 95, 107], [95, 108, 97, 119, 95, 112, 111, 116, 95, 104, 101, 114, 101], [95, 108, 97, 119, 95, 110, 117, 109, 98, 101, 114, 95, 104, 101, 114, 101], [95, 108, 97, 119, 95, 114, 111, 119, 115], [95, 108, 97, 119, 95, 116, 101, 120, 116, 115], [95, 108, 97, 119, 95, 102, 105, 114, 115, 116], [95, 108, 97, 119, 95, 115, 101, 99, 111, 110, 100]])
def pr : Pr := ⟨[e0, e1, e2, e3, e4, e5, e6, e7, e8, e9], [([84, 97, 108, 107, 69, 114, 114, 111, 114], false, [0]), ([78, 111, 84, 101, 120, 116], true, [1, 0]), ([78, 111, 80, 108, 97, 99, 101], false, [2, 0]), ([78, 111, 68, 101, 101, 100], false, [3, 0]), ([82, 105, 110, 103], false, [4, 0]), ([78, 111, 87, 105, 115, 104], false, [5, 0]), ([78, 111, 82, 111, 119], false, [6, 0])], [114, 111, 119]⟩

end K82

end
section
set_option linter.all false
set_option maxRecDepth 100000
set_option maxHeartbeats 4000000
set_option exponentiation.threshold 5000
namespace K82
open Mi
def T : Tb := pr.T
theorem fn0 : T.fns 0 = some e0.2.1 := rfl
theorem fn1 : T.fns 1 = some e1.2.1 := rfl
theorem fn2 : T.fns 2 = some e2.2.1 := rfl
theorem fn3 : T.fns 3 = some e3.2.1 := rfl
theorem fn4 : T.fns 4 = some e4.2.1 := rfl
theorem fn5 : T.fns 5 = some e5.2.1 := rfl
theorem fn6 : T.fns 6 = some e6.2.1 := rfl
theorem fn7 : T.fns 7 = some e7.2.1 := rfl
theorem fn8 : T.fns 8 = some e8.2.1 := rfl
theorem fn9 : T.fns 9 = some e9.2.1 := rfl

/-- a refusal, caught -/
def exn (k : Nat) (row : Int) : D := .exc (k + 1) (if k = 0 then [.int row] else [])
theorem six {k : Nat} (h : k < 6) {P : Nat → Prop} (h0 : P 0) (h1 : P 1) (h2 : P 2) (h3 : P 3) (h4 : P 4) (h5 : P 5) : P k := by
  match k, h with
  | 0, _ => exact h0
  | 1, _ => exact h1
  | 2, _ => exact h2
  | 3, _ => exact h3
  | 4, _ => exact h4
  | 5, _ => exact h5
theorem caught_ok (n : Nat) (m : M) (row : Int) (s : Tx) {k : Nat} (h : k < 6) : callN T (n + 2) 4 [.int k, .int row, .str s] m = some (.ok (exn k row) m) := six (P := fun k => callN T (n + 2) 4 [.int k, .int row, .str s] m = some (.ok (exn k row) m)) h rfl rfl rfl rfl rfl rfl
theorem right_ok (n : Nat) (m : M) (row : Int) {k : Nat} (h : k < 6) : callN T (n + 1) 7 [exn k row, .int k] m = some (.ok (.bl true) m) := six (P := fun k => callN T (n + 1) 7 [exn k row, .int k] m = some (.ok (.bl true) m)) h rfl rfl rfl rfl rfl rfl
theorem row_ok (n : Nat) (m : M) (row : Int) : callN T (n + 1) 8 [exn 0 row, .int row] m = some (.ok (.bl true) m) := by
  have e : callN T (n + 1) 8 [exn 0 row, .int row] m = some (.ok (.bl (decide (row = row))) m) := rfl
  rw [e, decide_eq_true rfl]
theorem wide_of {b : Int} (h : b.natAbs < 2 ^ 200) : wide b = true := by
  unfold wide
  rw [decide_eq_true_eq]
  exact Nat.lt_of_lt_of_le h (Nat.pow_le_pow_right (by decide) (by decide))
/-- a pot stands there -/
def Pot (m : M) (i : Nat) : Prop := ∃ a b : Int, m[i]? = some (.lst [.int a, .int b]) ∧ 0 ≤ b ∧ b < 2147483647
/-- behind it: that pot alone was changed -/
def Pt (m : M) (i : Nat) (m' : M) : Prop := ∃ a b : Int, m' = m.set i (.lst [.int a, .int b]) ∧ 0 ≤ b ∧ b < 2147483647
theorem Pt.pot {m m' : M} {i : Nat} (h : Pot m i) (p : Pt m i m') : Pot m' i := by
  obtain ⟨a0, b0, h1, _⟩ := h
  obtain ⟨a, b, rfl, h2, h3⟩ := p
  exact ⟨a, b, by rw [List.getElem?_set_self (List.getElem?_eq_some_iff.mp h1).1], h2, h3⟩
theorem Pt.trans {m m' m'' : M} {i : Nat} (p : Pt m i m') (q : Pt m' i m'') : Pt m i m'' := by
  obtain ⟨a, b, rfl, _, _⟩ := p
  obtain ⟨a', b', rfl, h2, h3⟩ := q
  exact ⟨a', b', by rw [List.set_set], h2, h3⟩
theorem take_ok (n : Nat) (m : M) (i : Nat) (h : Pot m i) (k : Int) (h0 : 0 < k) (hk : k ≤ 10 ^ 9) : ∃ d m', callN T (n + 1) 1 [.ref i, .int k] m = some (.ok (.int d) m') ∧ Pt m i m' ∧ 0 ≤ d ∧ d < k := by
  obtain ⟨a, b, hm, hb0, hb1⟩ := h
  have hi := (List.getElem?_eq_some_iff.mp hm).1
  have wk : wide k = true := wide_of (by omega)
  by_cases ha : 0 < a
  · refine ⟨a % k, m.set i (.lst [.int (a / k), .int b]), ?_, ⟨_, _, rfl, hb0, hb1⟩, Int.emod_nonneg _ (by omega), Int.emod_lt_of_pos _ h0⟩
    simp [callN, fn1, e1, b1, exS, start, sb, evC, ev, bnd, item, kvsOf, hm, seqOf, ix, cmp2, D.lt, lift, truth, ha, bin2, h0, wk, asgT, putItem, okk]
  · have hB : 0 ≤ (b * 48271 + 12345) % 2147483647 ∧ (b * 48271 + 12345) % 2147483647 < 2147483647 := ⟨Int.emod_nonneg _ (by decide), Int.emod_lt_of_pos _ (by decide)⟩
    generalize hc : (b * 48271 + 12345) % 2147483647 = c at hB
    have w1 : wide b = true := wide_of (by omega)
    have w2 : wide 48271 = true := by decide
    have w3 : wide (c / 7) = true := wide_of (by omega)
    have w4 : wide (c % 65537 + 3) = true := wide_of (by omega)
    have w5 : wide 7 = true := by decide
    have w6 : wide 5 = true := by decide
    have hs : ∀ x, (m.set i x)[i]? = some x := fun x => List.getElem?_set_self hi
    refine ⟨c / 7 * (c % 65537 + 3) % 1999999973 / 5 % k, m.set i (.lst [.int a, .int c]), ?_, ⟨_, _, rfl, hB.1, hB.2⟩, Int.emod_nonneg _ (by omega), Int.emod_lt_of_pos _ h0⟩
    simp [callN, fn1, e1, b1, exS, start, sb, evC, ev, bnd, item, kvsOf, hm, seqOf, ix, cmp2, D.lt, lift, truth, ha, bin2, h0, wk, asgT, putItem, okk, w1, w2, w3, w4, w5, w6, hc, hs]
theorem number_ok (n : Nat) (m : M) (i : Nat) (h : Pot m i) : ∃ d m', callN T (n + 2) 5 [.ref i] m = some (.ok (.int d) m') ∧ Pt m i m' := by
  obtain ⟨d1, m1, e1', p1, l1, g1⟩ := take_ok n m i h 3 (by decide) (by decide)
  have key : ∀ k : Int, 0 < k → k ≤ 10 ^ 9 → ∃ d m', callN T (n + 1) 1 [.ref i, .int k] m1 = some (.ok (.int d) m') ∧ Pt m i m' := fun k h1 h2 => by
    obtain ⟨d, m', e, p, _⟩ := take_ok n m1 i (p1.pot h) k h1 h2
    exact ⟨d, m', e, p1.trans p⟩
  have hd : d1 = 0 ∨ d1 = 1 ∨ d1 = 2 := by omega
  have w1 : wide 10 = true := by decide
  rcases hd with rfl | rfl | rfl
  · obtain ⟨d, m', e, p⟩ := key 4 (by decide) (by decide)
    refine ⟨d, m', ?_, p⟩
    rw [callN]
    simp [fn5, e5, b5, exS, start, sb, ev, evA, bnd, okk, mk, bin2, w1, lift, e1', e, item, kvsOf, seqOf, ix, line]
  · obtain ⟨d, m', e, p⟩ := key 100 (by decide) (by decide)
    refine ⟨d, m', ?_, p⟩
    rw [callN]
    simp [fn5, e5, b5, exS, start, sb, ev, evA, bnd, okk, mk, bin2, w1, lift, e1', e, item, kvsOf, seqOf, ix, line]
  · obtain ⟨d, m', e, p⟩ := key 1000000000 (by decide) (by decide)
    refine ⟨d, m', ?_, p⟩
    rw [callN]
    simp [fn5, e5, b5, exS, start, sb, ev, evA, bnd, okk, mk, bin2, w1, lift, e1', e, item, kvsOf, seqOf, ix, line]
/-- a comprehension over a range: each turn known -/
theorem lc_range {f : D → M → O (Option D)} {R : M → M → Prop} {P : D → Prop} (h0 : ∀ m, R m m) (tr : ∀ {a b c}, R a b → R b c → R a c) : ∀ (xs acc : List D) (m : M), (∀ x ∈ xs, ∀ m1, R m m1 → ∃ y m2, f x m1 = some (.ok (some y) m2) ∧ R m1 m2 ∧ P y) → ∃ ys m', lcGo f [] xs acc m = some (.ok (acc ++ ys) m') ∧ R m m' ∧ ys.length = xs.length ∧ ∀ y ∈ ys, P y
  | [], acc, m, _ => ⟨[], m, by simp [lcGo, wsOk], h0 m, rfl, by simp⟩
  | x :: r, acc, m, h => by
    obtain ⟨y, m2, e, r2, py⟩ := h x List.mem_cons_self m (h0 m)
    obtain ⟨ys, m', e', r', l', p'⟩ := lc_range h0 tr r (acc ++ [y]) m2 fun x hx m1 r1 => h x (List.mem_cons_of_mem _ hx) m1 (tr r2 r1)
    refine ⟨y :: ys, m', ?_, tr r2 r', by simp [l'], fun z hz => ?_⟩
    · simp only [lcGo, wsOk, List.all_nil, if_true, e, bnd_ok]
      rw [e']
      simp
    · rcases List.mem_cons.mp hz with rfl | hz
      · exact py
      · exact p' z hz
theorem b_add {m : M} {a b : Int} : bin2 m .add (.int a) (.int b) = some (.int (a + b)) := rfl
theorem b_mul {m : M} {a b : Int} (h : wide a = true) (h' : wide b = true) : bin2 m .mul (.int a) (.int b) = some (.int (a * b)) := by simp [bin2, h, h']
theorem b_mod {m : M} {a b : Int} (h : 0 < b) : bin2 m .mod (.int a) (.int b) = some (.int (a % b)) := by simp [bin2, h]
theorem c_lt {m : M} {a b : Int} : cmp2 m .lt (.int a) (.int b) = some (decide (a < b)) := rfl
theorem c_ge {m : M} {a b : Int} : cmp2 m .ge (.int a) (.int b) = some (!decide (a < b)) := rfl
theorem u_abs {m : M} {a : Int} : evBi m .abs [.int a] = some (.int a.natAbs) := by
  show some (D.int _) = _
  congr 2
  split <;> omega
theorem u_int {m : M} {b : Bool} : evBi m .int [.bl b] = some (.int (if b then 1 else 0)) := rfl
theorem u_len {m : M} {is : List Int} : evBi m .len [.scr is] = some (.int is.length) := rfl
theorem p_60 {m : M} : bin2 m .pow (.int 10) (.int 60) = some (.int (10 ^ 60)) := rfl
theorem p_180 {m : M} : bin2 m .pow (.int (10 ^ 60)) (.int 3) = some (.int ((10 ^ 60) ^ 3)) := rfl
theorem p_18 {m : M} : bin2 m .pow (.int 10) (.int 18) = some (.int (10 ^ 18)) := rfl
theorem pot_tail (n : Nat) (m : M) (is : List Int) (k : Nat) (hk : k < 100) (c : Int) (hc : if k < is.length then is[k]? = some c else c = 7 * k + is.length) (hl : is.length ≤ 63) : ∃ a b, callN T (n + 1) 0 [.scr is, .int k] m = some (.ok (.ref m.length) (m ++ [.lst [.int a, .int b]])) ∧ 0 ≤ b ∧ b < 2147483647 := by
  have hg : (10 : Int) ^ 60 ≥ 1 := by decide
  generalize hP : ((10 : Int) ^ 60) ^ 3 = P
  have hP0 : 0 < P := by rw [← hP]; decide
  have hP1 : P.natAbs < 2 ^ 600 := by rw [← hP]; decide
  have w0 : wide 7 = true := by decide
  have wk : wide (k : Int) = true := wide_of (by omega)
  have wb : ∀ x : Bool, wide (if x then 1 else 0) = true := fun x => by cases x <;> decide
  have wg : wide ((c.natAbs : Int) % P) = true := by
    unfold wide
    rw [decide_eq_true_eq]
    have h1 := Int.emod_lt_of_pos (c.natAbs : Int) hP0
    have h2 := Int.emod_nonneg (c.natAbs : Int) (Int.ne_of_gt hP0)
    have h3 : ((c.natAbs : Int) % P).natAbs < 2 ^ 600 := by omega
    exact Nat.lt_of_lt_of_le h3 (Nat.pow_le_pow_right (by decide) (by decide))
  have w79 : wide 7919 = true := by decide
  have wk2 : wide (7919 * (k : Int)) = true := wide_of (by omega)
  generalize hx : (c.natAbs : Int) % 2147483629 + 7919 * (k : Int) * k + 11 = x
  have hxb : 0 ≤ x ∧ x < 2 ^ 40 := by
    have h1 := Int.emod_lt_of_pos (c.natAbs : Int) (b := 2147483629) (by decide)
    have h2 := Int.emod_nonneg (c.natAbs : Int) (b := 2147483629) (by decide)
    have h3 : 7919 * (k : Int) * k ≤ 7919 * 100 * 100 := by
      have h5 : (k : Int) ≤ 100 := by omega
      have h6 : (0 : Int) ≤ k := by omega
      exact Int.mul_le_mul (Int.mul_le_mul (Int.le_refl _) h5 h6 (by decide)) h5 h6 (by decide)
    have h4 : 0 ≤ 7919 * (k : Int) * k := Int.mul_nonneg (Int.mul_nonneg (by decide) (by omega)) (by omega)
    rw [← hx]
    omega
  have wx : wide x = true := wide_of (by omega)
  have wy : wide (x * x % 2147483629) = true := wide_of (by
    have h1 := Int.emod_lt_of_pos (x * x) (b := 2147483629) (by decide)
    have h2 := Int.emod_nonneg (x * x) (b := 2147483629) (by decide)
    omega)
  have w48 : wide 48271 = true := by decide
  refine ⟨(c.natAbs : Int) % P * (if (!decide ((c.natAbs : Int) < 10 ^ 18)) = true then 1 else 0), x * x % 2147483629 * 48271 % 2147483647, ?_, Int.emod_nonneg _ (by decide), Int.emod_lt_of_pos _ (by decide)⟩
  have w18 := wb (!decide ((c.natAbs : Int) < 10 ^ 18))
  generalize hq : (!decide ((c.natAbs : Int) < 10 ^ 18)) = q at *
  rw [callN]
  by_cases hk2 : k < is.length
  · rw [if_pos hk2] at hc
    have hi : (is.map D.int)[k]? = some (D.int c) := by rw [List.getElem?_map, hc]; rfl
    have hkd : decide ((k : Int) < (is.length : Int)) = true := by simpa using hk2
    have hit : item m (.scr is) (.int k) = some (.int c) := by
      show (some (is.map D.int)).bind (fun xs => (ix xs.length k).bind fun j => xs[j]?) = _
      have hix : ix (is.map D.int).length (k : Int) = some k := by unfold ix; rw [List.length_map, if_pos ⟨by omega, by omega⟩]; simp
      rw [Option.bind_some, hix, Option.bind_some, hi]
    simp [fn0, e0, b0, exS, start, sb, evC, ev, evA, bnd, lift, truth, asgT, okk, mk, b_add, b_mul, b_mod, c_lt, c_ge, u_abs, u_int, u_len, p_60, p_180, p_18, w0, wk, wb, wg, w79, wk2, hx, wx, wy, w48, hit, hP, hP0, hk2, line, hq, w18, -Int.reducePow, -Bool.not_eq_eq_eq_not, -decide_not]
  · rw [if_neg hk2] at hc
    have hc' : 7 * (k : Int) + (is.length : Int) = c := hc.symm
    have w7 : wide 7 = true := by decide
    simp [fn0, e0, b0, exS, start, sb, evC, ev, evA, bnd, lift, truth, asgT, okk, mk, b_add, b_mul, b_mod, c_lt, c_ge, u_abs, u_int, u_len, p_60, p_180, p_18, w0, wk, wb, wg, w79, wk2, hx, wx, wy, w48, hc', hP, hP0, hk2, line, hq, w18, -Int.reducePow, -Bool.not_eq_eq_eq_not, -decide_not]
theorem pot_ok (n : Nat) (m : M) (is : List Int) (k : Nat) (hk : k < 100) (hl : is.length ≤ 63) : ∃ m', callN T (n + 1) 0 [.scr is, .int k] m = some (.ok (.ref m.length) m') ∧ Pot m' m.length := by
  obtain ⟨a, b, e, h1, h2⟩ := pot_tail n m is k hk (if h : k < is.length then is[k] else 7 * k + is.length) (by split <;> rename_i h <;> simp [h]) hl
  exact ⟨_, e, a, b, by rw [List.getElem?_append_right (Nat.le_refl _)]; simp, h1, h2⟩
theorem Pt.self {m : M} {i : Nat} (h : Pot m i) : Pt m i m := by
  obtain ⟨a, b, h1, h2, h3⟩ := h
  refine ⟨a, b, ?_, h2, h3⟩
  apply List.ext_getElem?
  intro j
  by_cases hj : i = j
  · subst hj; rw [List.getElem?_set_self (List.getElem?_eq_some_iff.mp h1).1]; exact h1
  · rw [List.getElem?_set_ne hj]
theorem rng_len (k : Int) : (rangeL 0 k).length = k.toNat := by simp [rangeL]
theorem wipe_get0 : True := trivial
theorem asT_ok : ∀ {ys : List D}, (∀ y ∈ ys, ∃ c, y = .str [c]) → ∃ ts, asT ys = some ts ∧ ts.length = ys.length ∧ ∀ t ∈ ts, t.length = 1
  | [], _ => ⟨[], rfl, rfl, by simp⟩
  | y :: r, h => by
    obtain ⟨c, rfl⟩ := h y List.mem_cons_self
    obtain ⟨ts, e, l, q⟩ := asT_ok fun y hy => h y (List.mem_cons_of_mem _ hy)
    refine ⟨[c] :: ts, by simp [asT, e], by simp [l], fun t ht => ?_⟩
    rcases List.mem_cons.mp ht with rfl | ht
    · rfl
    · exact q t ht
theorem sumLen_one : ∀ {ts : List Tx}, (∀ t ∈ ts, t.length = 1) → sumLen ts = ts.length
  | [], _ => rfl
  | t :: r, h => by
    have := sumLen_one fun t ht => h t (List.mem_cons_of_mem _ ht)
    unfold sumLen at this ⊢
    rw [List.map_cons, List.sum_cons, this, h t List.mem_cons_self, List.length_cons]; omega
def signs : Tx := [32, 33, 34, 35, 36, 38, 39, 40, 41, 42, 43, 44, 45, 46, 47, 48, 49, 50, 51, 52, 53, 54, 55, 56, 57, 58, 59, 60, 61, 62, 63, 64, 65, 66, 67, 68, 69, 70, 71, 72, 73, 74, 75, 76, 77, 78, 79, 80, 81, 82, 83, 84, 85, 86, 87, 88, 89, 90, 91, 92, 93, 94, 95, 96, 97, 98, 99, 100, 101, 102, 103, 104, 105, 106, 107, 108, 109, 110, 111, 112, 113, 114, 115, 116, 117, 118, 119, 120, 121, 122, 123, 124, 125, 126]
theorem text_ok (n : Nat) (m : M) (i : Nat) (h : Pot m i) : ∃ s m', callN T (n + 2) 6 [.ref i] m = some (.ok (.str s) m') ∧ Pt m i m' := by
  obtain ⟨d, m1, e1', p1, l1, g1⟩ := take_ok n m i h 13 (by decide) (by decide)
  obtain ⟨ys, m', e2', r2, l2, q2⟩ := lc_range (f := lcF T (callN T (n + 1)) [some (.ref i), some (.str signs), none] [([95, 108, 97, 119, 95, 107], 2)] (.nm 2) .yes (.idx (.var 1) (.cal 1 (.cons (.var 0) (.cons (.bi .len (.cons (.var 1) .nil)) .nil)))))
    (R := fun a b => Pot a i → Pt a i b) (P := fun y => ∃ c, y = .str [c]) (fun m h => Pt.self h) (fun p q h => (p h).trans (q ((p h).pot h))) (rangeL 0 d) [] m1 (fun x hx m2 r2 => by
        obtain ⟨d2, m3, e3, p3, l3, g3⟩ := take_ok n m2 i ((r2 (p1.pot h)).pot (p1.pot h)) 94 (by decide) (by decide)
        have hd : d2.toNat < 94 := by omega
        have hit : item m3 (.str signs) (.int d2) = some (.str [signs[d2.toNat]]) := by
          show ((ix signs.length d2).bind fun j => (signs[j]?).map fun c => D.str [c]) = _
          have : ix signs.length d2 = some d2.toNat := by
            unfold ix
            rw [if_pos ⟨l3, by show d2 < (94 : Int); omega⟩]
          rw [this, Option.bind_some, List.getElem?_eq_getElem (show d2.toNat < signs.length from hd)]
          rfl
        refine ⟨.str [signs[d2.toNat]], m3, ?_, fun _ => p3, _, rfl⟩
        simp [lcF, asgT, slots, wipe, evC, ev, evA, bnd, okk, lift, evBi, lenOf, show (signs.length : Int) = 94 from rfl, e3, hit])
  obtain ⟨ts, t1, t2, t3⟩ := asT_ok q2
  refine ⟨joinT [] ts, m', ?_, p1.trans (r2 (p1.pot h))⟩
  have hI : evI T (callN T (n + 1)) (.rg1 (.cal 1 (.cons (.var 0) (.cons (.con (.int 13)) .nil)))) [some (.ref i), some (.str signs), none] m = some (.ok ⟨rangeL 0 d, []⟩ m1) := by
    have hd : d ≤ 16777216 := by omega
    have hd2 : -1152921504606846976 ≤ d := by omega
    simp [evI, ev, evA, bnd, okk, e1', hd, hd2]
  have hj : evBm m' .join (.str []) [.lst ys] = some (.str (joinT [] ts), m') := by
    have hlen : sumLen ts + ts.length * ([] : Tx).length ≤ line := by
      rw [sumLen_one t3, t2, l2, rng_len]
      show d.toNat + d.toNat * 0 ≤ 16777216
      omega
    show ((asT ys).bind fun ts => if sumLen ts + ts.length * ([] : Tx).length ≤ line then some (D.str (joinT [] ts), m') else none) = _
    rw [t1, Option.bind_some, if_pos hlen]
  refine call_rt fn6 rfl rfl ?_
  refine seq_nx (asg_ok rfl) (seq_nx (asg_ok (d := .str signs) rfl) (seq_rt (ret_ok ?_)))
  exact ev_bm_ok (x := .str []) (m1 := m) (xs := [.lst ys]) rfl rfl (evA_one (ev_lc_ok hI e2')) hj
theorem lcF_ok {T : Tb} {C : Nat → List D → M → O D} {own : List (Tx × Nat)} {t : Tg} {c e : Ex} {Γ Γ' : Env} {m m1 m2 : M} {x y : D} (h1 : asgT m t x (wipe Γ (slots own)) = some Γ') (h2 : evC T C c Γ' m = some (.ok true m1)) (h3 : ev T C e Γ' m1 = some (.ok y m2)) : lcF T C Γ own t c e x m = some (.ok (some y) m2) := by
  unfold lcF; rw [h1]; dsimp only; rw [h2, bnd_ok, if_pos rfl, h3, bnd_ok]
theorem lc_inv {f : D → M → O (Option D)} {I : Nat → M → Prop} {P : D → Prop} : ∀ (xs acc : List D) (m : M) (k : Nat), I k m → (∀ x ∈ xs, ∀ j m1, k ≤ j → j < k + xs.length → I j m1 → ∃ y m2, f x m1 = some (.ok (some y) m2) ∧ I (j + 1) m2 ∧ P y) → ∃ ys m', lcGo f [] xs acc m = some (.ok (acc ++ ys) m') ∧ I (k + xs.length) m' ∧ ys.length = xs.length ∧ ∀ y ∈ ys, P y
  | [], acc, m, k, h, _ => ⟨[], m, by simp [lcGo, wsOk], h, rfl, by simp⟩
  | x :: r, acc, m, k, h0, h => by
    obtain ⟨y, m2, e, r2, py⟩ := h x List.mem_cons_self k m (Nat.le_refl _) (by simp) h0
    obtain ⟨ys, m', e', r', l', p'⟩ := lc_inv r (acc ++ [y]) m2 (k + 1) r2 fun x hx j m1 h1 h2 hi => h x (List.mem_cons_of_mem _ hx) j m1 (by omega) (by rw [List.length_cons]; omega) hi
    refine ⟨y :: ys, m', ?_, by rw [List.length_cons]; rw [show k + (r.length + 1) = k + 1 + r.length from by omega]; exact r', by simp [l'], fun z hz => ?_⟩
    · simp only [lcGo, wsOk, List.all_nil, if_true, e, bnd_ok]
      rw [e']
      simp
    · rcases List.mem_cons.mp hz with rfl | hz
      · exact py
      · exact p' z hz
theorem back_int {m m' : M} : ∀ {ys : List D}, (∀ y ∈ ys, ∃ c : Int, y = .int c) → ∀ g, D.repL g ys = some ys
  | [], _, _ => rfl
  | y :: r, h, g => by
    obtain ⟨c, rfl⟩ := h y List.mem_cons_self
    simp [D.repL, D.rep, back_int (m := m) (m' := m') (fun y hy => h y (List.mem_cons_of_mem _ hy)) g]
/-- the list that is left: so many numbers below six -/
def Left (m : M) (j L : Nat) : Prop := ∃ xs : List D, m[j]? = some (.lst xs) ∧ xs.length = L ∧ ∀ y ∈ xs, ∃ c : Nat, c < 6 ∧ y = .int c
theorem order_ok (n : Nat) (m : M) (i : Nat) (h : Pot m i) : ∃ ys m', callN T (n + 2) 2 [.ref i, .int 6] m = some (.ok (.lst ys) m') ∧ Pot m' i ∧ ∀ y ∈ ys, ∃ c : Nat, c < 6 ∧ y = .int c := by
  have hi : i < m.length := by obtain ⟨a, b, h1, _⟩ := h; exact (List.getElem?_eq_some_iff.mp h1).1
  have hij : i ≠ m.length := Nat.ne_of_lt hi
  let m0 : M := m ++ [.lst (rangeL 0 6)]
  have p0 : Pot m0 i := by
    obtain ⟨a, b, h1, h2, h3⟩ := h
    exact ⟨a, b, by show (m ++ _)[i]? = _; rw [List.getElem?_append_left hi]; exact h1, h2, h3⟩
  have l0 : Left m0 m.length 6 := ⟨rangeL 0 6, by show (m ++ _)[m.length]? = _; rw [List.getElem?_append_right (Nat.le_refl _)]; simp, rfl, fun y hy => by
    have : y ∈ [D.int 0, .int 1, .int 2, .int 3, .int 4, .int 5] := hy
    simp at this
    rcases this with rfl | rfl | rfl | rfl | rfl | rfl
    · exact ⟨0, by decide, rfl⟩
    · exact ⟨1, by decide, rfl⟩
    · exact ⟨2, by decide, rfl⟩
    · exact ⟨3, by decide, rfl⟩
    · exact ⟨4, by decide, rfl⟩
    · exact ⟨5, by decide, rfl⟩⟩
  obtain ⟨ys, m', e2', r2, l2, q2⟩ := lc_inv (f := lcF T (callN T (n + 1)) [some (.ref i), some (.int 6), some (.ref m.length), none] [([95, 108, 97, 119, 95, 107], 3)] (.nm 3) .yes (.bm .pop1 (.var 2) (.cons (.cal 1 (.cons (.var 0) (.cons (.bi .len (.cons (.var 2) .nil)) .nil))) .nil)))
    (I := fun k m' => Pot m' i ∧ Left m' m.length (6 - k)) (P := fun y => ∃ c : Nat, c < 6 ∧ y = .int c) (rangeL 0 6) [] m0 0 ⟨p0, l0⟩ (fun x hx k m1 hk0 hk ⟨p1, xs, x1, x2, x3⟩ => by
      have hk : k < 6 := by rw [show (rangeL 0 6).length = 6 from rfl] at hk; omega
      obtain ⟨d, m2, e3, p3, l3, g3⟩ := take_ok n m1 i p1 xs.length (by omega) (by omega)
      have x1' : m2[m.length]? = some (.lst xs) := by
        obtain ⟨a, b, rfl, _⟩ := p3
        rw [List.getElem?_set_ne hij]; exact x1
      have hd : d.toNat < xs.length := by omega
      have hix : ix xs.length d = some d.toNat := by unfold ix; rw [if_pos ⟨l3, by omega⟩]
      have hj : m.length < m2.length := (List.getElem?_eq_some_iff.mp x1').1
      have hp : evBm m2 .pop1 (.ref m.length) [.int d] = some (xs[d.toNat], m2.set m.length (.lst (xs.eraseIdx d.toNat))) := by
        show (match m2[m.length]? with | some (Ob.lst xs) => (ix xs.length d).bind fun j => (xs[j]?).map fun x => (x, m2.set m.length (.lst (xs.eraseIdx j))) | _ => none) = _
        rw [x1']
        show ((ix xs.length d).bind fun j => (xs[j]?).map fun x => (x, m2.set m.length (.lst (xs.eraseIdx j)))) = _
        rw [hix, Option.bind_some, List.getElem?_eq_getElem hd]
        rfl
      refine ⟨xs[d.toNat], m2.set m.length (.lst (xs.eraseIdx d.toNat)), ?_, ⟨?_, xs.eraseIdx d.toNat, by rw [List.getElem?_set_self hj], by rw [List.length_eraseIdx, if_pos hd]; omega, fun y hy => x3 y (List.mem_of_mem_eraseIdx hy)⟩, x3 _ (List.getElem_mem hd)⟩
      · have hb : bmTy m1 .pop1 (.ref m.length) = true := by
          show (match m1[m.length]? with | some (Ob.lst _) => true | _ => false) = true
          rw [x1]
        have hl : evBi m1 .len [.ref m.length] = some (.int xs.length) := by
          show (lenOf m1 (.ref m.length)).map _ = _
          show (match m1[m.length]? with | some (Ob.lst xs) => some xs.length | some (Ob.dct kvs) => some kvs.length | _ => none).map _ = _
          rw [x1]; rfl
        have hE : ev T (callN T (n + 1)) (.bm .pop1 (.var 2) (.cons (.cal 1 (.cons (.var 0) (.cons (.bi .len (.cons (.var 2) .nil)) .nil))) .nil)) [some (.ref i), some (.int 6), some (.ref m.length), some x] m1 = some (.ok xs[d.toNat] (m2.set m.length (.lst (xs.eraseIdx d.toNat)))) := by
          refine ev_bm_ok (ev_var_ok rfl) hb (evA_one (ev_cal_ok (evA_two (ev_var_ok rfl) ?_) e3)) hp
          simp [ev, evA, okk, lift, hl]
        exact lcF_ok rfl rfl hE
      · obtain ⟨a, b, q1, q2, q3⟩ := p3.pot p1
        exact ⟨a, b, by rw [List.getElem?_set_ne (Ne.symm hij)]; exact q1, q2, q3⟩)
  have hR : exS T (callN T (n + 1)) b2 (start 4 [.ref i, .int 6]) m = some (.rt (.lst ys) m') := by
    refine seq_nx (asg_ok (d := .ref m.length) (m1 := m0) rfl) (seq_rt (ret_ok (ev_lc_ok (w := ⟨rangeL 0 6, []⟩) (m1 := m0) rfl e2')))
  have hb := call_rtz (T := T) (n := n + 1) (k := 2) (ds := [.ref i, .int 6]) (m := m) fn2 rfl rfl hR
  have hy : ∀ g, D.rep g (.lst ys) = some (.lst ys) := fun g => by
    show (D.repL g ys).map D.lst = _
    rw [back_int (m := m) (m' := m') (fun y hy => by obtain ⟨c, _, e⟩ := q2 y hy; exact ⟨c, e⟩) g]; rfl
  rcases back_plain (m := m) (m' := m') hy with e | e
  · refine ⟨ys, m'.take m.length, hb.trans e, ?_, q2⟩
    obtain ⟨a, b, q1, q2, q3⟩ := r2.1
    exact ⟨a, b, by rw [List.getElem?_take_of_lt hi]; exact q1, q2, q3⟩
  · exact ⟨ys, m', hb.trans e, r2.1, q2⟩
def fb : Sm → Sm
  | .for _ _ b => b
  | s => s
def sq1 : Sm → Sm
  | .seq a _ => a
  | s => s
def sq2 : Sm → Sm
  | .seq _ b => b
  | s => s
def B1 : Sm := fb (sq1 b9)
def B2 : Sm := fb (sq1 (sq2 (sq2 B1)))
theorem inner_ok (m : M) (x0 x1 x2 x3 x6 x7 : Option D) (r0 r1 : Int) (s0 s1 : Tx) {c : Nat} (h : c < 6) : forF T (callN T 7) (.nm 3) B2 (.int c) [x0, x1, x2, x3, some (.lst [.int r0, .int r1]), some (.lst [.str s0, .str s1]), x6, x7] m = some (.nx [x0, x1, x2, some (.int c), some (.lst [.int r0, .int r1]), some (.lst [.str s0, .str s1]), some (exn c r0), some (exn c r1)] m) := by
  refine six (P := fun c => forF T (callN T 7) (.nm 3) B2 (.int c) [x0, x1, x2, x3, some (.lst [.int r0, .int r1]), some (.lst [.str s0, .str s1]), x6, x7] m = some (.nx [x0, x1, x2, some (.int c), some (.lst [.int r0, .int r1]), some (.lst [.str s0, .str s1]), some (exn c r0), some (exn c r1)] m)) h ?_ rfl rfl rfl rfl rfl
  let Γ : Env := [x0, x1, x2, some (.int 0), some (.lst [.int r0, .int r1]), some (.lst [.str s0, .str s1]), some (exn 0 r0), some (exn 0 r1)]
  have c1 : ev T (callN T 7) (.cal 8 (.cons (.var 6) (.cons (.idx (.var 4) (.con (.int 0))) .nil))) Γ m = some (.ok (.bl true) m) := ev_cal_ok (evA_two rfl rfl) (row_ok 6 m r0)
  have c2 : ev T (callN T 7) (.cal 8 (.cons (.var 7) (.cons (.idx (.var 4) (.con (.int 1))) .nil))) Γ m = some (.ok (.bl true) m) := ev_cal_ok (evA_two rfl rfl) (row_ok 6 m r1)
  have c0 : ev T (callN T 7) (.cmp .eq (.var 3) (.con (.int 0))) Γ m = some (.ok (.bl true) m) := rfl
  have hT : evC T (callN T 7) (.tand (.tru (.cmp .eq (.var 3) (.con (.int 0)))) (.tor (.tnot (.tru (.cal 8 (.cons (.var 6) (.cons (.idx (.var 4) (.con (.int 0))) .nil))))) (.tnot (.tru (.cal 8 (.cons (.var 7) (.cons (.idx (.var 4) (.con (.int 1))) .nil))))))) Γ m = some (.ok false m) := by
    simp [evC, c0, c1, c2, bnd, okk, lift, truth]
  show exS T (callN T 7) B2 [x0, x1, x2, some (.int 0), some (.lst [.int r0, .int r1]), some (.lst [.str s0, .str s1]), x6, x7] m = _
  refine seq_nx (asg_ok (d := exn 0 r0) (m1 := m) rfl) (seq_nx (asg_ok (d := exn 0 r1) (m1 := m) rfl) (seq_nx (Γ1 := Γ) (m1 := m) rfl (seq_nx (Γ1 := Γ) (m1 := m) ?_ rfl)))
  show sb Γ (evC T (callN T 7) _ Γ m) _ = _
  rw [hT]; rfl
theorem par_ok {T : Tb} {C : Nat → List D → M → O D} {i j : Nat} {es : Ex} {Γ : Env} {m m1 : M} {a b : D} (h : evA T C es Γ m = some (.ok [a, b] m1)) : exS T C (.par (.cons (.nm i) (.cons (.nm j) .nil)) es) Γ m = some (.nx ((Γ.set i (some a)).set j (some b)) m1) := by
  unfold exS; rw [h]; rfl
theorem lst_ok {T : Tb} {C : Nat → List D → M → O D} {es : Ex} {Γ : Env} {m m1 : M} {xs : List D} (h : evA T C es Γ m = some (.ok xs m1)) (hl : xs.length ≤ line) : ev T C (.lst false es) Γ m = some (.ok (.lst xs) m1) := by
  unfold ev; rw [h, bnd_ok, if_pos hl]; rfl
theorem outer_ok (is : List Int) (hl : is.length ≤ 63) (m : M) (k : Nat) (hk : k < 100) (x1 x2 x3 x4 x5 x6 x7 : Option D) : ∃ Γ' m', forF T (callN T 7) (.nm 1) B1 (.int k) [some (.scr is), x1, x2, x3, x4, x5, x6, x7] m = some (.nx Γ' m') ∧ ∃ y1 y2 y3 y4 y5 y6 y7, Γ' = [some (.scr is), y1, y2, y3, y4, y5, y6, y7] := by
  obtain ⟨m1, e1', p1⟩ := pot_ok 6 m is k hk hl
  obtain ⟨r0, m2, q1, t1⟩ := number_ok 5 m1 m.length p1
  have p2 := t1.pot p1
  obtain ⟨r1, m3, q2, t2⟩ := number_ok 5 m2 m.length p2
  have p3 := t2.pot p2
  obtain ⟨s0, m4, q3, t3⟩ := text_ok 5 m3 m.length p3
  have p4 := t3.pot p3
  obtain ⟨s1, m5, q4, t4⟩ := text_ok 5 m4 m.length p4
  have p5 := t4.pot p4
  obtain ⟨ys, m6, q5, p6, hy⟩ := order_ok 5 m5 m.length p5
  obtain ⟨Γ', m', hL, y1, y2, y3, y4, y5, y6, y7, hΓ⟩ := forGo_inv (f := forF T (callN T 7) (.nm 3) B2) (I := fun Γ _ => ∃ y1 y2 y3 y6 y7 r0 s0, Γ = [some (.scr is), y1, y2, y3, some (.lst [.int r0.1, .int r0.2]), some (.lst [.str s0.1, .str s0.2]), y6, y7]) ys
    [some (.scr is), some (.int k), some (.ref m.length), x3, some (.lst [.int r0, .int r1]), some (.lst [.str s0, .str s1]), x6, x7] m6 ⟨_, _, _, _, _, (r0, r1), (s0, s1), rfl⟩ (fun x hx Γ m ⟨y1, y2, y3, y6, y7, r, s, hΓ⟩ => by
      obtain ⟨c, hc, rfl⟩ := hy x hx
      subst hΓ
      exact ⟨_, _, inner_ok m _ _ _ _ _ _ _ _ _ _ hc, _, _, _, _, _, r, s, rfl⟩)
  refine ⟨Γ', m', ?_, ⟨_, _, _, _, _, _, _, hΓ⟩⟩
  show exS T (callN T 7) B1 [some (.scr is), some (.int k), x2, x3, x4, x5, x6, x7] m = _
  refine seq_nx (asg_ok (ev_cal_ok (evA_two (ev_var_ok rfl) (ev_var_ok rfl)) e1')) ?_
  refine seq_nx (par_ok (evA_two (lst_ok (evA_two (ev_cal_ok (evA_one (ev_var_ok rfl)) q1) (ev_cal_ok (evA_one (ev_var_ok rfl)) q2)) (show 2 ≤ 16777216 by decide)) (lst_ok (evA_two (ev_cal_ok (evA_one (ev_var_ok rfl)) q3) (ev_cal_ok (evA_one (ev_var_ok rfl)) q4)) (show 2 ≤ 16777216 by decide)))) ?_
  refine seq_nx (Γ1 := Γ') (m1 := m') ?_ rfl
  rw [for_ok (w := ⟨ys, []⟩) (m1 := m6) (by
    show bnd (ev T (callN T 7) (.cal 2 (.cons (.var 2) (.cons (.con (.int 6)) .nil))) _ m5) _ = _
    rw [ev_cal_ok (evA_two (ev_var_ok rfl) rfl) q5]; rfl)]
  exact hL
theorem good : Good pr 8 9 := by
  intro is hl
  obtain ⟨K, hK, hK2⟩ : ∃ K : Int, evI T (callN T 7) (.rg1 (.bi .max2 (.cons (.con (.int 1)) (.cons (.bi .min2 (.cons (.con (.int 20)) (.cons (.bi .len (.cons (.var 0) .nil)) .nil))) .nil)))) (start 8 [.scr is]) [] = some (.ok ⟨rangeL 0 K, []⟩ []) ∧ K ≤ 20 := by
    let K1 : Int := if (is.length : Int) < 20 then is.length else 20
    let K2 : Int := if K1 > 1 then K1 else 1
    have b : K2 ≤ 20 := by show (if K1 > 1 then K1 else 1) ≤ 20; have : K1 ≤ 20 := by show (if (is.length : Int) < 20 then (is.length : Int) else 20) ≤ 20; split <;> omega
                           split <;> omega
    have b2 : 1 ≤ K2 := by show 1 ≤ (if K1 > 1 then K1 else 1); split <;> omega
    refine ⟨K2, ?_, b⟩
    show (if -(2 ^ 60) ≤ K2 ∧ K2 ≤ 16777216 then okk (It.mk (rangeL 0 K2) []) [] else none) = _
    rw [if_pos ⟨by omega, by omega⟩]
  obtain ⟨Γ', m', hL, _⟩ := forGo_inv (f := forF T (callN T 7) (.nm 1) B1) (I := fun Γ _ => ∃ y1 y2 y3 y4 y5 y6 y7, Γ = [some (.scr is), y1, y2, y3, y4, y5, y6, y7]) (rangeL 0 K) (start 8 [.scr is]) [] ⟨_, _, _, _, _, _, _, rfl⟩ (fun x hx Γ m ⟨y1, y2, y3, y4, y5, y6, y7, hΓ⟩ => by
    subst hΓ
    unfold rangeL at hx
    obtain ⟨k, hk, rfl⟩ := List.mem_map.mp hx
    have hk := List.mem_range.mp hk
    have e : (0 : Int) + (k : Nat) = (k : Int) := by omega
    rw [e]
    exact outer_ok is hl m k (by omega) _ _ _ _ _ _ _)
  have hR : exS T (callN T 7) b9 (start 8 [.scr is]) [] = some (.rt (.bl true) m') := by
    refine seq_nx (Γ1 := Γ') (m1 := m') ?_ (seq_rt (ret_ok rfl))
    rw [for_ok hK]
    exact hL
  have hb := call_rtz (T := T) (n := 7) (k := 9) (ds := [.scr is]) (m := []) fn9 rfl rfl hR
  rcases back_plain (m := []) (m' := m') (d := .bl true) (fun g => rfl) with e | e
  · exact ⟨_, hb.trans e⟩
  · exact ⟨_, hb.trans e⟩
end K82

end
section
open PySem PySem.W PyProof.Rows
set_option Elab.async false
set_option maxRecDepth 100000 in
set_option maxHeartbeats 0 in
theorem PySem.Challenge.cw_answertrees_k82_refusals_made_holds : PySem.Challenge.rw_answertrees_k82_refusals_made.Holds := by
  w_on; o_law; k_head; (case hw => w_witness2)
  k_fill
  refine L2.walk_of (n := 63) (k := 24) (x := "_law_script") (CX := fun w => L2.CX PySem.Challenge.rw_answertrees_k82_refusals_made.prog w) (sp := fun w => Mi.prF ⟨K82.pr.Z (cw_answertrees_k82_refusals_made_holds.heap_39 w.params), []⟩ (Mi.callN K82.pr.T 8) 9) rfl (by decide) rfl ⟨rfl, by decide, by decide⟩ (fun w h Y => PySem.W.kIn_of Y) ?F ?A ?B
  case F =>
    intro w mg fa h hK hG hm
    have hp : Mi.prB K82.pr (cw_answertrees_k82_refusals_made_holds.heap_39 w.params) = true := by kernel_rfl
    have hs : (Mi.adr (cw_answertrees_k82_refusals_made_holds.heap_39 w.params) (Mi.toS K82.e9.1)).isSome = true := by kernel_rfl
    exact Mi.law_F (n := 7) (k := 9) (e := K82.e9) hp hs rfl (by rfl) (by rfl) rfl hK hG hm
  case A => exact fun w H a ns hl hO hS => Mi.law_sp K82.good H a ns hl hO hS
  case B =>
    intro w H s e s' h
    obtain ⟨_, _, _, _, _, _, _, _, _, _, _, _, z⟩ := h
    exact z

end
