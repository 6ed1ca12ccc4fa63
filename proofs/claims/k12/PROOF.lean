import PyProof.Rows.All
import Wide.All
import OpenK.AllK
import Wide.FinOn
import HandS.ForMost
import HandS.IsInst
import HandS.WideBits
import HandS.Wide
import HandS.TupAny
import HandS.Deep
import HandS.Flow
import HandS.TupLe
import HandS.Style
import HandS.Rev
import HandS.Replace
import HandS.TupMul
import HandS.Conv
import KE.SortKeyHeap
import KE.KDictSum
import PyProof.NeKinds
import KE.KUnpackStar
import KE.GoesEnum
import HandS.ExcInit
import HandS.ExcField
import HandS.ExcIs
import HandS.TryOnly
import HandS.ExcOwn
import HandS.Set
import HandS.Strs
import HandS.SetFor
import KE.KExcIs
import HandS.EndBits
import HandS.ClsMeth
import HandS.WordsExc
import HandS.Codes
import PyProof.FitsInt
import PyProof.ReprText
import PySem.Challenge.RW_talkrooms_k12_spots_and_rooms_there
set_option Elab.async false
set_option linter.all false
set_option maxRecDepth 100000
namespace MI
open PySem PyProof.Rows L2

/-! ### data -/
inductive D where
  | non | bl (b : Bool) | int (i : Int) | str (x : List Nat)
  | tup (xs : List D) | lst (xs : List D)
  | dct (ks : List Key) (vs : List D)
  | scr (ns : List Int)
  | loc (l : Nat) | fn (x : Str) | ty (n : String)
  /-- a tuple of the module's constants; a dict whose keys are tuples of ints -/
  | ktup (xs : List D) | dtt (ks : List (List Int)) (vs : List D)
  deriving Inhabited

inductive O where
  | lst (xs : List D)
  | dK (ks : List Key) (vs : List D)
  deriving Inhabited

abbrev Sto := List O
inductive R (α : Type) where
  | ok (a : α) (S : Sto)
  | err
abbrev M (α : Type) := Sto → R α
def R.then {α β : Type} (r : R α) (f : α → M β) : R β := match r with
  | .ok a S => f a S
  | .err => .err
def ret {α : Type} (a : α) : M α := fun S => .ok a S
def fail {α : Type} : M α := fun _ => .err
def bnd {α β : Type} (m : M α) (f : α → M β) : M β := fun S => (m S).then f
def ofO {α : Type} (o : Option α) : M α := fun S => match o with
  | some a => .ok a S
  | none => .err
/-- something looked up in the store -/
def look {α : Type} (f : Sto → Option α) : M α := fun S => match f S with
  | some a => .ok a S
  | none => .err

/-! ### syntax -/
mutual
inductive ME where
  | var (i : Nat)
  | non | bl (b : Bool) | int (i : Int) | str (x : List Nat)
  | glob (x : Str) | fnv (x : Str) | ty (n : String)
  | bin (m : Bool) (op : Operator) (a b : ME)
  | neg (a : ME) | not (a : ME)
  | cmp (a : ME) (op : CmpOp) (b : ME)
  | cmp2 (a : ME) (op : CmpOp) (b : ME) (op' : CmpOp) (c : ME)
  | and (a b : ME) | or (a b : ME)
  | ite (c : MC) (a b : ME)
  | tup (es : List ME) | lst (m : Bool) (es : List ME)
  | dct (m : Bool) (kvs : List MK)
  | idx (a b : ME) | slc (m : Bool) (a : ME) (lo hi : MO) | rev (m : Bool) (a : ME)
  | call (x : Str) (es : List ME) | callv (i : Nat) (es : List ME)
  | blt (m : Bool) (x : Str) (es : List ME)
  | mth (m : Bool) (o : ME) (x : Str) (es : List ME)
  | comp (m : Bool) (own : List Nat) (tg : MG) (it : MT) (cond : MC) (elt : ME)
  | comp2 (m : Bool) (own : List Nat) (tg : MG) (it : MT) (cond : MC) (tg1 : MG) (it1 : MT) (cond1 : MC) (elt : ME)
  | bad
inductive MK where
  | mk (k v : ME)
/-- a slice's end -/
inductive MO where
  | no | at (e : ME)
/-- a test -/
inductive MC where
  | not (a : MC) | and (a b : MC) | or (a b : MC) | ite (c a b : MC) | val (e : ME)
inductive MG where
  | name (i : Nat) | tup (gs : List MG) | stn (m : Bool) (i : Nat) | sub (o i : ME) | bad
/-- what is walked -/
inductive MT where
  | it (a : ME)
end
/-- an except suite's expressions, statements -/
inductive HE where
  | var (i : Nat) | cst (d : D) | fld (f : Str) | isi (ns : List Str)
  | not (a : HE) | and (a b : HE) | or (a b : HE) | eq (a b : HE) | tup (es : List HE) | repr (a : HE) | bad
inductive HS where
  | asg (i : Nat) (e : HE) | ret (e : HE) | ifs (c : HE) (a b : List HS) | pass | bad
inductive MS where
  | asg (t : MG) (e : ME) | par (i j : Nat) (a b : ME)
  | aug (i : Nat) (op : Operator) (e : ME)
  | expr (e : ME)
  | ret (e : ME)
  | ifs (c : MC) (a b : List MS)
  | for (t : MG) (it : MT) (body : List MS)
  | whl (c : MC) (body : List MS)
  | brk | cont | pass | bad
  /-- raise x(es): anc: the class and those above it, fs: the fields' names -/
  | raise (x : Str) (anc fs : List Str) (es : List ME)
  | tryx (body : List MS) (c : Str) (i : Option Nat) (suite : List HS)
  /-- a def's body, asked for the exception that leaves it -/
  | xret (body : List MS)

/-! ### operations on data -/
def tyOf (S : Sto) : D → Option String
  | .non => some "NoneType" | .bl _ => some "bool" | .int _ => some "int" | .str _ => some "str"
  | .tup _ => some "tuple" | .lst _ => some "list" | .dct _ _ => some "dict"
  | .ktup _ => some "tuple"
  | .loc l => match S[l]? with
    | some (.lst _) => some "list"
    | some (.dK _ _) => some "dict"
    | none => none
  | _ => none
def isSub (a b : String) : Bool := a == b || (a == "bool" && b == "int")
def tyNames : List String := ["bool", "int", "str", "tuple", "list", "dict"]

/-- a list's items, mutable or not -/
def listOf (S : Sto) : D → Option (List D)
  | .lst xs => some xs
  | .loc l => match S[l]? with
    | some (.lst xs) => some xs
    | _ => none
  | _ => none
def seqOf (S : Sto) : D → Option (List D)
  | .lst xs => some xs
  | .tup xs => some xs
  | .ktup xs => some xs
  | .scr ns => some (ns.map D.int)
  | .loc l => match S[l]? with
    | some (.lst xs) => some xs
    | _ => none
  | _ => none
def lenOf (S : Sto) : D → Option Nat
  | .str x => some x.length
  | d => (seqOf S d).map List.length
def truthOf (S : Sto) : D → Option Bool
  | .non => some false
  | .bl b => some b
  | .int i => some (i != 0)
  | .str x => if x.length ≤ sizeLine then some (!x.isEmpty) else none
  | d => (seqOf S d).map fun xs => !xs.isEmpty
def toStr (x : List Nat) : Str := ⟨x.toArray⟩
def keyPy : Key → PyData
  | .inl i => .int i
  | .inr x => .str x
mutual
/-- plain data, f: what is mutable -/
def toPyA (f : Nat → Option PyData) : D → Option PyData
  | .non => some .none
  | .bl b => some (.bool b)
  | .int i => some (.int i)
  | .str x => some (.str (toStr x))
  | .tup xs => (toPysA f xs).map .tuple
  | .ktup xs => (toPysA f xs).map .tuple
  | .lst xs => (toPysA f xs).map .list
  | .scr ns => some (.list (ns.map .int))
  | .dct ks vs => (toPysA f vs).map fun ws => .dict ((ks.map keyPy).zip ws)
  | .loc l => f l
  | .fn _ => none
  | .ty _ => none
  | .dtt _ _ => none
def toPysA (f : Nat → Option PyData) : List D → Option (List PyData)
  | [] => some []
  | d :: ds => match toPyA f d, toPysA f ds with
    | some x, some xs => some (x :: xs)
    | _, _ => none
end
def locPy (S : Sto) : Nat → Nat → Option PyData
  | 0, _ => none
  | n + 1, l => match S[l]? with
    | some (.lst xs) => (toPysA (locPy S n) xs).map .list
    | _ => none
/-- plain data, what is mutable as it stands -/
def toPy (S : Sto) (d : D) : Option PyData := toPyA (locPy S 3) d

def cut {α : Type} (xs : List α) (lo hi : Option Int) : List α := (xs.drop (HT.sIx xs.length 0 lo)).take (HT.sIx xs.length xs.length hi - HT.sIx xs.length 0 lo)
/-- a new list: m: mutable -/
def mkList (m : Bool) (xs : List D) : M D := fun S =>
  if xs.length ≤ sizeLine then (if m = true then .ok (.loc S.length) (S ++ [.lst xs]) else .ok (.lst xs) S) else .err
def mkDict (m : Bool) (ks : List Key) (vs : List D) : M D := fun S =>
  if m = true then .ok (.loc S.length) (S ++ [.dK ks vs]) else .ok (.dct ks vs) S
def mkTup (xs : List D) : M D := fun S => if xs.length ≤ sizeLine then .ok (.tup xs) S else .err
def mkStr (x : List Nat) : M D := fun S => if x.length ≤ sizeLine then .ok (.str x) S else .err
def gd {α : Type} (b : Bool) (m : M α) : M α := fun S => if b = true then m S else .err

def binM (m : Bool) (op : Operator) (x y : D) : M D := match op, x, y with
  | .Add, .int i, .int j => ret (.int (i + j))
  | .Add, .str a, .str b => mkStr (a ++ b)
  | .Add, .tup a, .tup b => mkTup (a ++ b)
  | .Add, x, y => bnd (look fun S => listOf S x) fun a => bnd (look fun S => listOf S y) fun b => mkList m (a ++ b)
  | .Sub, .int i, .int j => ret (.int (i - j))
  | .Mult, .int i, .int j => gd (decide ((Builtin.Int.intBits i : Int) + (Builtin.Int.intBits j : Int) ≤ 134217728)) (ret (.int (i * j)))
  | .Mult, .str a, .int k => gd (decide (0 ≤ k ∧ k ≤ 1000000 ∧ a.length * k.toNat ≤ sizeLine)) (ret (.str (List.replicate k.toNat a).flatten))
  | .Mult, .tup a, .int k => gd (decide (2 ≤ k ∧ k ≤ 1000 ∧ 0 < a.length ∧ a.length ≤ 1000)) (ret (.tup (List.replicate k.toNat a).flatten))
  | .Mult, x, .int k => gd (decide (-(2 ^ 62) ≤ k ∧ k ≤ 2 ^ 62)) (bnd (look fun S => listOf S x) fun a => mkList m (List.replicate k.toNat a).flatten)
  | .Mod, .int i, .int j => gd (decide (0 < j)) (ret (.int (i % j)))
  | .FloorDiv, .int i, .int j => gd (decide (0 < j ∧ j.natAbs.log2 < 9000)) (ret (.int (i / j)))
  | .Pow, .int i, .int j => gd (decide (0 ≤ j ∧ j ≤ 1000000 ∧ i.natAbs < 2 ^ 64)) (ret (.int (i ^ j.toNat)))
  | _, _, _ => fail

def isNon : D → Bool
  | .non => true
  | _ => false
def flatD : D → Bool
  | .non => true | .bl _ => true | .int _ => true | .str _ => true
  | _ => false
def eqD : D → D → Bool
  | .non, .non => true
  | .bl a, .bl b => a == b
  | .bl a, .int b => (if a then 1 else 0) == b
  | .int a, .bl b => a == (if b then 1 else 0)
  | .int a, .int b => a == b
  | .str a, .str b => a == b
  | _, _ => false
def ltS (a b : List Nat) : Bool := decide (a < b)
/-- two lists, the second of no items -/
def emptyL : PyData → PyData → Bool
  | .list _, .list [] => true
  | _, _ => false
def eqM (x y : D) : M Bool := bnd (look fun S => toPy S x) fun a => bnd (look fun S => toPy S y) fun b => gd ((SeqAt.shaped a && SeqAt.shaped b) || emptyL a b) (ret (PyData.eqv a b))
def itemsP : PyData → Option (List PyData)
  | .list ds => some ds
  | .tuple ds => some ds
  | _ => none
/-- a tuple in a list, a tuple of data -/
def inTM (x y : D) : M Bool := bnd (look fun S => toPy S x) fun p => bnd (look fun S => toPy S y) fun q => gd (SeqAt.shaped p && SeqAt.shaped q) (bnd (ofO (itemsP q)) fun ds => ret (ds.any fun z => PyData.eqv z p))
/-- x in y -/
def inM (x y : D) : M Bool := match x, y with
  | .str [c], .str z => ret (decide (c ∈ z))
  | .tup a, y => inTM (.tup a) y
  | x, y => bnd (look fun S => seqOf S y) fun ys => gd (flatD x && ys.all flatD) (ret (ys.any fun y => eqD y x))
def cmpB (op : CmpOp) (x y : D) : M Bool := match op, x, y with
  | .Is, x, .non => ret (isNon x)
  | .IsNot, x, .non => ret (!isNon x)
  | .Is, .bl a, .bl b => ret (decide (a = b))
  | .IsNot, .bl a, .bl b => ret (!decide (a = b))
  | .Lt, .int i, .int j => ret (decide (i < j))
  | .LtE, .int i, .int j => ret (decide (i ≤ j))
  | .Gt, .int i, .int j => ret (decide (j < i))
  | .GtE, .int i, .int j => ret (decide (j ≤ i))
  | .Lt, .str i, .str j => ret (ltS i j)
  | .Eq, .str a, .str b => ret (a == b)
  | .NotEq, .str a, .str b => ret (!(a == b))
  | .Eq, x, y => eqM x y
  | .NotEq, x, y => bnd (eqM x y) fun b => ret (!b)
  | .In, x, y => inM x y
  | .NotIn, x, y => bnd (inM x y) fun b => ret (!b)
  | _, _, _ => fail
def cmpM (op : CmpOp) (x y : D) : M D := bnd (cmpB op x y) fun b => ret (.bl b)

def keyD : D → Option Key
  | .int i => some (.inl i)
  | .str z => some (.inr (toStr z))
  | _ => none
def intsOf : List D → Option (List Int)
  | [] => some []
  | .int i :: r => (intsOf r).map (i :: ·)
  | _ :: _ => none
/-- a key's value -/
def valD {κ : Type} [DecidableEq κ] (kvs : List (κ × D)) (k : κ) : Option D := (kvs.find? fun kv => decide (kv.1 = k)).map (·.2)
def ix0M (x y : D) : M D := match x, y with
  | .str z, .int i => gd (decide (z.length ≤ sizeLine)) (bnd (ofO (atI z i)) fun c => ret (.str [c]))
  | x, .int i => bnd (look fun S => seqOf S x) fun xs => ofO (atI xs i)
  | _, _ => fail
def dgetM (ks : List Key) (vs : List D) (y : D) : M D := bnd (ofO (keyD y)) fun k => ofO (valD (ks.zip vs) k)
def tgetM (ks : List (List Int)) (vs : List D) : D → M D
  | .tup ys => bnd (ofO (intsOf ys)) fun k => ofO (valD (ks.zip vs) k)
  | _ => fail
def idxM (x y : D) : M D := match x with
  | .dct ks vs => dgetM ks vs y
  | .dtt ks vs => tgetM ks vs y
  | x => ix0M x y
def revM (m : Bool) (x : D) : M D := match x with
  | .tup xs => ret (.tup xs.reverse)
  | x => bnd (look fun S => listOf S x) fun xs => mkList m xs.reverse
def slcM (m : Bool) (x : D) (l h : Option Int) : M D := match x with
  | .str z => gd (decide (z.length ≤ sizeLine)) (ret (.str (cut z l h)))
  | .tup xs => ret (.tup (cut xs l h))
  | .scr ns => mkList m (cut (ns.map D.int) l h)
  | x => bnd (look fun S => listOf S x) fun xs => mkList m (cut xs l h)

def boolsOf : List D → Option (List Bool)
  | [] => some []
  | .bl b :: r => (boolsOf r).map (b :: ·)
  | _ :: _ => none
def strsOf : List D → Option (List (List Nat))
  | [] => some []
  | .str b :: r => (strsOf r).map (b :: ·)
  | _ :: _ => none

def lenM : List D → M D
  | [a] => bnd (look fun S => lenOf S a) fun n => gd (decide (n ≤ sizeLine)) (ret (.int n))
  | _ => fail
def intM : List D → M D
  | [.int i] => ret (.int i)
  | [.bl b] => ret (.int (if b then 1 else 0))
  | _ => fail
def allM : List D → M D
  | [a] => bnd (look fun S => (listOf S a).bind boolsOf) fun bs => ret (.bl (bs.all id))
  | _ => fail
def anyM : List D → M D
  | [a] => bnd (look fun S => (listOf S a).bind boolsOf) fun bs => ret (.bl (bs.any id))
  | _ => fail
def reprM : List D → M D
  | [x] => bnd (look fun S => toPy S x) fun d => gd (PyData.showable d && decide (d.shown.length ≤ sizeLine) && decide (d.depth ≤ 64)) (ret (.str d.shown.cps.toList))
  | _ => fail
def tupM : List D → M D
  | [.tup xs] => ret (.tup xs)
  | [a] => bnd (look fun S => listOf S a) fun xs => mkTup xs
  | _ => fail
def lstM (m : Bool) : List D → M D
  | [a] => bnd (look fun S => seqOf S a) fun xs => mkList m xs
  | _ => fail
def isiM : List D → M D
  | [a, .ty n] => bnd (look fun S => tyOf S a) fun t => gd (tyNames.contains n) (ret (.bl (isSub t n)))
  | _ => fail
/-- pairs of tuples of ints and what they bring -/
def pairsOf : List D → Option (List (List Int × D))
  | [] => some []
  | .tup [.tup ys, v] :: r => match intsOf ys, pairsOf r with
    | some k, some ps => some ((k, v) :: ps)
    | _, _ => none
  | _ :: _ => none
def dicM : List D → M D
  | [a] => bnd (look fun S => (listOf S a).bind pairsOf) fun ps => gd (decide (ps.length ≤ sizeLine) && decide ((ps.map (·.1)).Nodup)) (ret (.dtt (ps.map (·.1)) (ps.map (·.2))))
  | _ => fail
def minM : List D → M D
  | [.int i, .int j] => ret (.int (if j < i then j else i))
  | _ => fail
def maxM : List D → M D
  | [.int i, .int j] => ret (.int (if j > i then j else i))
  | _ => fail
/-! ### sorted -/
/-- plain data that holds nothing mutable -/
def pyOf (d : D) : PyData := (toPyA (fun _ => none) d).getD .none
def isTP : PyData → Bool
  | .tuple _ => true
  | _ => false
def isTN : PyData → Bool
  | .tuple (_ :: _) => true
  | _ => false
def notTN : PyData → Bool
  | .tuple _ => false
  | .none => false
  | _ => true
def emptyHead : List PyData → Bool
  | .tuple [] :: r => r.all isTP
  | _ => false
def sortsOk (ps : List PyData) : Bool := (ps.all fun p => ps.all fun q => PySem.W.alike p q) && (ps.all isTN || ps.all notTN || emptyHead ps) && ps.all fun p => decide (p.depth ≤ 60)
/-- the items of what is sorted -/
def itemsK (S : Sto) : D → Option (List D)
  | .dtt ks _ => some (ks.map fun k => .tup (k.map D.int))
  | d => seqOf S d
def sortM (m : Bool) : List D → M D
  | [x] => bnd (look fun S => itemsK S x) fun xs => bnd (ofO (toPysA (fun _ => none) xs)) fun ps => gd (sortsOk ps) (mkList m (xs.mergeSort (PySem.W.dataLe false pyOf)))
  | _ => fail
def leL (a b : List Nat) : Bool := decide (a ≤ b)
/-- each once -/
def dd : List (List Nat) → List (List Nat)
  | [] => []
  | x :: xs => if x ∈ xs then dd xs else x :: dd xs
/-- sorted(set(xs)) of texts -/
def ssort (xs : List (List Nat)) : List (List Nat) := (dd xs).mergeSort leL
def ssetM (m : Bool) : List D → M D
  | [x] => bnd (look fun S => (listOf S x).bind strsOf) fun us => gd (decide (us.length ≤ 1000)) (mkList m ((ssort us).map .str))
  | _ => fail
def evens {α : Type} : List α → List α
  | [] => []
  | [x] => [x]
  | x :: _ :: r => x :: evens r
/-- xs[::2], xs[1::2] -/
def stepM (m : Bool) (k : Nat) : List D → M D
  | [x] => bnd (look fun S => listOf S x) fun xs => mkList m (evens (xs.drop k))
  | _ => fail
def isTupD : D → Bool
  | .tup _ => true
  | _ => false
def tupLn : D → PyData
  | .tup ys => .int ys.length
  | _ => .int 0
/-- sorted(x, key=len, reverse=True) -/
def sortLM (m : Bool) : List D → M D
  | [x] => bnd (look fun S => itemsK S x) fun xs => gd (xs.all isTupD) (mkList m (xs.mergeSort (PySem.W.dataLe true tupLn)))
  | _ => fail
def bltM (m : Bool) (x : Str) (vs : List D) : M D :=
  if x = ("len" : Str) then lenM vs
  else if x = ("int" : Str) then intM vs
  else if x = ("all" : Str) then allM vs
  else if x = ("any" : Str) then anyM vs
  else if x = ("repr" : Str) then reprM vs
  else if x = ("tuple" : Str) then tupM vs
  else if x = ("list" : Str) then lstM m vs
  else if x = ("isinstance" : Str) then isiM vs
  else if x = ("min" : Str) then minM vs
  else if x = ("max" : Str) then maxM vs
  else if x = ("dict" : Str) then dicM vs
  else if x = ("sorted" : Str) then sortM m vs
  else if x = ("sorted len" : Str) then sortLM m vs
  else if x = ("sorted set" : Str) then ssetM m vs
  else if x = ("evens 0" : Str) then stepM m 0 vs
  else if x = ("evens 1" : Str) then stepM m 1 vs
  else fail

def joinS (a : List Nat) (ys : List (List Nat)) : List Nat := (Txt.join (toStr a) (ys.map toStr)).cps.toList

/-- a mutable list is stored -/
def putL (l : Nat) (xs : List D) : M D := fun S => if xs.length ≤ sizeLine then .ok .non (S.set l (.lst xs)) else .err
def locL : D → M (Nat × List D)
  | .loc l => fun S => match S[l]? with
    | some (.lst xs) => .ok (l, xs) S
    | _ => .err
  | _ => fail
def upS (x : List Nat) : List Nat := (Txt.upper (toStr x)).cps.toList
def loS (x : List Nat) : List Nat := (Txt.lower (toStr x)).cps.toList
def appM (o : D) : List D → M D
  | [a] => bnd (locL o) fun p => putL p.1 (p.2 ++ [a])
  | _ => fail
def extM (o : D) : List D → M D
  | [a] => bnd (locL o) fun p => bnd (look fun S => listOf S a) fun ys => putL p.1 (p.2 ++ ys)
  | _ => fail
def popM (o : D) : List D → M D
  | [] => bnd (locL o) fun p => bnd (ofO p.2.getLast?) fun y => bnd (putL p.1 p.2.dropLast) fun _ => ret y
  | [.int i] => gd (decide (-(2 ^ 63) ≤ i ∧ i < 2 ^ 63)) (bnd (locL o) fun p => bnd (ofO (ixN p.2.length i)) fun j => bnd (ofO p.2[j]?) fun y => bnd (putL p.1 (p.2.eraseIdx j)) fun _ => ret y)
  | _ => fail
def splitS (z b : List Nat) : List (List Nat) := (Txt.split (toStr z) (toStr b)).map fun w => w.cps.toList
def splM (m : Bool) : D → List D → M D
  | .str z, [.str b] => gd (!b.isEmpty && decide (z.length + 2 ≤ sizeLine)) (mkList m ((splitS z b).map .str))
  | _, _ => fail
def findS (z b : List Nat) : Option Nat := (Builtin.Str.occurrences (toStr z) (toStr b) 0 z.length 1).head?
def sinM : D → List D → M D
  | .str z, [.str b] => bnd (ofO (findS z b)) fun i => ret (.int (i : Nat))
  | _, _ => fail
def uppM : D → List D → M D
  | .str z, [] => gd (decide (z.length ≤ 5592405)) (ret (.str (upS z)))
  | _, _ => fail
def lowM : D → List D → M D
  | .str z, [] => gd (decide (z.length ≤ 5592405)) (ret (.str (loS z)))
  | _, _ => fail
def joiM : D → List D → M D
  | .str z, [a] => bnd (look fun S => (listOf S a).bind strsOf) fun ys => gd (decide ((ys.map List.length).sum + ys.length * z.length ≤ sizeLine)) (ret (.str (joinS z ys)))
  | _, _ => fail
/-- d.get(k), d.get(k, x) -/
def getM : D → List D → M D
  | .dct ks vs, [y] => bnd (ofO (keyD y)) fun k => ret ((valD (ks.zip vs) k).getD .non)
  | .dct ks vs, [y, z] => bnd (ofO (keyD y)) fun k => ret ((valD (ks.zip vs) k).getD z)
  | _, _ => fail
/-- a method of a built-in type t -/
def mthM (m : Bool) (t : String) (o : D) (x : Str) (vs : List D) : M D :=
  if t = "list" then (if x = ("append" : Str) then appM o vs else if x = ("extend" : Str) then extM o vs else if x = ("pop" : Str) then popM o vs else fail)
  else if t = "str" then (if x = ("upper" : Str) then uppM o vs else if x = ("lower" : Str) then lowM o vs else if x = ("join" : Str) then joiM o vs else if x = ("split" : Str) then splM m o vs else if x = ("index" : Str) then sinM o vs else fail)
  else if t = "dict" then (if x = ("get" : Str) then getM o vs else fail)
  else fail

def setM (o i v : D) : M Unit := match i with
  | .int k => bnd (locL o) fun p => match ixN p.2.length k with
    | some j => bnd (putL p.1 (p.2.set j v)) fun _ => ret ()
    | none => fail
  | _ => fail

/-! ### environments -/
abbrev Env := List (Option D)
def getV (σ : Env) (i : Nat) : Option D := (σ[i]?).join
def wipeD (σ : Env) : List Nat → Env
  | [] => σ
  | v :: vs => (wipeD σ vs).set v none

/-- what is walked: items as they stand, or a mutable list -/
inductive It where
  | items (ds : List D)
  | live (l : Nat)
def intsUp (lo : Int) : Nat → List D
  | 0 => []
  | n + 1 => .int lo :: intsUp (lo + 1) n
def enumD (i : Nat) : List D → List D
  | [] => []
  | d :: ds => .tup [.int i, d] :: enumD (i + 1) ds
def itOf (d : D) : M It := match d with
  | .tup xs => ret (.items xs)
  | .lst xs => ret (.items xs)
  | .scr ns => ret (.items (ns.map D.int))
  | .ktup xs => ret (.items xs)
  | .dtt ks _ => ret (.items (ks.map fun k => .tup (k.map D.int)))
  | .str x => ret (.items (x.map fun c => .str [c]))
  | .loc l => bnd (look fun S => listOf S (.loc l)) fun _ => ret (.live l)
  | _ => fail
def rngM (lo hi : D) : M It := match lo, hi with
  | .int a, .int b => gd (decide (-(2 ^ 62) ≤ a ∧ a < 2 ^ 62 ∧ -(2 ^ 62) ≤ b ∧ b < 2 ^ 62)) (ret (.items (intsUp a (b - a).toNat)))
  | _, _ => fail

def intsBy (lo c : Int) : Nat → List D
  | 0 => []
  | n + 1 => .int lo :: intsBy (lo + c) c n
def rng3M (lo hi st : D) : M It := match lo, hi, st with
  | .int a, .int b, .int c => gd (decide (c ≠ 0 ∧ c.natAbs < 1073741824) && Builtin.Range.small a b c && decide (0 ≤ Builtin.Range.rangeSize a b c)) (ret (.items (intsBy a c (Builtin.Range.rangeSize a b c).toNat)))
  | _, _, _ => fail
/-- the items that are unpacked -/
def unpOf (S : Sto) : D → Option (List D)
  | .str x => some (x.map fun c => .str [c])
  | .scr _ => none
  | d => seqOf S d
def starAt : List MG → Option (Nat × Bool)
  | [] => none
  | .stn m _ :: _ => some (0, m)
  | _ :: gs => (starAt gs).map fun p => (p.1 + 1, p.2)
def itBlt (m : Bool) (x : Str) (vs : List D) : M It :=
  if x = ("range" : Str) then (match vs with
    | [b] => rngM (.int 0) b
    | [a, b] => rngM a b
    | [a, b, c] => rng3M a b c
    | _ => fail)
  else if x = ("enumerate" : Str) then (match vs with
    | [.lst xs] => ret (.items (enumD 0 xs))
    | [.tup xs] => ret (.items (enumD 0 xs))
    | _ => fail)
  else if x = ("reversed" : Str) then (match vs with
    | [.lst xs] => ret (.items xs.reverse)
    | [.tup xs] => ret (.items xs.reverse)
    | _ => fail)
  else bnd (bltM m x vs) itOf

/-- a comprehension's turns: f one turn: its item, if it is taken -/
def compL (f : D → M (Option D)) : List D → List D → M (List D)
  | [], acc => ret acc
  | d :: ds, acc => bnd (f d) fun o => match o with
    | some y => gd (decide (acc.length < sizeLine)) (compL f ds (acc ++ [y]))
    | none => compL f ds acc
/-- .. over a mutable list: n turns at most -/
def compLive (f : D → M (Option D)) (l : Nat) : Nat → Nat → List D → M (List D)
  | 0, _, _ => fail
  | n + 1, i, acc => bnd (look fun S => listOf S (.loc l)) fun xs => match xs[i]? with
    | none => ret acc
    | some d => bnd (f d) fun o => match o with
      | some y => gd (decide (acc.length < sizeLine)) (compLive f l n (i + 1) (acc ++ [y]))
      | none => compLive f l n (i + 1) acc
def turnsMost : Nat := 100000
/-- turns that go on a list -/
def compF (f : D → List D → M (List D)) : List D → List D → M (List D)
  | [], acc => ret acc
  | d :: ds, acc => bnd (f d acc) fun acc => compF f ds acc

abbrev Cf := Str → List D → M D
mutual
def gSlots : MG → List Nat
  | .name i => [i]
  | .stn _ i => [i]
  | .tup gs => gsSlots gs
  | .sub _ _ => []
  | .bad => []
def gsSlots : List MG → List Nat
  | [] => []
  | g :: gs => gSlots g ++ gsSlots gs
end
/-! ### the evaluator -/
mutual
def evE (cf : Cf) (gl : Str → Option D) (σ : Env) : ME → M D
  | .var i => ofO (getV σ i)
  | .non => ret .non
  | .bl b => ret (.bl b)
  | .int i => ret (.int i)
  | .str x => ret (.str x)
  | .glob x => ofO (gl x)
  | .fnv x => ret (.fn x)
  | .ty n => ret (.ty n)
  | .bin m op a b => bnd (evE cf gl σ a) fun x => bnd (evE cf gl σ b) fun y => binM m op x y
  | .neg a => bnd (evE cf gl σ a) fun x => match x with
    | .int i => ret (.int (-i))
    | _ => fail
  | .not a => bnd (evE cf gl σ a) fun x => bnd (look fun S => truthOf S x) fun b => ret (.bl (!b))
  | .cmp a op b => bnd (evE cf gl σ a) fun x => bnd (evE cf gl σ b) fun y => cmpM op x y
  | .cmp2 a op b op' c => bnd (evE cf gl σ a) fun x => bnd (evE cf gl σ b) fun y => bnd (cmpB op x y) fun k =>
      if k = true then bnd (evE cf gl σ c) fun z => cmpM op' y z else ret (.bl false)
  | .and a b => bnd (evE cf gl σ a) fun x => bnd (look fun S => truthOf S x) fun k => if k = true then evE cf gl σ b else ret x
  | .or a b => bnd (evE cf gl σ a) fun x => bnd (look fun S => truthOf S x) fun k => if k = true then ret x else evE cf gl σ b
  | .ite c a b => bnd (evT cf gl σ c) fun k => if k = true then evE cf gl σ a else evE cf gl σ b
  | .tup es => bnd (evEs cf gl σ es) mkTup
  | .lst m es => bnd (evEs cf gl σ es) (mkList m)
  | .dct m kvs => bnd (evKs cf gl σ kvs) fun p => gd (decide ((p.map (·.1)).Nodup)) (mkDict m (p.map (·.1)) (p.map (·.2)))
  | .idx a b => bnd (evE cf gl σ a) fun x => bnd (evE cf gl σ b) fun y => idxM x y
  | .slc m a lo hi => bnd (evE cf gl σ a) fun x => bnd (evO cf gl σ lo) fun l => bnd (evO cf gl σ hi) fun h => slcM m x l h
  | .rev m a => bnd (evE cf gl σ a) fun x => revM m x
  | .call x es => bnd (evEs cf gl σ es) fun vs => cf x vs
  | .callv i es => bnd (ofO (getV σ i)) fun f => match f with
    | .fn x => bnd (evEs cf gl σ es) fun vs => cf x vs
    | _ => fail
  | .blt m x es => bnd (evEs cf gl σ es) fun vs => bltM m x vs
  | .mth m o x es => bnd (evE cf gl σ o) fun v => bnd (look fun S => tyOf S v) fun t => bnd (evEs cf gl σ es) fun vs => mthM m t v x vs
  | .comp m own tg it cond elt => bnd (evI cf gl σ it) fun t =>
      let turn : D → M (Option D) := fun d => bnd (evG cf gl (wipeD σ own) tg d) fun σ2 => bnd (evT cf gl σ2 cond) fun k =>
        if k = true then bnd (evE cf gl σ2 elt) fun y => ret (some y) else ret none
      match t with
      | .items ds => bnd (compL turn ds []) (mkList m)
      | .live l => bnd (compLive turn l turnsMost 0 []) (mkList m)
  | .comp2 m own tg it cond tg1 it1 cond1 elt => bnd (evI cf gl σ it) fun t =>
      let turn : D → List D → M (List D) := fun d acc => bnd (evG cf gl (wipeD σ own) tg d) fun σ2 => bnd (evT cf gl σ2 cond) fun k =>
        if k = true then bnd (evI cf gl σ2 it1) fun t1 => match t1 with
          | .items ds1 => compL (fun d1 => bnd (evG cf gl (wipeD σ2 (gSlots tg1)) tg1 d1) fun σ3 => bnd (evT cf gl σ3 cond1) fun k1 =>
              if k1 = true then bnd (evE cf gl σ3 elt) fun y => ret (some y) else ret none) ds1 acc
          | .live _ => fail
        else ret acc
      match t with
      | .items ds => bnd (compF turn ds []) (mkList m)
      | .live _ => fail
  | .bad => fail
def evEs (cf : Cf) (gl : Str → Option D) (σ : Env) : List ME → M (List D)
  | [] => ret []
  | e :: es => bnd (evE cf gl σ e) fun x => bnd (evEs cf gl σ es) fun xs => ret (x :: xs)
def evO (cf : Cf) (gl : Str → Option D) (σ : Env) : MO → M (Option Int)
  | .no => ret none
  | .at e => bnd (evE cf gl σ e) fun x => match x with
    | .int i => ret (some i)
    | _ => fail
/-- one entry, or none, of a dict display -/
def evKs (cf : Cf) (gl : Str → Option D) (σ : Env) : List MK → M (List (Key × D))
  | [] => ret []
  | .mk k v :: kvs => bnd (evE cf gl σ k) fun x => bnd (evE cf gl σ v) fun y => bnd (evKs cf gl σ kvs) fun r => match x with
    | .int i => ret ((.inl i, y) :: r)
    | .str z => ret ((.inr (toStr z), y) :: r)
    | _ => fail
def evT (cf : Cf) (gl : Str → Option D) (σ : Env) : MC → M Bool
  | .not a => bnd (evT cf gl σ a) fun k => ret (!k)
  | .and a b => bnd (evT cf gl σ a) fun k => if k = true then evT cf gl σ b else ret false
  | .or a b => bnd (evT cf gl σ a) fun k => if k = true then ret true else evT cf gl σ b
  | .ite c a b => bnd (evT cf gl σ c) fun k => if k = true then evT cf gl σ a else evT cf gl σ b
  | .val e => bnd (evE cf gl σ e) fun x => look fun S => truthOf S x
def evI (cf : Cf) (gl : Str → Option D) (σ : Env) : MT → M It
  | .it (.blt m x es) => bnd (evEs cf gl σ es) fun vs => itBlt m x vs
  | .it a => bnd (evE cf gl σ a) itOf
def evG (cf : Cf) (gl : Str → Option D) (σ : Env) : MG → D → M Env
  | .name i, d => ret (σ.set i (some d))
  | .stn _ i, d => ret (σ.set i (some d))
  | .tup gs, d => bnd (look fun S => unpOf S d) fun xs => gd (decide (xs.length ≤ sizeLine)) (match starAt gs with
    | none => if xs.length = gs.length then evGs cf gl σ gs xs else fail
    | some (k, m) => if gs.length ≤ xs.length + 1 then
        bnd (mkList m ((xs.drop k).take (xs.length + 1 - gs.length))) fun r => evGs cf gl σ gs (xs.take k ++ r :: xs.drop (k + (xs.length + 1 - gs.length)))
      else fail)
  | .sub o i, d => bnd (evE cf gl σ o) fun x => bnd (evE cf gl σ i) fun y => bnd (setM x y d) fun _ => ret σ
  | .bad, _ => fail
def evGs (cf : Cf) (gl : Str → Option D) (σ : Env) : List MG → List D → M Env
  | [], [] => ret σ
  | g :: gs, d :: ds => bnd (evG cf gl σ g d) fun σ2 => evGs cf gl σ2 gs ds
  | _, _ => fail
end

/-! ### statements -/
inductive Fl where
  | nx | brk | cont | ret (d : D)
abbrev SR := M (Fl × Env)
/-- a loop over items: f one turn -/
def forL (f : D → Env → SR) : List D → Env → SR
  | [], σ => ret (.nx, σ)
  | d :: ds, σ => bnd (f d σ) fun r => match r.1 with
    | .nx => forL f ds r.2
    | .cont => forL f ds r.2
    | .brk => ret (.nx, r.2)
    | .ret v => ret (.ret v, r.2)
def forLive (f : D → Env → SR) (l : Nat) : Nat → Nat → Env → SR
  | 0, _, _ => fail
  | n + 1, i, σ => bnd (look fun S => listOf S (.loc l)) fun xs => match xs[i]? with
    | none => ret (.nx, σ)
    | some d => bnd (f d σ) fun r => match r.1 with
      | .nx => forLive f l n (i + 1) r.2
      | .cont => forLive f l n (i + 1) r.2
      | .brk => ret (.nx, r.2)
      | .ret v => ret (.ret v, r.2)
def whileL (c : Env → M Bool) (f : Env → SR) : Nat → Env → SR
  | 0, _ => fail
  | n + 1, σ => bnd (c σ) fun k => if k = true then bnd (f σ) fun r => (match r.1 with
      | .nx => whileL c f n r.2
      | .cont => whileL c f n r.2
      | .brk => ret (.nx, r.2)
      | .ret v => ret (.ret v, r.2))
    else ret (.nx, σ)
/-! ### exceptions -/
/-- an exception as data: its class, the classes that it is of, its fields' names, what they hold -/
def mkX (c : Str) (anc fs : List Str) (vs : List D) : D := .tup [.fn c, .tup (anc.map .fn), .tup (fs.map .fn), .tup vs]
def isFn (c : Str) : D → Bool
  | .fn a => a == c
  | _ => false
def xIs (c : Str) : D → Bool
  | .tup [_, .tup as, _, _] => as.any (isFn c)
  | _ => false
def xCls : D → Option Str
  | .tup [.fn c, _, _, _] => some c
  | _ => none
def xFind (f : Str) : List D → List D → Option D
  | n :: ns, v :: vs => if isFn f n = true then some v else xFind f ns vs
  | _, _ => none
def xFld (f : Str) : D → Option D
  | .tup [_, _, .tup ns, .tup vs] => xFind f ns vs
  | _ => none
def bang (x : Str) : Str := ⟨#[33] ++ x.cps⟩
/-- the first that ends -/
def orM {α : Type} (a b : M α) : M α := fun S => match a S with
  | .ok x S' => .ok x S'
  | .err => b S
mutual
/-- the exception that leaves an expression -/
def xE (cf : Cf) (gl : Str → Option D) (σ : Env) : ME → M D
  | .call x es => orM (xEs cf gl σ es) (bnd (evEs cf gl σ es) fun vs => cf (bang x) vs)
  | .tup es => xEs cf gl σ es
  | _ => fail
def xEs (cf : Cf) (gl : Str → Option D) (σ : Env) : List ME → M D
  | [] => fail
  | e :: es => orM (xE cf gl σ e) (bnd (evE cf gl σ e) fun _ => xEs cf gl σ es)
end
abbrev XR := M (D × Env)
def xforL (f : D → Env → SR) (g : D → Env → XR) : List D → Env → XR
  | [], _ => fail
  | d :: ds, σ => orM (g d σ) (bnd (f d σ) fun r => match r.1 with
    | .nx => xforL f g ds r.2
    | .cont => xforL f g ds r.2
    | _ => fail)
def xwhl (c : Env → M Bool) (f : Env → SR) (g : Env → XR) : Nat → Env → XR
  | 0, _ => fail
  | n + 1, σ => bnd (c σ) fun k => if k = true then orM (g σ) (bnd (f σ) fun r => match r.1 with
      | .nx => xwhl c f g n r.2
      | .cont => xwhl c f g n r.2
      | _ => fail)
    else fail
mutual
def hE (σ : Env) (x : D) : HE → M D
  | .var i => ofO (getV σ i)
  | .cst d => gd (flatD d) (ret d)
  | .fld f => ofO (xFld f x)
  | .isi ns => ret (.bl (ns.any fun n => xIs n x))
  | .not a => bnd (hE σ x a) fun v => match v with
    | .bl b => ret (.bl (!b))
    | _ => fail
  | .and a b => bnd (hE σ x a) fun v => match v with
    | .bl k => if k = true then hE σ x b else ret (.bl false)
    | _ => fail
  | .or a b => bnd (hE σ x a) fun v => match v with
    | .bl k => if k = true then ret (.bl true) else hE σ x b
    | _ => fail
  | .eq a b => bnd (hE σ x a) fun u => bnd (hE σ x b) fun v => cmpM .Eq u v
  | .tup es => bnd (hEs σ x es) mkTup
  | .repr a => bnd (hE σ x a) fun v => reprM [v]
  | .bad => fail
def hEs (σ : Env) (x : D) : List HE → M (List D)
  | [] => ret []
  | e :: es => bnd (hE σ x e) fun v => bnd (hEs σ x es) fun vs => ret (v :: vs)
end
mutual
def hS (x : D) : HS → Env → SR
  | .asg i e, σ => bnd (hE σ x e) fun d => ret (.nx, σ.set i (some d))
  | .ret e, σ => bnd (hE σ x e) fun d => ret (.ret d, σ)
  | .ifs c a b, σ => bnd (hE σ x c) fun v => match v with
    | .bl k => if k = true then hSs x a σ else hSs x b σ
    | _ => fail
  | .pass, σ => ret (.nx, σ)
  | .bad, _ => fail
def hSs (x : D) : List HS → Env → SR
  | [], σ => ret (.nx, σ)
  | s :: r, σ => bnd (hS x s σ) fun p => match p.1 with
    | .nx => hSs x r p.2
    | f => ret (f, p.2)
end
def rsOk (fs : List Str) (vs : List D) : Bool := decide (vs.length = fs.length) && decide (fs.length ≤ 15) && decide fs.Nodup && !fs.isEmpty && vs.all flatD
def gBad : MG → Bool
  | .bad => true
  | _ => false
def hasV (i : Option Nat) (σ : Env) : Bool := match i with
  | some i => decide (i < σ.length)
  | none => true
/-- the name of an except clause goes -/
def offV (i : Option Nat) (σ : Env) : Env := match i with
  | some i => σ.set i none
  | none => σ
mutual
def exS (cf : Cf) (gl : Str → Option D) : MS → Env → SR
  | .asg t e, σ => bnd (evE cf gl σ e) fun d => bnd (evG cf gl σ t d) fun σ2 => ret (.nx, σ2)
  | .par i j a b, σ => bnd (evE cf gl σ a) fun x => bnd (evE cf gl σ b) fun y => ret (.nx, (σ.set i (some x)).set j (some y))
  | .aug i op e, σ => bnd (ofO (getV σ i)) fun x => bnd (evE cf gl σ e) fun y => match x, y with
    | .int a, .int b => (match op with
      | .Add => ret (.nx, σ.set i (some (.int (a + b))))
      | .Sub => ret (.nx, σ.set i (some (.int (a - b))))
      | _ => fail)
    | _, _ => fail
  | .expr e, σ => bnd (evE cf gl σ e) fun _ => ret (.nx, σ)
  | .ret e, σ => bnd (evE cf gl σ e) fun d => ret (.ret d, σ)
  | .ifs c a b, σ => bnd (evT cf gl σ c) fun k => if k = true then exSs cf gl a σ else exSs cf gl b σ
  | .for t it body, σ => bnd (evI cf gl σ it) fun i => match i with
    | .items ds => forL (fun d σ => bnd (evG cf gl σ t d) fun σ2 => exSs cf gl body σ2) ds σ
    | .live l => forLive (fun d σ => bnd (evG cf gl σ t d) fun σ2 => exSs cf gl body σ2) l turnsMost 0 σ
  | .whl c body, σ => whileL (fun σ => evT cf gl σ c) (fun σ => exSs cf gl body σ) turnsMost σ
  | .brk, σ => ret (.brk, σ)
  | .cont, σ => ret (.cont, σ)
  | .pass, σ => ret (.nx, σ)
  | .bad, _ => fail
  | .raise _ _ _ _, _ => fail
  | .tryx body c i suite, σ => orM (exSs cf gl body σ) (bnd (xSs cf gl body σ) fun p =>
      if (xIs c p.1 && hasV i p.2) = true then bnd (hSs p.1 suite (offV i p.2)) fun r => ret (r.1, offV i r.2) else fail)
  | .xret body, σ => bnd (xSs cf gl body σ) fun p => ret (.ret p.1, p.2)
def exSs (cf : Cf) (gl : Str → Option D) : List MS → Env → SR
  | [], σ => ret (.nx, σ)
  | s :: r, σ => bnd (exS cf gl s σ) fun p => match p.1 with
    | .nx => exSs cf gl r p.2
    | f => ret (f, p.2)
/-- the exception that leaves a statement -/
def xS (cf : Cf) (gl : Str → Option D) : MS → Env → XR
  | .asg t e, σ => gd (!gBad t) (bnd (xE cf gl σ e) fun d => ret (d, σ))
  | .expr e, σ => bnd (xE cf gl σ e) fun d => ret (d, σ)
  | .ret e, σ => bnd (xE cf gl σ e) fun d => ret (d, σ)
  | .raise x anc fs es, σ => bnd (evEs cf gl σ es) fun vs => gd (rsOk fs vs) (ret (mkX x anc fs vs, σ))
  | .ifs c a b, σ => bnd (evT cf gl σ c) fun k => if k = true then xSs cf gl a σ else xSs cf gl b σ
  | .for t it body, σ => bnd (evI cf gl σ it) fun i => match i with
    | .items ds => xforL (fun d σ => bnd (evG cf gl σ t d) fun σ2 => exSs cf gl body σ2) (fun d σ => bnd (evG cf gl σ t d) fun σ2 => xSs cf gl body σ2) ds σ
    | .live _ => fail
  | .whl c body, σ => xwhl (fun σ => evT cf gl σ c) (fun σ => exSs cf gl body σ) (fun σ => xSs cf gl body σ) turnsMost σ
  | _, _ => fail
def xSs (cf : Cf) (gl : Str → Option D) : List MS → Env → XR
  | [], _ => fail
  | s :: r, σ => orM (xS cf gl s σ) (bnd (exS cf gl s σ) fun p => match p.1 with
    | .nx => xSs cf gl r p.2
    | _ => fail)
end
structure Fn where
  ps : Nat
  n : Nat
  body : List MS
def callN (T : Str → Option Fn) (gl : Str → Option D) : Nat → Cf
  | 0, _, _ => fail
  | k + 1, x, vs => match T x with
    | none => fail
    | some f => if vs.length = f.ps then bnd (exSs (callN T gl k) gl f.body (vs.map some ++ List.replicate (f.n - vs.length) none)) fun r => match r.1 with
        | .ret v => ret v
        | .nx => ret .non
        | _ => fail
      else fail

/-! ### the translation -/
structure TC where
  /-- the slots' names -/
  N : List Str
  /-- the module's defs, its constants, the built-ins that are not bound there -/
  F : List Str
  G : List Str
  U : List Str
  /-- which lists are made mutable, by their places -/
  mu : List (Nat × Nat × Nat × Nat)
  /-- the exceptions that are raised: the classes that each is of, its fields' names; the classes that except clauses and isinstance name -/
  xs : List (Str × List Str × List Str) := []
  xn : List Str := []
def TC.m (C : TC) (p : Pos) : Bool := C.mu.contains (p.line, p.col, p.endLine, p.endCol)
def okName (x : Str) : Bool := !(x == ("__debug__" : Str)) && !(x == ("__classdict__" : Str)) && !(x == ("__name__" : Str))
/-- a name that is read: its slot -/
def slotV (C : TC) (sc : Scope) (x : Str) : Option Nat := match sc.names.lookup x with
  | some .local => C.N.findIdx? (fun y => y == x)
  | some .cell => C.N.findIdx? (fun y => y == x)
  | some .free => C.N.findIdx? (fun y => y == x)
  | _ => none
/-- a name that is stored -/
def slotL (C : TC) (sc : Scope) (x : Str) : Option Nat := match sc.names.lookup x with
  | some .local => C.N.findIdx? (fun y => y == x)
  | some .cell => C.N.findIdx? (fun y => y == x)
  | _ => none
def isGl (sc : Scope) (x : Str) : Bool := match sc.names.lookup x with
  | some .globalImplicit => true
  | _ => false
def tyName (x : Str) : Option String := tyNames.find? fun n => Str.ofString n == x
def val (e : ME) : ME × MC := (e, .val e)
def bad : ME × MC := (.bad, .val .bad)
def bltNames : List Str := ["len", "int", "all", "any", "repr", "tuple", "list", "isinstance", "min", "max", "range", "enumerate", "dict", "reversed", "sorted"]
def trName (C : TC) (sc : Scope) (x : Str) : ME :=
  if okName x = true then (match slotV C sc x with
    | some i => .var i
    | none => if isGl sc x = true then (if C.F.contains x = true then .fnv x else if C.G.contains x = true then .glob x else if C.U.contains x = true then (match tyName x with
        | some n => .ty n
        | none => .bad) else .bad) else .bad)
  else .bad
def trCall (C : TC) (sc : Scope) (x : Str) (pos : Pos) (es : List ME) : ME :=
  if okName x = true then (match slotV C sc x with
    | some i => if es.isEmpty = true then .bad else .callv i es
    | none => if isGl sc x = true then (if C.F.contains x = true then .call x es else if (C.U.contains x && bltNames.contains x && !es.isEmpty) = true then .blt (C.m pos) x es else .bad) else .bad)
  else .bad
def strM : List Str := ["upper", "lower", "join", "split", "index"]
def trConst : Const → ME
  | .none => .non
  | .bool b => .bl b
  | .int i => .int i
  | .str x => .str x.cps.toList
  | _ => .bad
/-- a comprehension's own names with their places -/
def ownOf (C : TC) (scope : Scope) : List (Str × Nat) := scope.names.filterMap fun y => match y.2 with
  | .local => (C.N.findIdx? (fun z => z == y.1)).map fun i => (y.1, i)
  | .cell => (C.N.findIdx? (fun z => z == y.1)).map fun i => (y.1, i)
  | _ => none
def starsOk (C : TC) (sc : Scope) : List Expr → Bool
  | [] => true
  | .Starred (.Name x _) _ :: es => (slotL C sc x).isSome && starsOk C sc es
  | .Starred _ _ :: _ => false
  | _ :: es => starsOk C sc es
/-- sorted(set(e)) -/
def isStarE : Expr → Bool
  | .Starred .. => true
  | _ => false
def ssOk (C : TC) (sc : Scope) (x y : Str) (e : Expr) : Bool := x == ("sorted" : Str) && y == ("set" : Str) && isGl sc x && isGl sc y && C.U.contains x && C.U.contains y && !isStarE e
def isSup : Expr → Bool
  | .Call (.Name _ _) [] [] _ => true
  | _ => false
def isSetD : Expr → Bool
  | .Set .. => true
  | _ => false
def isStar : Expr → Bool
  | .Starred .. => true
  | _ => false
def noStar (es : List Expr) : Bool := es.all fun e => !isStar e
def isTupE : Expr → Bool
  | .Tuple .. => true
  | _ => false
def isComp : Expr → Bool
  | .ListComp .. => true
  | _ => false
def isEnum : Expr → Bool
  | .Call (.Name x _) _ _ _ => x == ("enumerate" : Str)
  | _ => false
/-- a target for what is walked -/
def tgOk (tg it : Expr) : Bool := !isSetD it && (!isEnum it || isTupE tg)
mutual
def trE (C : TC) : Expr → Scope → ME × MC
  | .Name x _, sc => val (trName C sc x)
  | .Constant c _ _, _ => val (trConst c)
  | .BinOp a op b pos, sc => val (.bin (C.m pos) op (trE C a sc).1 (trE C b sc).1)
  | .UnaryOp op a _, sc => match op with
    | .USub => val (.neg (trE C a sc).1)
    | .Not => (.not (trE C a sc).1, .not (trE C a sc).2)
    | _ => bad
  | .BoolOp op vs _, sc => if 2 ≤ vs.length then trB C op vs sc else bad
  | .IfExp t a b _, sc => (.ite (trE C t sc).2 (trE C a sc).1 (trE C b sc).1, .ite (trE C t sc).2 (trE C a sc).2 (trE C b sc).2)
  | .Compare a [op] [b] _, sc => if isSetD b = true then bad else val (.cmp (trE C a sc).1 op (trE C b sc).1)
  | .Compare a [op, op'] [b, c] _, sc => if (isSetD b || isSetD c) = true then bad else val (.cmp2 (trE C a sc).1 op (trE C b sc).1 op' (trE C c sc).1)
  | .Tuple es _ _, sc => if noStar es = true then val (.tup (trEs C es sc)) else bad
  | .List es pos, sc => if noStar es = true then val (.lst (C.m pos) (trEs C es sc)) else bad
  | .Dict ks vs pos, sc => if (ks.length == vs.length && decide (ks.length ≤ 15) && ks.all (·.isSome)) = true then val (.dct (C.m pos) (trKs C ks (trEs C vs sc) sc)) else bad
  | .Subscript a (.Slice lo hi none _) pos, sc => val (.slc (C.m pos) (trE C a sc).1 (trO C lo sc) (trO C hi sc))
  | .Subscript a (.Slice none none (some (.UnaryOp .USub (.Constant (.int 1) _ _) _)) _) pos, sc => val (.rev (C.m pos) (trE C a sc).1)
  | .Subscript a (.Slice none none (some (.Constant (.int 2) _ _)) _) pos, sc => val (.ite (.val (.bl true)) (.blt (C.m pos) ("evens 0" : Str) [(trE C a sc).1]) .non)
  | .Subscript a (.Slice (some (.Constant (.int 1) _ _)) none (some (.Constant (.int 2) _ _)) _) pos, sc => val (.ite (.val (.bl true)) (.blt (C.m pos) ("evens 1" : Str) [(trE C a sc).1]) .non)
  | .Subscript a (.Slice _ _ (some _) _) _, _ => bad
  | .Subscript a b _, sc => val (.idx (trE C a sc).1 (trE C b sc).1)
  | .Call (.Name x _) [.Call (.Name y py) [e] [] p2] [] pos, sc => if ssOk C sc x y e = true then val (.ite (.val (.bl true)) (.blt (C.m pos) ("sorted set" : Str) [(trE C e sc).1]) .non) else if noStar [.Call (.Name y py) [e] [] p2] = true then val (trCall C sc x pos (trEs C [.Call (.Name y py) [e] [] p2] sc)) else bad
  | .Call (.Name x _) es [] pos, sc => if noStar es = true then val (trCall C sc x pos (trEs C es sc)) else bad
  | .Call (.Name x _) [e] [⟨some kn, .Name ln _, _⟩, ⟨some rn, .Constant (.bool true) _ _, _⟩] pos, sc => if (x == ("sorted" : Str) && kn == ("key" : Str) && ln == ("len" : Str) && rn == ("reverse" : Str) && isGl sc x && isGl sc ln && C.U.contains x && C.U.contains ln && !isStar e) = true then val (.ite (.val (.bl true)) (.blt (C.m pos) ("sorted len" : Str) [(trE C e sc).1]) .non) else bad
  | .Call (.Attribute o x apos) es [] pos, sc => if (apos.endLine == pos.line && !isSup o && noStar es && decide (es.length < 30)) = true then val (.mth (C.m pos) (trE C o sc).1 x (trEs C es sc)) else bad
  | .ListComp elt [⟨tg, it, [], 0⟩] scope pos, sc =>
    if (blkC C.N sc scope (ownOf C scope) && tgOk tg it && (gSlots (trG C tg scope)).all fun i => (ownOf C scope).any fun p => p.2 == i) = true then
      val (.comp (C.m pos) ((ownOf C scope).map (·.2)) (trG C tg scope) (.it (trE C it sc).1) (.val (.bl true)) (trE C elt scope).1) else bad
  | .ListComp elt [⟨tg, it, [c], 0⟩] scope pos, sc =>
    if (blkC C.N sc scope (ownOf C scope) && tgOk tg it && (gSlots (trG C tg scope)).all fun i => (ownOf C scope).any fun p => p.2 == i) = true then
      val (.comp (C.m pos) ((ownOf C scope).map (·.2)) (trG C tg scope) (.it (trE C it sc).1) (trE C c scope).2 (trE C elt scope).1) else bad
  | .ListComp elt [⟨tg, it, [], 0⟩, ⟨tg1, it1, [], 0⟩] scope pos, sc =>
    if (blkC C.N sc scope (ownOf C scope) && tgOk tg it && tgOk tg1 it1 && ((gSlots (trG C tg scope)).all fun i => (ownOf C scope).any fun p => p.2 == i) && ((gSlots (trG C tg1 scope)).all fun i => (ownOf C scope).any fun p => p.2 == i)) = true then
      val (.comp2 (C.m pos) ((ownOf C scope).map (·.2)) (trG C tg scope) (.it (trE C it sc).1) (.val (.bl true)) (trG C tg1 scope) (.it (trE C it1 scope).1) (.val (.bl true)) (trE C elt scope).1) else bad
  | .ListComp elt [⟨tg, it, [], 0⟩, ⟨tg1, it1, [c1], 0⟩] scope pos, sc =>
    if (blkC C.N sc scope (ownOf C scope) && tgOk tg it && tgOk tg1 it1 && ((gSlots (trG C tg scope)).all fun i => (ownOf C scope).any fun p => p.2 == i) && ((gSlots (trG C tg1 scope)).all fun i => (ownOf C scope).any fun p => p.2 == i)) = true then
      val (.comp2 (C.m pos) ((ownOf C scope).map (·.2)) (trG C tg scope) (.it (trE C it sc).1) (.val (.bl true)) (trG C tg1 scope) (.it (trE C it1 scope).1) (trE C c1 scope).2 (trE C elt scope).1) else bad
  | _, _ => bad
def trB (C : TC) : BoolOp → List Expr → Scope → ME × MC
  | _, [], _ => bad
  | _, [a], sc => trE C a sc
  | op, a :: b :: r, sc => match op with
    | .And => (.and (trE C a sc).1 (trB C op (b :: r) sc).1, .and (trE C a sc).2 (trB C op (b :: r) sc).2)
    | .Or => (.or (trE C a sc).1 (trB C op (b :: r) sc).1, .or (trE C a sc).2 (trB C op (b :: r) sc).2)
def trEs (C : TC) : List Expr → Scope → List ME
  | [], _ => []
  | e :: es, sc => (trE C e sc).1 :: trEs C es sc
def trKs (C : TC) : List (Option Expr) → List ME → Scope → List MK
  | some k :: ks, v :: vs, sc => .mk (trE C k sc).1 v :: trKs C ks vs sc
  | none :: ks, v :: vs, sc => .mk .bad v :: trKs C ks vs sc
  | _, _, _ => []
def trO (C : TC) : Option Expr → Scope → MO
  | none, _ => .no
  | some e, sc => .at (trE C e sc).1
def trG (C : TC) : Expr → Scope → MG
  | .Name x _, sc => (slotL C sc x).elim .bad .name
  | .Tuple es _ _, sc => if starsOk C sc es = true then .tup (trGs C es sc) else .bad
  | .Subscript _ (.Slice ..) _, _ => .bad
  | .Subscript o i _, sc => .sub (trE C o sc).1 (trE C i sc).1
  | _, _ => .bad
def trGs (C : TC) : List Expr → Scope → List MG
  | [], _ => []
  | .Starred (.Name x _) pos :: es, sc => (slotL C sc x).elim .bad (.stn (C.m pos)) :: trGs C es sc
  | .Starred _ _ :: es, sc => .bad :: trGs C es sc
  | e :: es, sc => trG C e sc :: trGs C es sc
end
def loc1 (sc : Scope) (x : Str) : Bool := match sc.names.lookup x with
  | some .local => true
  | _ => false
def cel1 (sc : Scope) (x : Str) : Bool := match sc.names.lookup x with
  | some .cell => true
  | _ => false
/-- a class of exceptions, of the module or built-in -/
def xName (C : TC) (sc : Scope) (x : Str) : Bool := okName x && isGl sc x && C.xn.contains x
def xNames (C : TC) (sc : Scope) : List Expr → Option (List Str)
  | [] => some []
  | .Name x _ :: es => if xName C sc x = true then (xNames C sc es).map (x :: ·) else none
  | _ :: _ => none
def hConst : Const → HE
  | .none => .cst .non
  | .bool b => .cst (.bl b)
  | .int i => .cst (.int i)
  | .str x => .cst (.str x.cps.toList)
  | _ => .bad
mutual
/-- i: the exception's slot, n: its name -/
def trH (C : TC) (sc : Scope) (n : Option Str) : Expr → HE
  | .Name x _ => if okName x = true && !(n == some x) then (match slotV C sc x with
    | some i => .var i
    | none => .bad) else .bad
  | .Constant c _ _ => hConst c
  | .UnaryOp .Not a _ => .not (trH C sc n a)
  | .BoolOp .And vs _ => trHB C sc n true vs
  | .BoolOp .Or vs _ => trHB C sc n false vs
  | .Compare a [.Eq] [b] _ => if isSetD b = true then .bad else .eq (trH C sc n a) (trH C sc n b)
  | .Tuple es _ _ => if noStar es = true then .tup (trHs C sc n es) else .bad
  | .Attribute (.Name x _) f _ => if (n == some x && (slotV C sc x).isSome && okName x) = true then .fld f else .bad
  | .Call (.Name f _) [a] [] _ => if (f == ("repr" : Str) && isGl sc f && C.U.contains f && !isStar a) = true then .repr (trH C sc n a) else .bad
  | .Call (.Name f _) [.Name x _, .Name c _] [] _ => if (f == ("isinstance" : Str) && isGl sc f && C.U.contains f && n == some x && (slotV C sc x).isSome && okName x && xName C sc c) = true then .isi [c] else .bad
  | .Call (.Name f _) [.Name x _, .Tuple cs _ _] [] _ => if (f == ("isinstance" : Str) && isGl sc f && C.U.contains f && n == some x && (slotV C sc x).isSome && okName x && decide (cs.length ≤ 64)) = true then (match xNames C sc cs with
    | some ns => .isi ns
    | none => .bad) else .bad
  | _ => .bad
def trHB (C : TC) (sc : Scope) (n : Option Str) (k : Bool) : List Expr → HE
  | [] => .bad
  | [a] => trH C sc n a
  | a :: b :: r => if k = true then .and (trH C sc n a) (trHB C sc n k (b :: r)) else .or (trH C sc n a) (trHB C sc n k (b :: r))
def trHs (C : TC) (sc : Scope) (n : Option Str) : List Expr → List HE
  | [] => []
  | e :: es => trH C sc n e :: trHs C sc n es
end
mutual
def trHS (C : TC) (sc : Scope) (n : Option Str) : Stmt → HS
  | .Assign [.Name x _] e _ => if n == some x then .bad else (slotL C sc x).elim .bad fun i => .asg i (trH C sc n e)
  | .Return (some e) _ => .ret (trH C sc n e)
  | .If c a b _ => .ifs (trH C sc n c) (trHSs C sc n a) (trHSs C sc n b)
  | .Pass _ => .pass
  | _ => .bad
def trHSs (C : TC) (sc : Scope) (n : Option Str) : List Stmt → List HS
  | [] => []
  | s :: r => trHS C sc n s :: trHSs C sc n r
end
mutual
def trS (C : TC) (sc : Scope) : Stmt → MS
  | .Assign [.Tuple [.Name x px, .Name y py] k1 p1] (.Tuple [a, b] k2 p2) _ => if ([a, b].all (foldedForSure 8) || cel1 sc x || cel1 sc y) = true then .asg (trG C (.Tuple [.Name x px, .Name y py] k1 p1) sc) (trE C (.Tuple [a, b] k2 p2) sc).1 else match slotL C sc x, slotL C sc y with
    | some i, some j => if (!(i == j) && loc1 sc x && loc1 sc y && noStar [a, b] && px.line == py.line && !([a, b].all (foldedForSure 8)) && !([a, b].all (constantsAlone 8))) = true then .par i j (trE C a sc).1 (trE C b sc).1 else .bad
    | _, _ => .bad
  | .Assign [t] e _ => if (isTupE t && isTupE e) = true then .bad else .asg (trG C t sc) (trE C e sc).1
  | .AugAssign (.Name x _) op e _ => (slotL C sc x).elim .bad fun i => .aug i op (trE C e sc).1
  | .Expr e _ => if isComp e = true then .bad else .expr (trE C e sc).1
  | .Return (some e) _ => .ret (trE C e sc).1
  | .Return none _ => .ret .non
  | .If c a b _ => .ifs (trE C c sc).2 (trSs C sc a) (trSs C sc b)
  | .For t it body [] _ => if tgOk t it = false then .bad else .for (trG C t sc) (.it (trE C it sc).1) (trSs C sc body)
  | .While c body [] _ => .whl (trE C c sc).2 (trSs C sc body)
  | .Break _ => .brk
  | .Continue _ => .cont
  | .Pass _ => .pass
  | .Raise (some (.Call (.Name x _) es [] _)) none _ => if (okName x && isGl sc x && noStar es && !es.isEmpty) = true then (match C.xs.lookup x with
    | some (anc, fs) => .raise x anc fs (trEs C es sc)
    | none => .bad) else .bad
  | .Try body [.ExceptHandler (some (.Name c _)) n suite _] [] [] _ => if (xName C sc c && !suite.isEmpty) = true then (match n with
    | none => .tryx (trSs C sc body) c none (trHSs C sc none suite)
    | some n => match slotL C sc n with
      | some i => if loc1 sc n = true then .tryx (trSs C sc body) c (some i) (trHSs C sc (some n) suite) else .bad
      | none => .bad) else .bad
  | _ => .bad
def trSs (C : TC) (sc : Scope) : List Stmt → List MS
  | [] => []
  | s :: r => trS C sc s :: trSs C sc r
end
end MI
set_option Elab.async false
set_option linter.all false
set_option maxRecDepth 100000
set_option maxHeartbeats 1000000
namespace MI
open PySem PySem.Spec PyProof.Rows L2

/-- the module, as the readings need it -/
structure Kx where
  K : PySem.W.Frag
  mg : Str → Option Value
  /-- lists that a comprehension is filling -/
  B : List Addr := []

section
variable (k : Kx) (ρ : List Addr) (H : Hp)
mutual
/-- the datum d is the value v in the heap H; ρ: the mutable objects' places -/
def RelD : D → V → Prop
  | .non, v => v = .non
  | .bl b, v => v = .bl b
  | .int i, v => v = .int i
  | .str x, v => v = .str (toStr x)
  | .tup ds, v => ∃ a vs, v = .ref a ∧ H a = some (.tup vs) ∧ RelDs ds vs
  | .ktup ds, v => ∃ a vs, v = .ref a ∧ SqT k.K H a vs ∧ RelDs ds vs
  | .dtt ks ds, v => ∃ a o vs, v = .ref a ∧ H a = some (.frz o (.dT ((ks.map fun z => z.map Sum.inl).zip vs))) ∧ ks.length = vs.length ∧ RelDs ds vs
  | .lst ds, v => ∃ a vs, v = .ref a ∧ H a = some (.lst vs) ∧ (a ∉ ρ ∧ a ∉ k.B) ∧ RelDs ds vs
  | .dct ks ds, v => ∃ a vs, v = .ref a ∧ H a = some (.dK (ks.zip vs)) ∧ (a ∉ ρ ∧ a ∉ k.B) ∧ ks.length = vs.length ∧ RelDs ds vs
  | .scr ns, v => ∃ a, v = .ref a ∧ ((∃ o, H a = some (.frz o (.lst (ns.map V.int)))) ∨ (SqL k.K (fun _ => none) a (ns.map V.int)))
  | .loc l, v => ∃ a, ρ[l]? = some a ∧ v = .ref a
  | .fn x, v => ∃ f, k.mg x = some (.ref f) ∧ v = .ref f
  | .ty n, v => v = .ty n
def RelDs : List D → List V → Prop
  | [], vs => vs = []
  | d :: ds, vs => ∃ w ws, vs = w :: ws ∧ RelD d w ∧ RelDs ds ws
end
def RelOb (a : Addr) : O → Prop
  | .lst ds => ∃ vs, H a = some (.lst vs) ∧ RelDs k ρ H ds vs
  | .dK ks ds => ∃ vs, H a = some (.dK (ks.zip vs)) ∧ ks.length = vs.length ∧ RelDs k ρ H ds vs
structure Rel (S : Sto) : Prop where
  nd : ρ.Nodup
  len : ρ.length = S.length
  busy : ∀ b ∈ k.B, ∃ u, H b = some u
  obj : ∀ (l : Nat) (a : Addr) (o : O), ρ[l]? = some a → S[l]? = some o → RelOb k ρ H a o
/-- what is known of the slots -/
def RelSt (σd : Env) (σ : L2.St) : Prop := σd.length = σ.length ∧ ∀ (i : Nat) (d : D), getV σd i = some d → ∃ v, σ[i]? = some (some v) ∧ RelD k ρ H d v
end
/-- the heap goes on: what is not mutable stays -/
structure Ext (ρ : List Addr) (H : Hp) (ρ' : List Addr) (H' : Hp) : Prop where
  pre : ∃ τ, ρ' = ρ ++ τ ∧ ∀ a ∈ τ, H a = none
  keep : ∀ a o, H a = some o → (a ∈ ρ → ¬ Mut (some o)) → H' a = some o
  there : ∀ a o, H a = some o → ∃ o', H' a = some o'

section
variable {k : Kx} {ρ ρ' ρ2 : List Addr} {H H' H2 : Hp} {S S' : Sto}
theorem Ext.refl : Ext ρ H ρ H := ⟨⟨[], by simp, fun _ h => nomatch h⟩, fun _ _ h _ => h, fun _ o h => ⟨o, h⟩⟩
theorem Ext.get (e : Ext ρ H ρ' H') {l : Nat} {a : Addr} (h : ρ[l]? = some a) : ρ'[l]? = some a := by
  obtain ⟨τ, rfl, _⟩ := e.pre
  rw [List.getElem?_append_left (List.getElem?_eq_some_iff.mp h).1]
  exact h
theorem Ext.out (e : Ext ρ H ρ' H') {a : Addr} {o : HO} (h : H a = some o) (n : a ∉ ρ) : a ∉ ρ' := by
  obtain ⟨τ, rfl, f⟩ := e.pre
  intro z
  rcases List.mem_append.mp z with z | z
  · exact n z
  · rw [f a z] at h; cases h
theorem Ext.trans (e : Ext ρ H ρ' H') (f : Ext ρ' H' ρ2 H2) : Ext ρ H ρ2 H2 := by
  obtain ⟨τ, rfl, t1⟩ := e.pre
  obtain ⟨τ', e2, t2⟩ := f.pre
  refine ⟨⟨τ ++ τ', by rw [e2, List.append_assoc], fun a ha => ?_⟩, fun a o h n => ?_, fun a o h => ?_⟩
  · rcases List.mem_append.mp ha with z | z
    · exact t1 a z
    · cases q : H a with
      | none => rfl
      | some o =>
        obtain ⟨o', r⟩ := e.there a o q
        rw [t2 a z] at r; cases r
  · refine f.keep a o (e.keep a o h n) fun z => ?_
    rcases List.mem_append.mp z with z | z
    · exact n z
    · rw [t1 a z] at h; cases h
  · obtain ⟨o', r⟩ := e.there a o h
    exact f.there a o' r
/-- a new object -/
theorem Ext.new {p : Addr} {o : HO} (n : H p = none) : Ext ρ H ρ (upd H p o) :=
  ⟨⟨[], by simp, fun _ h => nomatch h⟩, fun a o' h _ => by rw [upd_ne (ne_of_none h n)]; exact h, fun a o' h => ⟨o', by rw [upd_ne (ne_of_none h n)]; exact h⟩⟩
theorem Ext.newM {p : Addr} {o : HO} (n : H p = none) : Ext ρ H (ρ ++ [p]) (upd H p o) :=
  ⟨⟨[p], rfl, fun a h => by have e : a = p := by simpa using h
                            rw [e]; exact n⟩, fun a o' h _ => by rw [upd_ne (ne_of_none h n)]; exact h, fun a o' h => ⟨o', by rw [upd_ne (ne_of_none h n)]; exact h⟩⟩
/-- a mutable object written -/
theorem Ext.put {a : Addr} {o u : HO} (m : a ∈ ρ) (h : H a = some u) (mu : Mut (some u)) : Ext ρ H ρ (upd H a o) := by
  refine ⟨⟨[], by simp, fun _ h => nomatch h⟩, fun b o' hb n => ?_, fun b o' hb => ?_⟩
  · by_cases e : b = a
    · subst e
      rw [h] at hb; cases hb
      exact absurd mu (n m)
    · rw [upd_ne e]; exact hb
  · by_cases e : b = a
    · subst e; exact ⟨o, upd_same⟩
    · exact ⟨o', by rw [upd_ne e]; exact hb⟩
theorem SqT.ext {K : PySem.W.Frag} (e : Ext ρ H ρ' H') {a : Addr} {vs : List V} (h : SqT K H a vs) : SqT K H' a vs := by
  rcases h with (h | ⟨o, h⟩) | h
  · exact .inl (.inl (e.keep _ _ h fun _ => id))
  · exact .inl (.inr ⟨o, e.keep _ _ h fun _ => id⟩)
  · exact .inr h
mutual
theorem RelD.ext (e : Ext ρ H ρ' H') : ∀ {d : D} {v : V}, RelD k ρ H d v → RelD k ρ' H' d v
  | .non, _, h => h
  | .bl _, _, h => h
  | .int _, _, h => h
  | .str _, _, h => h
  | .tup _, _, ⟨a, vs, h1, h2, h3⟩ => ⟨a, vs, h1, e.keep _ _ h2 fun _ => id, RelDs.ext e h3⟩
  | .ktup _, _, ⟨a, vs, h1, h2, h3⟩ => ⟨a, vs, h1, SqT.ext e h2, RelDs.ext e h3⟩
  | .dtt _ _, _, ⟨a, o, vs, h1, h2, h3, h4⟩ => ⟨a, o, vs, h1, e.keep _ _ h2 fun _ => id, h3, RelDs.ext e h4⟩
  | .lst _, _, ⟨a, vs, h1, h2, h3, h4⟩ => ⟨a, vs, h1, e.keep _ _ h2 fun z => absurd z h3.1, ⟨e.out h2 h3.1, h3.2⟩, RelDs.ext e h4⟩
  | .dct _ _, _, ⟨a, vs, h1, h2, h3, h4, h5⟩ => ⟨a, vs, h1, e.keep _ _ h2 fun z => absurd z h3.1, ⟨e.out h2 h3.1, h3.2⟩, h4, RelDs.ext e h5⟩
  | .scr _, _, ⟨a, h1, h2⟩ => ⟨a, h1, h2.elim (fun ⟨o, z⟩ => .inl ⟨o, e.keep _ _ z fun _ => id⟩) .inr⟩
  | .loc _, _, ⟨a, h1, h2⟩ => ⟨a, e.get h1, h2⟩
  | .fn _, _, h => h
  | .ty _, _, h => h
theorem RelDs.ext (e : Ext ρ H ρ' H') : ∀ {ds : List D} {vs : List V}, RelDs k ρ H ds vs → RelDs k ρ' H' ds vs
  | [], _, h => h
  | _ :: _, _, ⟨w, ws, h1, h2, h3⟩ => ⟨w, ws, h1, RelD.ext e h2, RelDs.ext e h3⟩
end
theorem RelOb.ext (e : Ext ρ H ρ' H') {a : Addr} {o : O} (h : RelOb k ρ H a o) (q : H' a = H a) : RelOb k ρ' H' a o := by
  cases o with
  | lst ds => obtain ⟨vs, h1, h2⟩ := h; exact ⟨vs, by rw [q]; exact h1, h2.ext e⟩
  | dK ks ds => obtain ⟨vs, h1, h2, h3⟩ := h; exact ⟨vs, by rw [q]; exact h1, h2, h3.ext e⟩
theorem RelOb.some {a : Addr} {o : O} (h : RelOb k ρ H a o) : ∃ u, H a = some u ∧ Mut (some u) := by
  cases o with
  | lst ds => obtain ⟨vs, h1, h2⟩ := h; exact ⟨_, h1, trivial⟩
  | dK ks ds => obtain ⟨vs, h1, h2, h3⟩ := h; exact ⟨_, h1, trivial⟩
theorem RelSt.ext (e : Ext ρ H ρ' H') {σd : Env} {σ : L2.St} (h : RelSt k ρ H σd σ) : RelSt k ρ' H' σd σ :=
  ⟨h.1, fun i d q => let ⟨v, a, b⟩ := h.2 i d q; ⟨v, a, b.ext e⟩⟩
theorem Rel.at (r : Rel k ρ H S) {l : Nat} {o : O} (h : S[l]? = some o) : ∃ a, ρ[l]? = some a ∧ RelOb k ρ H a o := by
  have hl : l < ρ.length := by rw [r.len]; exact (List.getElem?_eq_some_iff.mp h).1
  exact ⟨ρ[l], by simp [hl], r.obj l _ o (by simp [hl]) h⟩
theorem Rel.mem (r : Rel k ρ H S) {a : Addr} (h : a ∈ ρ) : ∃ u, H a = some u ∧ Mut (some u) := by
  obtain ⟨l, hl, e⟩ := List.getElem_of_mem h
  have hs : l < S.length := by rw [← r.len]; exact hl
  have q : RelOb k ρ H a S[l] := r.obj l a S[l] (by simp [hl, e]) (by simp [hs])
  exact q.some
theorem Rel.fresh (r : Rel k ρ H S) {p : Addr} (n : H p = none) : p ∉ ρ := fun h => by
  obtain ⟨u, q, _⟩ := r.mem h
  rw [n] at q; cases q
theorem Rel.fresh2 (r : Rel k ρ H S) {p : Addr} (n : H p = none) : p ∉ ρ ∧ p ∉ k.B := ⟨r.fresh n, fun h => by
  obtain ⟨u, q⟩ := r.busy p h
  rw [n] at q; cases q⟩
theorem Ext.busy (e : Ext ρ H ρ' H') {B : List Addr} (h : ∀ b ∈ B, ∃ u, H b = some u) : ∀ b ∈ B, ∃ u, H' b = some u := fun b hb => let ⟨u, q⟩ := h b hb; e.there b u q
/-- the same store, a heap in which all stays -/
theorem Rel.keep (r : Rel k ρ H S) (e : Ext ρ H ρ H') (h : ∀ a u, H a = some u → H' a = some u) : Rel k ρ H' S := by
  refine ⟨r.nd, r.len, e.busy r.busy, fun l a o h1 h2 => ?_⟩
  have q := r.obj l a o h1 h2
  obtain ⟨u, q1, _⟩ := q.some
  exact q.ext e (by rw [q1]; exact h a u q1)
theorem Rel.new (r : Rel k ρ H S) {p : Addr} {o : HO} (n : H p = none) : Rel k ρ (upd H p o) S :=
  r.keep (Ext.new n) fun a u h => by rw [upd_ne (ne_of_none h n)]; exact h
theorem Rel.newM (r : Rel k ρ H S) {p : Addr} {u : HO} {o : O} (n : H p = none) (q : RelOb k (ρ ++ [p]) (upd H p u) p o) : Rel k (ρ ++ [p]) (upd H p u) (S ++ [o]) := by
  refine ⟨?_, by simp [r.len], (Ext.new (ρ := ρ) n).busy r.busy, fun l a o' h1 h2 => ?_⟩
  · rw [List.nodup_append]
    exact ⟨r.nd, by simp, fun a ha b hb => by
      have e : b = p := by simpa using hb
      subst e
      exact fun z => r.fresh n (z ▸ ha)⟩
  · by_cases hl : l < ρ.length
    · rw [List.getElem?_append_left hl] at h1
      rw [List.getElem?_append_left (by rw [← r.len]; exact hl)] at h2
      have z := r.obj l a o' h1 h2
      obtain ⟨w, q1, _⟩ := z.some
      exact z.ext (Ext.newM n) (upd_ne (ne_of_none q1 n))
    · have e : l = ρ.length := by
        have := (List.getElem?_eq_some_iff.mp h1).1
        simp at this
        omega
      subst e
      rw [List.getElem?_append_right (Nat.le_refl _)] at h1
      rw [List.getElem?_append_right (by rw [r.len]; exact Nat.le_refl _)] at h2
      simp [r.len] at h1 h2
      subst h1
      subst h2
      exact q
theorem Rel.put (r : Rel k ρ H S) {l : Nat} {a : Addr} {o' o : O} {u : HO} (ha : ρ[l]? = some a) (ho : S[l]? = some o') (q : RelOb k ρ (upd H a u) a o) : Rel k ρ (upd H a u) (S.set l o) := by
  have z := r.obj l a o' ha ho
  obtain ⟨w, q1, q2⟩ := z.some
  have ma : a ∈ ρ := List.mem_of_getElem? ha
  refine ⟨r.nd, by simp [r.len], (Ext.put ma q1 q2).busy r.busy, fun j b o2 h1 h2 => ?_⟩
  by_cases e : j = l
  · subst e
    rw [ha] at h1; cases h1
    rw [List.getElem?_set_self (List.getElem?_eq_some_iff.mp ho).1] at h2
    cases h2
    exact q
  · rw [List.getElem?_set_ne (Ne.symm e)] at h2
    have z2 := r.obj j b o2 h1 h2
    have ne : b ≠ a := fun t => by
      subst t
      exact e ((List.getElem?_inj (List.getElem?_eq_some_iff.mp h1).1 r.nd).mp (h1.trans ha.symm))
    exact z2.ext (Ext.put ma q1 q2) (upd_ne ne)
theorem RelDs.length : ∀ {ds : List D} {vs : List V}, RelDs k ρ H ds vs → ds.length = vs.length
  | [], _, h => by cases h; rfl
  | _ :: _, _, ⟨w, ws, h1, h2, h3⟩ => by subst h1; simp [RelDs.length h3]
theorem RelDs.get : ∀ {ds : List D} {vs : List V} {i : Nat} {d : D}, RelDs k ρ H ds vs → ds[i]? = some d → ∃ v, vs[i]? = some v ∧ RelD k ρ H d v
  | [], _, _, _, _, e => by simp at e
  | d :: ds, _, 0, x, ⟨w, ws, h1, h2, h3⟩, e => by simp at e; subst e; subst h1; exact ⟨w, rfl, h2⟩
  | d :: ds, _, i + 1, x, ⟨w, ws, h1, h2, h3⟩, e => by
    subst h1
    obtain ⟨v, q1, q2⟩ := RelDs.get (i := i) h3 (by simpa using e)
    exact ⟨v, by simpa using q1, q2⟩
theorem RelDs.app : ∀ {ds es : List D} {vs ws : List V}, RelDs k ρ H ds vs → RelDs k ρ H es ws → RelDs k ρ H (ds ++ es) (vs ++ ws)
  | [], _, _, _, h, g => by cases h; exact g
  | _ :: _, _, _, _, ⟨w, ws, h1, h2, h3⟩, g => by subst h1; exact ⟨w, _, rfl, h2, RelDs.app h3 g⟩
theorem RelDs.take : ∀ {ds : List D} {vs : List V} (n : Nat), RelDs k ρ H ds vs → RelDs k ρ H (ds.take n) (vs.take n)
  | _, _, 0, _ => by simp [RelDs]
  | [], _, _ + 1, h => by cases h; simp [RelDs]
  | _ :: _, _, n + 1, ⟨w, ws, h1, h2, h3⟩ => by subst h1; exact ⟨w, _, rfl, h2, RelDs.take n h3⟩
theorem RelDs.drop : ∀ {ds : List D} {vs : List V} (n : Nat), RelDs k ρ H ds vs → RelDs k ρ H (ds.drop n) (vs.drop n)
  | _, _, 0, h => h
  | [], _, _ + 1, h => by cases h; simp [RelDs]
  | _ :: _, _, n + 1, ⟨w, ws, h1, h2, h3⟩ => by subst h1; exact RelDs.drop n h3
theorem RelDs.set {d : D} {v : V} (r : RelD k ρ H d v) : ∀ {ds : List D} {vs : List V} (i : Nat), RelDs k ρ H ds vs → RelDs k ρ H (ds.set i d) (vs.set i v)
  | [], _, _, h => by cases h; simp [RelDs]
  | _ :: _, _, 0, ⟨w, ws, h1, h2, h3⟩ => by subst h1; exact ⟨v, _, rfl, r, h3⟩
  | _ :: _, _, i + 1, ⟨w, ws, h1, h2, h3⟩ => by subst h1; exact ⟨w, _, rfl, h2, RelDs.set r i h3⟩
theorem RelDs.one {d : D} {v : V} (r : RelD k ρ H d v) : RelDs k ρ H [d] [v] := ⟨v, [], rfl, r, rfl⟩
theorem RelDs.ints : ∀ ns : List Int, RelDs k ρ H (ns.map D.int) (ns.map V.int)
  | [] => rfl
  | n :: ns => ⟨_, _, rfl, rfl, RelDs.ints ns⟩
theorem RelDs.rev : ∀ {ds : List D} {vs : List V}, RelDs k ρ H ds vs → RelDs k ρ H ds.reverse vs.reverse
  | [], _, h => by cases h; exact rfl
  | _ :: _, _, ⟨w, ws, h1, h2, h3⟩ => by
    subst h1
    rw [List.reverse_cons, List.reverse_cons]
    exact (RelDs.rev h3).app (RelDs.one h2)
theorem RelDs.rep {ds : List D} {vs : List V} (h : RelDs k ρ H ds vs) : ∀ n : Nat, RelDs k ρ H (List.replicate n ds).flatten (List.replicate n vs).flatten
  | 0 => by simp [RelDs]
  | n + 1 => by
    rw [List.replicate_succ, List.replicate_succ, List.flatten_cons, List.flatten_cons]
    exact h.app (RelDs.rep h n)
theorem RelDs.cut {ds : List D} {vs : List V} (h : RelDs k ρ H ds vs) (lo hi : Option Int) : RelDs k ρ H (MI.cut ds lo hi) (cutV vs lo hi) := by
  unfold MI.cut cutV
  rw [h.length]
  exact (h.drop _).take _
end

/-! ### what is wanted behind -/
/-- what follows a datum -/
def Post (k : Kx) (ρ : List Addr) (H : Hp) (d : D) (S : Sto) (Q : VK) : Prop := ∀ ρ' H' v, Ext ρ H ρ' H' → Rel k ρ' H' S → RelD k ρ' H' d v → Q v H'
section
variable {k : Kx} {ρ ρ' : List Addr} {H H' : Hp} {S : Sto} {d : D} {Q : VK}
theorem Post.ext (p : Post k ρ H d S Q) (e : Ext ρ H ρ' H') : Post k ρ' H' d S Q := fun ρ2 H2 v f r q => p ρ2 H2 v (e.trans f) r q
theorem Post.now (p : Post k ρ H d S Q) (r : Rel k ρ H S) {v : V} (q : RelD k ρ H d v) : Q v H := p ρ H v Ext.refl r q
/-- a new list, mutable or not -/
theorem Post.list {m : Bool} {xs : List D} {S' : Sto} {vs : List V} (r : Rel k ρ H S) (e : mkList m xs S = .ok d S') (p : Post k ρ H d S' Q) (q : RelDs k ρ H xs vs) :
    vs.length ≤ sizeLine ∧ ∀ a, H a = none → Q (.ref a) (upd H a (.lst vs)) := by
  unfold mkList at e
  split at e
  · rename_i hz
    refine ⟨by rw [← q.length]; exact hz, fun a n => ?_⟩
    split at e
    · cases e
      exact p (ρ ++ [a]) _ _ (Ext.newM n) (r.newM n ⟨vs, upd_same, q.ext (Ext.newM n)⟩) ⟨a, by simp [← r.len], rfl⟩
    · cases e
      exact p ρ _ _ (Ext.new n) (r.new n) ⟨a, vs, rfl, upd_same, r.fresh2 n, q.ext (Ext.new n)⟩
  · cases e
theorem Post.tup {xs : List D} {S' : Sto} {vs : List V} (r : Rel k ρ H S) (e : mkTup xs S = .ok d S') (p : Post k ρ H d S' Q) (q : RelDs k ρ H xs vs) :
    vs.length ≤ sizeLine ∧ ∀ a, H a = none → Q (.ref a) (upd H a (.tup vs)) := by
  unfold mkTup at e
  split at e
  · rename_i hz
    refine ⟨by rw [← q.length]; exact hz, fun a n => ?_⟩
    cases e
    exact p ρ _ _ (Ext.new n) (r.new n) ⟨a, vs, rfl, upd_same, q.ext (Ext.new n)⟩
  · cases e
end
end MI
set_option Elab.async false
set_option linter.all false
set_option maxRecDepth 100000
set_option maxHeartbeats 2000000
namespace MI
open PySem PySem.Spec PyProof.Rows L2

/-! ### the evaluator's results -/
section
variable {α β : Type} {S S' : Sto}
theorem bnd_ok {m : M α} {f : α → M β} {b : β} (h : bnd m f S = .ok b S') : ∃ a S1, m S = .ok a S1 ∧ f a S1 = .ok b S' := by
  unfold bnd R.then at h
  split at h
  · rename_i a S1 e; exact ⟨a, S1, e, h⟩
  · cases h
theorem look_ok {f : Sto → Option α} {a : α} (h : look f S = .ok a S') : f S = some a ∧ S' = S := by
  unfold look at h
  split at h
  · rename_i e; cases h; exact ⟨e, rfl⟩
  · cases h
theorem ofO_ok {o : Option α} {a : α} (h : ofO o S = .ok a S') : o = some a ∧ S' = S := by
  unfold ofO at h
  split at h
  · cases h; exact ⟨rfl, rfl⟩
  · cases h
theorem gd_ok {b : Bool} {m : M α} {a : α} (h : gd b m S = .ok a S') : b = true ∧ m S = .ok a S' := by
  unfold gd at h
  split at h
  · exact ⟨by assumption, h⟩
  · cases h
theorem ret_ok {a b : α} (h : ret a S = .ok b S') : b = a ∧ S' = S := by
  unfold ret at h
  cases h
  exact ⟨rfl, rfl⟩
theorem fail_ok {a : α} {P : Prop} (h : (fail : M α) S = .ok a S') : P := by cases h
end

abbrev kx (X : Cx) (B : List Addr) : Kx := ⟨X.K, X.mg, B⟩
section
variable {k : Kx} {ρ : List Addr} {H : Hp} {S : Sto} {d : D} {v : V} {xs : List D}
theorem list_at (R : Rel k ρ H S) (r : RelD k ρ H d v) (e : listOf S d = some xs) : ∃ a vs, v = .ref a ∧ H a = some (.lst vs) ∧ RelDs k ρ H xs vs := by
  cases d <;> try (simp [listOf] at e; done)
  · rename_i ys
    have e' : ys = xs := by simpa [listOf] using e
    subst e'
    obtain ⟨a, vs, h1, h2, h3, h4⟩ := r
    exact ⟨a, vs, h1, h2, h4⟩
  · rename_i l
    obtain ⟨a, h1, h2⟩ := r
    have e' : S[l]? = some (.lst xs) := by
      simp only [listOf] at e
      split at e
      · rename_i ys q; cases e; exact q
      · cases e
    obtain ⟨vs, q1, q2⟩ := R.obj l a _ h1 e'
    exact ⟨a, vs, h2, q1, q2⟩
theorem seq_at (R : Rel k ρ H S) (r : RelD k ρ H d v) (e : seqOf S d = some xs) : ∃ a vs, v = .ref a ∧ (SqL k.K H a vs ∨ SqT k.K H a vs) ∧ RelDs k ρ H xs vs := by
  cases d <;> try (simp [seqOf] at e; done)
  · rename_i ys
    have e' : ys = xs := by simpa [seqOf] using e
    subst e'
    obtain ⟨a, vs, h1, h2, h3⟩ := r
    exact ⟨a, vs, h1, .inr (.of h2), h3⟩
  · rename_i ys
    obtain ⟨a, vs, h1, h2, h3⟩ := list_at R r (xs := xs) (by simpa [seqOf, listOf] using e)
    exact ⟨a, vs, h1, .inl (.of h2), h3⟩
  · rename_i ns
    have e' : ns.map D.int = xs := by simpa [seqOf] using e
    subst e'
    obtain ⟨a, h1, h2⟩ := r
    refine ⟨a, ns.map V.int, h1, .inl ?_, RelDs.ints ns⟩
    rcases h2 with ⟨o, z⟩ | (z | ⟨o, z⟩) | z
    · exact .inl (.inr ⟨o, z⟩)
    · cases z
    · cases z
    · exact .inr z
  · rename_i l
    obtain ⟨a, vs, h1, h2, h3⟩ := list_at R r (xs := xs) (by simpa [seqOf, listOf] using e)
    exact ⟨a, vs, h1, .inl (.of h2), h3⟩
  · rename_i ys
    have e' : ys = xs := by simpa [seqOf] using e
    subst e'
    obtain ⟨a, vs, h1, h2, h3⟩ := r
    exact ⟨a, vs, h1, .inr h2, h3⟩
end

/-- an operation of two data, as a reading -/
def rD (X : Cx) (g : D → D → M D) : R2 := fun x y H Q => ∃ B ρ S dx dy d S', Rel (kx X B) ρ H S ∧ RelD (kx X B) ρ H dx x ∧ RelD (kx X B) ρ H dy y ∧ g dx dy S = .ok d S' ∧ Post (kx X B) ρ H d S' Q
section
variable {X : Cx}
theorem foldl_rep (n : Nat) (x : Array Nat) : ((List.replicate n x).foldl (· ++ ·) #[]) = (List.replicate n x.toList).flatten.toArray := by
  have gen : ∀ (n : Nat) (acc : Array Nat), (List.replicate n x).foldl (· ++ ·) acc = acc ++ (List.replicate n x.toList).flatten.toArray := by
    intro n
    induction n with
    | zero => intro acc; simp
    | succ n ih => intro acc; rw [List.replicate_succ, List.foldl_cons, ih, List.replicate_succ, List.flatten_cons]; apply Array.ext'; simp
  rw [gen]; apply Array.ext'; simp
theorem mul_str_ok {x : List Nat} {i : Int} {pins : List (Addr × Obj)} {σ : L2.St} {H : Hp} {s : Shared} {t u : Tok} {Q : VK} (I : Inv X pins σ H s) (h0 : 0 ≤ i) (h1 : i ≤ 1000000) (hz : x.length * i.toNat ≤ sizeLine)
    (q : Q (.str (toStr (List.replicate i.toNat x).flatten)) H) : wpAny (model X.prog X.w) X.A (binaryOp .Mult (.str (toStr x) t) (.int i u)) (EP X pins σ Q) X.xe s := by
  have hl : (toStr x).length = x.length := by simp [toStr, Str.length]
  refine P.mul_str (by rw [decide_eq_false (show ¬ i < -(2 ^ 63) by omega), decide_eq_false (show ¬ i ≥ 2 ^ 63 by omega)]; rfl) (fun hn hb hc => ?_) (fun hn hb => ?_) ?_
  · rw [hl] at hc
    have hi : 0 < i := by omega
    have h3 : (x.length : Int) * i ≤ 16777216 := by
      have e : ((x.length * i.toNat : Nat) : Int) = (x.length : Int) * i := by rw [Int.natCast_mul, Int.toNat_of_nonneg h0]
      have e2 : sizeLine = 16777216 := by decide
      rw [e2] at hz
      omega
    have h4 : (2 ^ 63 - 1 : Int) / i + 1 ≤ x.length := hc
    have h5 : (2 ^ 63 - 1 : Int) < ((2 ^ 63 - 1 : Int) / i + 1) * i := Int.lt_ediv_add_one_mul_self _ hi
    have h6 : ((2 ^ 63 - 1 : Int) / i + 1) * i ≤ (x.length : Int) * i := Int.mul_le_mul_of_nonneg_right h4 (by omega)
    omega
  · rw [hl]
    exact decide_eq_false (Nat.not_lt.mpr hz)
  · have fin : ∀ t', EP X pins σ Q (.str (toStr (List.replicate i.toNat x).flatten) t') { s with toks := s.toks + 1 } := fun t' => ⟨.str _, H, I.tok _, ⟨_, rfl⟩, q⟩
    split
    · rename_i hn
      have e : i.toNat = 0 := by omega
      rw [e] at fin
      exact ⟨by decide, fin _⟩
    · split
      · rename_i hn hb
        rw [hl, Bool.or_eq_true] at hb
        have e : (List.replicate i.toNat x).flatten = x := by
          rcases hb with hb | hb
          · have e : i = 1 := eq_of_beq hb
            subst e
            simp
          · have e : x = [] := List.length_eq_zero_iff.mp (eq_of_beq hb)
            subst e
            simp
        rw [e] at q
        exact ⟨.str _, H, I, ⟨_, rfl⟩, q⟩
      · have e : (⟨(List.replicate i.toNat (toStr x).cps).foldl (· ++ ·) #[]⟩ : Str) = toStr (List.replicate i.toNat x).flatten := by
          rw [foldl_rep]; simp [toStr]
        rw [e]
        refine ⟨?_, fin _⟩
        show (toStr _).length ≤ sizeLine
        have e2 : (toStr (List.replicate i.toNat x).flatten).length = x.length * i.toNat := by
          simp [toStr, Str.length, List.sum_replicate_nat, Nat.mul_comm]
        rw [e2]; exact hz
theorem op_bin (m : Bool) (op : Operator) : OpR X (binaryOp op) (rD X (binM m op)) := by
  intro pins s σ H x y v u Q I rx ry h
  obtain ⟨B, ρ, S, dx, dy, d, S', R, hx, hy, e, p⟩ := h
  unfold binM at e
  split at e
  · obtain ⟨rfl, rfl⟩ := ret_ok e
    cases hx; cases hy
    exact op_add pins s σ H _ _ v u Q I rx ry ⟨_, _, rfl, rfl, p.now R rfl⟩
  · cases hx; cases hy
    unfold mkStr at e
    split at e
    · cases e
      rename_i a b hz
      refine op_add_str pins s σ H _ _ v u Q I rx ry ⟨_, _, rfl, rfl, by simpa [toStr, Str.length] using hz, ?_⟩
      have e2 : toStr a ++ toStr b = toStr (a ++ b) := by
        show Str.append _ _ = _
        simp [Str.append, toStr]
      rw [e2]
      exact p.now R rfl
    · cases e
  · obtain ⟨a1, vs, rfl, h1, h2⟩ := hx
    obtain ⟨a2, ws, rfl, h3, h4⟩ := hy
    rename_i ds es
    unfold mkTup at e
    split at e
    · rename_i hz
      cases e
      refine op_catA pins s σ H _ _ v u Q I rx ry ⟨a1, a2, vs, ws, rfl, rfl, .of h1, .of h3, by rw [← h2.length, ← h4.length, ← List.length_append]; exact hz, fun q => ?_, fun q1 q2 => ?_, fun q1 q2 a n => ?_⟩
      · subst q
        refine p.now R ⟨a2, ws, rfl, h3, ?_⟩
        have := (h2.app h4)
        simpa using this
      · subst q2
        refine p.now R ⟨a1, vs, rfl, h1, ?_⟩
        have := (h2.app h4)
        simpa using this
      · exact p ρ _ _ (Ext.new n) (R.new n) ⟨a, _, rfl, upd_same, (h2.app h4).ext (Ext.new n)⟩
    · cases e
  · obtain ⟨as, S1, e1, e3⟩ := bnd_ok e
    obtain ⟨bs, S2, e2, e4⟩ := bnd_ok e3
    obtain ⟨e5, rfl⟩ := look_ok e1
    obtain ⟨e6, rfl⟩ := look_ok e2
    obtain ⟨a1, vs, rfl, h1, h2⟩ := list_at R hx e5
    obtain ⟨a2, ws, rfl, h3, h4⟩ := list_at R hy e6
    obtain ⟨hz, q⟩ := Post.list R e4 p (h2.app h4)
    exact op_cat pins s σ H _ _ v u Q I rx ry ⟨a1, a2, vs, ws, rfl, rfl, h1, h3, by simpa using hz, q⟩
  · obtain ⟨rfl, rfl⟩ := ret_ok e
    cases hx; cases hy
    exact op_sub pins s σ H _ _ v u Q I rx ry ⟨_, _, rfl, rfl, p.now R rfl⟩
  · obtain ⟨hc, e⟩ := gd_ok e
    obtain ⟨rfl, rfl⟩ := ret_ok e
    cases hx; cases hy
    have hc2 := of_decide_eq_true hc
    exact op_mulX pins s σ H _ _ v u Q I rx ry ⟨_, _, rfl, rfl, hc2, p.now R rfl⟩
  · obtain ⟨hc, e⟩ := gd_ok e
    obtain ⟨rfl, rfl⟩ := ret_ok e
    cases hx; cases hy
    obtain ⟨t, rfl⟩ := rx
    obtain ⟨t', rfl⟩ := ry
    obtain ⟨c1, c2, c3⟩ := of_decide_eq_true hc
    exact mul_str_ok I c1 c2 c3 (p.now R rfl)
  · obtain ⟨hc, e⟩ := gd_ok e
    obtain ⟨rfl, rfl⟩ := ret_ok e
    obtain ⟨a1, vs, rfl, h1, h2⟩ := hx
    cases hy
    obtain ⟨c1, c2, c3, c4⟩ := of_decide_eq_true hc
    refine op_repT pins s σ H _ _ v u Q I rx ry ⟨a1, _, vs, rfl, rfl, .of h1, fun z => ?_, c1, c2, by rw [← h2.length]; exact c4, fun a n => p ρ _ _ (Ext.new n) (R.new n) ⟨a, _, rfl, upd_same, (h2.rep _).ext (Ext.new n)⟩⟩
    subst z
    have := h2.length
    simp only [List.length_nil] at this
    omega
  · obtain ⟨hc, e2⟩ := gd_ok e
    obtain ⟨as, S1, e1, e3⟩ := bnd_ok e2
    obtain ⟨e4, rfl⟩ := look_ok e1
    obtain ⟨c1, c2⟩ := of_decide_eq_true hc
    obtain ⟨a1, vs, rfl, h1, h2⟩ := list_at R hx e4
    cases hy
    obtain ⟨hz, q⟩ := Post.list R e3 p (h2.rep _)
    refine op_rep pins s σ H _ _ v u Q I rx ry ⟨a1, _, vs, rfl, rfl, h1, by omega, by omega, ?_, q⟩
    rw [List.length_flatten, List.map_replicate, List.sum_replicate_nat] at hz
    rw [Nat.mul_comm]; exact hz
  · obtain ⟨hc, e⟩ := gd_ok e
    obtain ⟨rfl, rfl⟩ := ret_ok e
    cases hx; cases hy
    exact op_mod pins s σ H _ _ v u Q I rx ry ⟨_, _, rfl, rfl, of_decide_eq_true hc, p.now R rfl⟩
  · obtain ⟨hc, e⟩ := gd_ok e
    obtain ⟨rfl, rfl⟩ := ret_ok e
    cases hx; cases hy
    have hc2 := of_decide_eq_true hc
    exact op_fdivW pins s σ H _ _ v u Q I rx ry ⟨_, _, rfl, rfl, hc2, p.now R rfl⟩
  · obtain ⟨hc, e⟩ := gd_ok e
    obtain ⟨rfl, rfl⟩ := ret_ok e
    cases hx; cases hy
    have hc2 := of_decide_eq_true hc
    exact op_pow pins s σ H _ _ v u Q I rx ry ⟨_, _, rfl, rfl, hc2, p.now R rfl⟩
  · exact fail_ok e

/-! ### comparisons -/
mutual
theorem toPy_dp {k : Kx} {ρ : List Addr} {H : Hp} {f : Nat → Option PyData} (hf : ∀ l d a, f l = some d → ρ[l]? = some a → PyData.hasDict d = false → Dp k.K H (.ref a) d) : ∀ {d : D} {v : V} {p : PyData}, RelD k ρ H d v → toPyA f d = some p → PyData.hasDict p = false → Dp k.K H v p
  | .non, _, _, r, e, _ => by cases r; cases e; exact .non
  | .bl _, _, _, r, e, _ => by cases r; cases e; exact .bl _
  | .int _, _, _, r, e, _ => by cases r; cases e; exact .int _
  | .str _, _, _, r, e, _ => by cases r; cases e; exact .str _
  | .tup _, _, _, ⟨a, vs, h1, h2, h3⟩, e, n => by
    simp only [toPyA, Option.map_eq_some_iff] at e
    obtain ⟨ps, e1, e2⟩ := e
    subst h1 e2
    exact .tup (.of h2) (toPys_dp hf h3 e1 (by simpa [PyData.hasDict] using n))
  | .ktup _, _, _, ⟨a, vs, h1, h2, h3⟩, e, n => by
    simp only [toPyA, Option.map_eq_some_iff] at e
    obtain ⟨ps, e1, e2⟩ := e
    subst h1 e2
    exact .tup h2 (toPys_dp hf h3 e1 (by simpa [PyData.hasDict] using n))
  | .lst _, _, _, ⟨a, vs, h1, h2, h3, h4⟩, e, n => by
    simp only [toPyA, Option.map_eq_some_iff] at e
    obtain ⟨ps, e1, e2⟩ := e
    subst h1 e2
    exact .lst (.of h2) (toPys_dp hf h4 e1 (by simpa [PyData.hasDict] using n))
  | .dct _ _, _, _, _, e, n => by
    simp only [toPyA, Option.map_eq_some_iff] at e
    obtain ⟨ps, e1, e2⟩ := e
    subst e2
    simp [PyData.hasDict] at n
  | .scr ns, _, _, ⟨a, h1, h2⟩, e, _ => by
    cases e
    subst h1
    have q : SqL k.K H a (ns.map V.int) := by
      rcases h2 with ⟨o, z⟩ | (z | ⟨o, z⟩) | z
      · exact .inl (.inr ⟨o, z⟩)
      · cases z
      · cases z
      · exact .inr z
    have all : ∀ ns : List Int, DpAll k.K H (ns.map V.int) (ns.map PyData.int) := fun ns => by
      induction ns with
      | nil => exact .nil
      | cons n ns ih => exact .cons (.int n) ih
    exact .lst q (all ns)
  | .loc l, _, _, ⟨a, h1, h2⟩, e, n => by
    subst h2
    exact hf l _ a e h1 n
  | .fn _, _, _, _, e, _ => by cases e
  | .ty _, _, _, _, e, _ => by cases e
  | .dtt _ _, _, _, _, e, _ => by cases e
theorem toPys_dp {k : Kx} {ρ : List Addr} {H : Hp} {f : Nat → Option PyData} (hf : ∀ l d a, f l = some d → ρ[l]? = some a → PyData.hasDict d = false → Dp k.K H (.ref a) d) : ∀ {ds : List D} {vs : List V} {ps : List PyData}, RelDs k ρ H ds vs → toPysA f ds = some ps → PyData.hasDictAll ps = false → DpAll k.K H vs ps
  | [], _, _, r, e, _ => by cases r; cases e; exact .nil
  | d :: ds, _, _, ⟨w, ws, h1, h2, h3⟩, e, n => by
    subst h1
    simp only [toPysA] at e
    split at e
    · rename_i x xs e1 e2
      cases e
      simp only [PyData.hasDictAll, Bool.or_eq_false_iff] at n
      exact .cons (toPy_dp hf h2 e1 n.1) (toPys_dp hf h3 e2 n.2)
    · cases e
end
theorem locPy_dp {k : Kx} {ρ : List Addr} {H : Hp} {S : Sto} (R : Rel k ρ H S) : ∀ (n l : Nat) (d : PyData) (a : Addr), locPy S n l = some d → ρ[l]? = some a → PyData.hasDict d = false → Dp k.K H (.ref a) d
  | 0, _, _, _, e, _, _ => by cases e
  | n + 1, l, d, a, e, ha, hn => by
    simp only [locPy] at e
    split at e
    · rename_i xs q
      simp only [Option.map_eq_some_iff] at e
      obtain ⟨ps, e1, e2⟩ := e
      subst e2
      obtain ⟨vs, q1, q2⟩ := R.obj l a _ ha q
      exact .lst (.of q1) (toPys_dp (fun l d a h1 h2 h3 => locPy_dp R n l d a h1 h2 h3) q2 e1 (by simpa [PyData.hasDict] using hn))
    · cases e
theorem toPy_ok {k : Kx} {ρ : List Addr} {H : Hp} {S : Sto} (R : Rel k ρ H S) {d : D} {v : V} {p : PyData} (r : RelD k ρ H d v) (e : toPy S d = some p) (n : PyData.hasDict p = false) : Dp k.K H v p :=
  toPy_dp (fun l d a h1 h2 h3 => locPy_dp R 3 l d a h1 h2 h3) r e n
theorem flat_eq {k : Kx} {ρ : List Addr} {H : Hp} {d : D} {v : V} (r : RelD k ρ H d v) (h : flatD d = true) : flatV v = true := by
  cases d <;> first | (cases r; rfl) | (cases h)
theorem str_beq (a b : List Nat) : (toStr a == toStr b) = (a == b) := by
  rw [Bool.eq_iff_iff]
  simp [toStr]
theorem eq_eq {k : Kx} {ρ : List Addr} {H : Hp} {d e : D} {v u : V} (r : RelD k ρ H d v) (q : RelD k ρ H e u) (h : flatD d = true) (g : flatD e = true) : eqV v u = eqD d e := by
  cases d <;> (first | (cases h; done) | skip) <;> cases e <;> (first | (cases g; done) | skip) <;> cases r <;> cases q <;> first | rfl | exact str_beq _ _
theorem any_eq {k : Kx} {ρ : List Addr} {H : Hp} {d : D} {v : V} (r : RelD k ρ H d v) (h : flatD d = true) : ∀ {ds : List D} {vs : List V}, RelDs k ρ H ds vs → ds.all flatD = true → vs.all flatV = true ∧ inV v vs = ds.any fun y => eqD y d
  | [], _, e, _ => by cases e; exact ⟨rfl, rfl⟩
  | y :: ys, _, ⟨w, ws, h1, h2, h3⟩, a => by
    subst h1
    rw [List.all_cons, Bool.and_eq_true] at a
    obtain ⟨q1, q2⟩ := any_eq r h h3 a.2
    refine ⟨?_, ?_⟩
    · rw [List.all_cons, flat_eq h2 a.1, q1]; rfl
    · unfold inV at q2 ⊢
      rw [List.any_cons, List.any_cons, eq_eq h2 r a.1 h, q2]
/-- the comparison's answer -/
def cB (X : Cx) (op : CmpOp) : R2 := fun x y H Q => ∃ B ρ S dx dy b S', Rel (kx X B) ρ H S ∧ RelD (kx X B) ρ H dx x ∧ RelD (kx X B) ρ H dy y ∧ cmpB op dx dy S = .ok b S' ∧ (S' = S → Q (.bl b) H)
theorem eqM_ok {x y : D} {b : Bool} {S S' : Sto} (e : eqM x y S = .ok b S') : ∃ p q, toPy S x = some p ∧ toPy S y = some q ∧ ((SeqAt.shaped p = true ∧ SeqAt.shaped q = true) ∨ emptyL p q = true) ∧ b = PyData.eqv p q ∧ S' = S := by
  unfold eqM at e
  obtain ⟨p, S1, e1, e2⟩ := bnd_ok e
  obtain ⟨e3, rfl⟩ := look_ok e1
  obtain ⟨q, S2, e4, e5⟩ := bnd_ok e2
  obtain ⟨e6, rfl⟩ := look_ok e4
  obtain ⟨e7, e8⟩ := gd_ok e5
  obtain ⟨rfl, rfl⟩ := ret_ok e8
  rw [Bool.or_eq_true, Bool.and_eq_true] at e7
  exact ⟨p, q, e3, e6, e7, rfl, rfl⟩
theorem pys_len {f : Nat → Option PyData} : ∀ {ds : List D} {ps : List PyData}, toPysA f ds = some ps → ps.length = ds.length
  | [], _, e => by cases e; rfl
  | d :: ds, _, e => by
    simp only [toPysA] at e
    split at e
    · rename_i x xs e1 e2
      cases e
      simp [pys_len e2]
    · cases e
/-- what reads as a list is one -/
theorem list_of_py {B ρ : List Addr} {S : Sto} {H : Hp} {d : D} {v : V} {ps : List PyData} (R : Rel (kx X B) ρ H S) (hx : RelD (kx X B) ρ H d v) (e : toPy S d = some (.list ps)) : ∃ a vs, v = .ref a ∧ SqL X.K H a vs ∧ vs.length = ps.length := by
  unfold toPy at e
  cases d with
  | lst xs =>
    simp only [toPyA, Option.map_eq_some_iff] at e
    obtain ⟨qs, e1, e2⟩ := e
    cases e2
    obtain ⟨a, vs, rfl, h2, h3, h4⟩ := hx
    exact ⟨a, vs, rfl, .of h2, by rw [pys_len e1, h4.length]⟩
  | scr ns =>
    have e : some (PyData.list (ns.map .int)) = _ := e
    cases e
    obtain ⟨a, rfl, h2⟩ := hx
    refine ⟨a, ns.map V.int, rfl, ?_, by simp⟩
    rcases h2 with ⟨o, z⟩ | (z | ⟨o, z⟩) | z
    · exact .inl (.inr ⟨o, z⟩)
    · cases z
    · cases z
    · exact .inr z
  | loc l =>
    simp only [toPyA, locPy] at e
    split at e
    · rename_i xs q
      simp only [Option.map_eq_some_iff] at e
      obtain ⟨qs, e1, e2⟩ := e
      cases e2
      obtain ⟨a, h1, rfl⟩ := hx
      obtain ⟨vs, q1, q2⟩ := R.obj l a _ h1 q
      exact ⟨a, vs, rfl, .of q1, by rw [pys_len e1, q2.length]⟩
    · cases e
  | tup _ => simp [toPyA] at e
  | ktup _ => simp [toPyA] at e
  | dct _ _ => simp [toPyA] at e
  | _ => cases e
theorem eq_empty {B ρ : List Addr} {S : Sto} {pins : List (Addr × Obj)} {σ : L2.St} {s : Shared} {H : Hp} {dx dy : D} {x y : V} {v u : Value} {p q : PyData} (hu : X.A.units + 64 < cLine) (I : Inv X pins σ H s) (rx : RelV x v) (ry : RelV y u)
    (R : Rel (kx X B) ρ H S) (hx : RelD (kx X B) ρ H dx x) (hy : RelD (kx X B) ρ H dy y) (e1 : toPy S dx = some p) (e2 : toPy S dy = some q) (h : emptyL p q = true) {E : Value → Shared → Prop} {Q : Value → Shared → Prop} :
    (Q (.bool (PyData.eqv p q)) s → wpAny (model X.prog X.w) X.A (compareOp .Eq v u) Q E s) ∧ (Q (.bool (!PyData.eqv p q)) s → wpAny (model X.prog X.w) X.A (compareOp .NotEq v u) Q E s) := by
  unfold emptyL at h
  split at h
  · rename_i ps
    obtain ⟨a, vs, rfl, h1, h2⟩ := list_of_py R hx e1
    obtain ⟨b, ws, rfl, k1, k2⟩ := list_of_py R hy e2
    cases rx
    cases ry
    obtain ⟨its, rv, t1, _⟩ := I.list h1
    obtain ⟨its2, rv2, t2, _⟩ := I.list k1
    have l1 : its.toArray.size = ps.length := by rw [List.size_toArray, ← rv.length, h2]
    have l2 : its2.toArray.size = 0 := by rw [List.size_toArray, ← rv2.length, k2]; rfl
    cases ps with
    | nil =>
      have ev : PyData.eqv (.list []) (.list []) = true := by simp [PyData.eqv, PyData.eqvAll]
      rw [ev]
      have hsz : its.toArray.size = its2.toArray.size := by rw [l1, l2]; rfl
      have r1 := SeqAt.RcAt.lists (A := X.A) (s := s) (e := fun _ => true) t1.isList t2.isList hsz (by omega) (fun j h1 h2 => by omega)
      have r2 := SeqAt.RcNeAt.lists (A := X.A) (s := s) (e := fun _ => true) t1.isList t2.isList hsz (by omega) (fun j h1 h2 => by omega)
      have ea : (List.range its.toArray.size).all (fun _ => true) = true := by rw [List.all_eq_true]; intros; rfl
      rw [ea] at r1 r2
      exact ⟨fun hq => r1 X.prog X.w E Q hq, fun hq => r2 X.prog X.w E Q hq⟩
    | cons p0 ps =>
      have ev : PyData.eqv (.list (p0 :: ps)) (.list []) = false := by simp [PyData.eqv, PyData.eqvAll]
      rw [ev]
      have hsz : (its.toArray.size != its2.toArray.size) = true := by rw [l1, l2]; rfl
      exact ⟨fun hq => SeqAt.RcAt.lists_lengths (A := X.A) (s := s) t1.isList t2.isList hsz (by omega) X.prog X.w E Q hq, fun hq => SeqAt.RcNeAt.lists_lengths (A := X.A) (s := s) t1.isList t2.isList hsz (by omega) X.prog X.w E Q hq⟩
  · cases h
theorem noDict_of {p : PyData} (h : SeqAt.shaped p = true) : PyData.hasDict p = false := PyData.hasDict_of_canLay p (SeqAt.canLay_of_shaped h)
theorem lt_str {a b : List Nat} : decide ((toStr a).cps.toList < (toStr b).cps.toList) = ltS a b := decide_eq_decide.mpr (by simp [toStr])
theorem mem_str {c : Nat} {z : List Nat} : decide (c ∈ (toStr z).cps.toList) = decide (c ∈ z) := decide_eq_decide.mpr (by simp [toStr])
theorem op_in (hu : X.A.units + 64 < cLine) (neg : Bool) {op : CmpOp} (ho : op = if neg then .NotIn else .In) {pins : List (Addr × Obj)} {s : Shared} {σ : L2.St} {H : Hp} {x y : V} {v u : Value} {Q : VK} (I : Inv X pins σ H s) (rx : RelV x v) (ry : RelV y u)
    {B ρ : List Addr} {S S' : Sto} {dx dy : D} {b : Bool} (R : Rel (kx X B) ρ H S) (hx : RelD (kx X B) ρ H dx x) (hy : RelD (kx X B) ρ H dy y) (e : inM dx dy S = .ok b S') (q : S' = S → Q (.bl (if neg then !b else b)) H) :
    wpAny (model X.prog X.w) X.A (compareOp op v u) (EP X pins σ Q) X.xe s := by
  unfold inM at e
  split at e
  · obtain ⟨rfl, rfl⟩ := ret_ok e
    cases hx; cases hy
    rename_i c z
    cases neg
    · cases ho
      exact op_in_sign pins s σ H _ _ v u Q I rx ry ⟨c, toStr z, rfl, rfl, by rw [mem_str]; exact q rfl⟩
    · cases ho
      exact op_notIn_sign pins s σ H _ _ v u Q I rx ry ⟨c, toStr z, rfl, rfl, by rw [mem_str]; exact q rfl⟩
  · unfold inTM at e
    obtain ⟨p, S1, e1, e2⟩ := bnd_ok e
    obtain ⟨e3, rfl⟩ := look_ok e1
    obtain ⟨p2, S2, e4, e5⟩ := bnd_ok e2
    obtain ⟨e6, rfl⟩ := look_ok e4
    obtain ⟨e7, e8⟩ := gd_ok e5
    obtain ⟨ds, S3, e9, e10⟩ := bnd_ok e8
    obtain ⟨e11, rfl⟩ := ofO_ok e9
    obtain ⟨rfl, rfl⟩ := ret_ok e10
    rw [Bool.and_eq_true] at e7
    obtain ⟨as, r1⟩ := Dp.reads I p x v (toPy_ok R hx e3 (noDict_of e7.1)) rx
    obtain ⟨bs, r2⟩ := Dp.reads I p2 y u (toPy_ok R hy e6 (noDict_of e7.2)) ry
    have q3 := q rfl
    have l1 := SeqAt.canLay_of_shaped e7.1
    have l2 := SeqAt.canLay_of_shaped e7.2
    have dp : p.depth ≤ 64 := by
      have := e7.1
      unfold SeqAt.shaped at this
      rw [Bool.and_eq_true, decide_eq_true_eq] at this
      exact this.2
    have dp2 : p2.depth ≤ 64 := by
      have := e7.2
      unfold SeqAt.shaped at this
      rw [Bool.and_eq_true, decide_eq_true_eq] at this
      exact this.2
    unfold itemsP at e11
    split at e11
    · cases e11
      have hd : X.A.units + 1 + min (PyData.depthAll ds) p.depth < cLine := by
        have : PyData.depthAll ds + 1 ≤ 64 := dp2
        have := Nat.min_le_left (PyData.depthAll ds) p.depth
        omega
      cases neg
      · cases ho
        exact SeqAt.in_list_reads r2 r1 (by simpa [PyData.canLay0] using l2) l1 hd ⟨.bl _, H, I, rfl, q3⟩
      · cases ho
        exact SeqAt.notIn_list_reads r2 r1 (by simpa [PyData.canLay0] using l2) l1 hd ⟨.bl _, H, I, rfl, q3⟩
    · cases e11
      have hd : X.A.units + 1 + min (PyData.depthAll ds) p.depth < cLine := by
        have : PyData.depthAll ds + 1 ≤ 64 := dp2
        have := Nat.min_le_left (PyData.depthAll ds) p.depth
        omega
      cases neg
      · cases ho
        exact SeqAt.in_tuple_reads r2 r1 (by simpa [PyData.canLay0] using l2) l1 hd ⟨.bl _, H, I, rfl, q3⟩
      · cases ho
        exact SeqAt.notIn_tuple_reads r2 r1 (by simpa [PyData.canLay0] using l2) l1 hd ⟨.bl _, H, I, rfl, q3⟩
    · cases e11
  · obtain ⟨ys, S1, e1, e2⟩ := bnd_ok e
    obtain ⟨e3, rfl⟩ := look_ok e1
    obtain ⟨e4, e5⟩ := gd_ok e2
    obtain ⟨rfl, rfl⟩ := ret_ok e5
    rw [Bool.and_eq_true] at e4
    obtain ⟨a, vs, rfl, h1, h2⟩ := seq_at R hy e3
    obtain ⟨q1, q2⟩ := any_eq hx e4.1 h2 e4.2
    have q3 := q rfl
    rw [← q2] at q3
    cases neg
    · cases ho
      exact op_in_seq pins s σ H _ _ v u Q I rx ry ⟨a, vs, rfl, h1, flat_eq hx e4.1, q1, q3⟩
    · cases ho
      exact op_notIn_seq pins s σ H _ _ v u Q I rx ry ⟨a, vs, rfl, h1, flat_eq hx e4.1, q1, q3⟩
theorem isNon_eq {k : Kx} {ρ : List Addr} {H : Hp} {d : D} {v : V} (r : RelD k ρ H d v) : decide (v = .non) = isNon d := by
  cases d with
  | non => cases r; rfl
  | bl _ => cases r; rfl
  | int _ => cases r; rfl
  | str _ => cases r; rfl
  | tup _ => obtain ⟨_, _, rfl, _⟩ := r; rfl
  | lst _ => obtain ⟨_, _, rfl, _⟩ := r; rfl
  | dct _ _ => obtain ⟨_, _, rfl, _⟩ := r; rfl
  | scr _ => obtain ⟨_, rfl, _⟩ := r; rfl
  | loc _ => obtain ⟨_, _, rfl⟩ := r; rfl
  | fn _ => obtain ⟨_, _, rfl⟩ := r; rfl
  | ty _ => cases r; rfl
  | ktup _ => obtain ⟨_, _, rfl, _⟩ := r; rfl
  | dtt _ _ => obtain ⟨_, _, _, rfl, _⟩ := r; rfl
theorem op_cmp (hu : X.A.units + 64 < cLine) (op : CmpOp) : OpR X (compareOp op) (cB X op) := by
  intro pins s σ H x y v u Q I rx ry h
  obtain ⟨B, ρ, S, dx, dy, b, S', R, hx, hy, e, p⟩ := h
  unfold cmpB at e
  split at e
  · obtain ⟨rfl, rfl⟩ := ret_ok e
    cases hy
    exact op_isN pins s σ H _ _ v u Q I rx ry ⟨rfl, by rw [isNon_eq hx]; exact p rfl⟩
  · obtain ⟨rfl, rfl⟩ := ret_ok e
    cases hy
    exact op_notN pins s σ H _ _ v u Q I rx ry ⟨rfl, by rw [isNon_eq hx]; exact p rfl⟩
  · obtain ⟨rfl, rfl⟩ := ret_ok e
    cases hx; cases hy
    exact op_is_bl pins s σ H _ _ v u Q I rx ry ⟨_, _, rfl, rfl, p rfl⟩
  · obtain ⟨rfl, rfl⟩ := ret_ok e
    cases hx; cases hy
    exact op_isnot_bl pins s σ H _ _ v u Q I rx ry ⟨_, _, rfl, rfl, p rfl⟩
  · obtain ⟨rfl, rfl⟩ := ret_ok e
    cases hx; cases hy
    exact op_lt pins s σ H _ _ v u Q I rx ry ⟨_, _, rfl, rfl, p rfl⟩
  · obtain ⟨rfl, rfl⟩ := ret_ok e
    cases hx; cases hy
    exact op_le pins s σ H _ _ v u Q I rx ry ⟨_, _, rfl, rfl, p rfl⟩
  · obtain ⟨rfl, rfl⟩ := ret_ok e
    cases hx; cases hy
    exact op_gt pins s σ H _ _ v u Q I rx ry ⟨_, _, rfl, rfl, p rfl⟩
  · obtain ⟨rfl, rfl⟩ := ret_ok e
    cases hx; cases hy
    exact op_ge pins s σ H _ _ v u Q I rx ry ⟨_, _, rfl, rfl, p rfl⟩
  · obtain ⟨rfl, rfl⟩ := ret_ok e
    cases hx; cases hy
    exact op_lt_str pins s σ H _ _ v u Q I rx ry ⟨_, _, rfl, rfl, by rw [lt_str]; exact p rfl⟩
  · obtain ⟨rfl, rfl⟩ := ret_ok e
    cases hx; cases hy
    exact op_eq pins s σ H _ _ v u Q I rx ry ⟨rfl, by rw [dec_str, str_beq]; exact p rfl⟩
  · obtain ⟨rfl, rfl⟩ := ret_ok e
    cases hx; cases hy
    exact op_ne pins s σ H _ _ v u Q I rx ry ⟨rfl, by rw [dec_str, str_beq]; exact p rfl⟩
  · obtain ⟨d1, d2, e1, e2, s12, rfl, rfl⟩ := eqM_ok e
    rcases s12 with ⟨s1, s2⟩ | s12
    case inr => exact (eq_empty hu I rx ry R hx hy e1 e2 s12).1 ⟨.bl _, H, I, rfl, p rfl⟩
    exact op_eqD hu pins s σ H _ _ v u Q I rx ry ⟨d1, d2, toPy_ok R hx e1 (noDict_of s1), toPy_ok R hy e2 (noDict_of s2), s1, s2, p rfl⟩
  · obtain ⟨c, S1, e1, e2⟩ := bnd_ok e
    obtain ⟨rfl, rfl⟩ := ret_ok e2
    obtain ⟨d1, d2, e3, e4, s12, rfl, rfl⟩ := eqM_ok e1
    rcases s12 with ⟨s1, s2⟩ | s12
    case inr => exact (eq_empty hu I rx ry R hx hy e3 e4 s12).2 ⟨.bl _, H, I, rfl, p rfl⟩
    exact op_neD hu pins s σ H _ _ v u Q I rx ry ⟨d1, d2, toPy_ok R hx e3 (noDict_of s1), toPy_ok R hy e4 (noDict_of s2), s1, s2, p rfl⟩
  · exact op_in hu false rfl I rx ry R hx hy e p
  · obtain ⟨c, S1, e1, e2⟩ := bnd_ok e
    obtain ⟨rfl, rfl⟩ := ret_ok e2
    exact op_in hu true rfl I rx ry R hx hy e1 p
  · exact fail_ok e
end
end MI
set_option Elab.async false
set_option linter.all false
set_option maxRecDepth 100000
set_option maxHeartbeats 2000000
namespace MI
open PySem PySem.Spec PyProof.Rows L2
section
variable {X : Cx}
theorem Ext.same {ρ : List Addr} {H H' : Hp} (h : ∀ a o, H a = some o → H' a = some o) : Ext ρ H ρ H' := ⟨⟨[], by simp, fun _ h => nomatch h⟩, fun a o q _ => h a o q, fun a o q => ⟨o, h a o q⟩⟩
theorem atI_rel {k : Kx} {ρ : List Addr} {H : Hp} {ds : List D} {vs : List V} {i : Int} {d : D} (r : RelDs k ρ H ds vs) (e : atI ds i = some d) : ∃ v, atI vs i = some v ∧ RelD k ρ H d v := by
  unfold atI at e ⊢
  rw [r.length] at e
  cases q : ixN vs.length i with
  | none => rw [q] at e; cases e
  | some j =>
    rw [q] at e
    exact r.get (i := j) e
theorem ix_all : IxR X (rD X ix0M) := by
  intro value slice pins s σ H x y v u Q I rx ry h hs
  obtain ⟨B, ρ, S, dx, dy, d, S', R, hx, hy, e, p⟩ := h
  unfold ix0M at e
  split at e
  · obtain ⟨hz, e2⟩ := gd_ok e
    obtain ⟨c, S1, e3, e4⟩ := bnd_ok e2
    obtain ⟨e5, rfl⟩ := ofO_ok e3
    obtain ⟨rfl, rfl⟩ := ret_ok e4
    cases hx; cases hy
    rename_i z i
    have hz2 := of_decide_eq_true hz
    exact ix_str value slice pins s σ H _ _ v u Q I rx ry ⟨toStr z, i, c, rfl, rfl, by simpa [toStr, Str.length] using hz2, by simpa [toStr] using e5, p.now R rfl⟩ hs
  · obtain ⟨xs, S1, e1, e2⟩ := bnd_ok e
    obtain ⟨e3, rfl⟩ := look_ok e1
    obtain ⟨e4, rfl⟩ := ofO_ok e2
    obtain ⟨a, vs, rfl, h1, h2⟩ := seq_at R hx e3
    cases hy
    obtain ⟨w, q1, q2⟩ := atI_rel h2 e4
    rcases h1 with h1 | h1
    · exact ix_list value slice pins s σ H _ _ v u Q I rx ry ⟨a, vs, _, w, rfl, rfl, h1, q1, p.now R q2⟩ hs
    · exact ix_tup value slice pins s σ H _ _ v u Q I rx ry ⟨a, vs, _, w, rfl, rfl, h1, q1, p.now R q2⟩ hs
  · exact fail_ok e
def rSl (X : Cx) (m : Bool) : V → Option Int → Option Int → Hp → VK → Prop := fun x lo hi H Q => ∃ B ρ S dx d S', Rel (kx X B) ρ H S ∧ RelD (kx X B) ρ H dx x ∧ slcM m dx lo hi S = .ok d S' ∧ Post (kx X B) ρ H d S' Q
theorem cut_all {vs : List V} {lo hi : Option Int} (h : HT.sIx vs.length 0 lo = 0 ∧ HT.sIx vs.length vs.length hi = vs.length) : cutV vs lo hi = vs := by
  unfold cutV
  rw [h.1, h.2]
  simp
theorem sl_all (m : Bool) : SlR X (rSl X m) := by
  intro pins s σ H x v vl vu lo hi sl Q I rx hs pl pu h
  obtain ⟨B, ρ, S, dx, d, S', R, hx, e, p⟩ := h
  unfold slcM at e
  split at e
  · obtain ⟨hz, e2⟩ := gd_ok e
    obtain ⟨rfl, rfl⟩ := ret_ok e2
    cases hx
    rename_i z
    have hz2 := of_decide_eq_true hz
    refine sl_str pins s σ H _ v vl vu lo hi sl Q I rx hs pl pu ⟨toStr z, rfl, by simpa [toStr, Str.length] using hz2, ?_⟩
    have e : cutS (toStr z) lo hi = toStr (cut z lo hi) := by simp [cutS, toStr, cut, Str.length]
    rw [e]
    exact p.now R rfl
  · obtain ⟨rfl, rfl⟩ := ret_ok e
    obtain ⟨a, vs, rfl, h1, h2⟩ := hx
    refine sl_tupA pins s σ H _ v vl vu lo hi sl Q I rx hs pl pu ⟨a, vs, rfl, .of h1, fun hw => ?_, fun _ b n => ?_⟩
    · refine p.now R ⟨a, vs, rfl, h1, ?_⟩
      have := h2.cut lo hi
      rwa [cut_all hw] at this
    · exact p ρ _ _ (Ext.new n) (R.new n) ⟨b, _, rfl, upd_same, (h2.cut lo hi).ext (Ext.new n)⟩
  · rename_i ns
    obtain ⟨a, vs, rfl, h1, h2⟩ := seq_at R hx (xs := ns.map D.int) rfl
    obtain ⟨hz, q⟩ := Post.list R e p (h2.cut lo hi)
    rcases h1 with h1 | h1
    · exact sl_list pins s σ H _ v vl vu lo hi sl Q I rx hs pl pu ⟨a, vs, rfl, h1, q⟩
    · obtain ⟨its, r1, ⟨o, e1, c1, _⟩, _⟩ := I.tuple h1
      exfalso
      obtain ⟨b, eb, hb⟩ := hx
      cases eb
      have hl : SqL X.K H a (ns.map V.int) := by
        rcases hb with ⟨o, z⟩ | (z | ⟨o, z⟩) | z
        · exact .inl (.inr ⟨o, z⟩)
        · cases z
        · cases z
        · exact .inr z
      obtain ⟨its2, r2, ⟨o2, n2, e2, c2, _⟩, _⟩ := I.list hl
      rw [e1] at e2; cases e2
      rw [c1] at c2
      exact absurd c2 (by decide)
  · obtain ⟨xs, S1, e1, e2⟩ := bnd_ok e
    obtain ⟨e3, rfl⟩ := look_ok e1
    obtain ⟨a, vs, rfl, h1, h2⟩ := list_at R hx e3
    obtain ⟨hz, q⟩ := Post.list R e2 p (h2.cut lo hi)
    exact sl_list pins s σ H _ v vl vu lo hi sl Q I rx hs pl pu ⟨a, vs, rfl, .of h1, q⟩

/-! ### built-in functions -/
def rB (X : Cx) (g : List D → M D) : List V → Hp → VK → Prop := fun vs H Q => ∃ B ρ S ds d S', Rel (kx X B) ρ H S ∧ RelDs (kx X B) ρ H ds vs ∧ g ds S = .ok d S' ∧ Post (kx X B) ρ H d S' Q
theorem one_of {k : Kx} {ρ : List Addr} {H : Hp} {d : D} {vs : List V} (r : RelDs k ρ H [d] vs) : ∃ v, vs = [v] ∧ RelD k ρ H d v := by
  obtain ⟨w, ws, h1, h2, h3⟩ := r
  cases h3
  exact ⟨w, h1, h2⟩
theorem two_of {k : Kx} {ρ : List Addr} {H : Hp} {d e : D} {vs : List V} (r : RelDs k ρ H [d, e] vs) : ∃ v u, vs = [v, u] ∧ RelD k ρ H d v ∧ RelD k ρ H e u := by
  obtain ⟨w, ws, h1, h2, h3⟩ := r
  obtain ⟨u, h4, h5⟩ := one_of h3
  exact ⟨w, u, by rw [h1, h4], h2, h5⟩
theorem blt_len : CallR X (.builtin "len") (rB X lenM) := by
  intro pins s σ H vs us Q I r h
  obtain ⟨B, ρ, S, ds, d, S', R, hd, e, p⟩ := h
  unfold lenM at e
  split at e
  · obtain ⟨n, S1, e1, e2⟩ := bnd_ok e
    obtain ⟨e3, rfl⟩ := look_ok e1
    obtain ⟨hz, e4⟩ := gd_ok e2
    obtain ⟨rfl, rfl⟩ := ret_ok e4
    obtain ⟨v, rfl, hv⟩ := one_of hd
    have hz2 := of_decide_eq_true hz
    rename_i a
    cases a with
    | str z =>
      cases hv
      have e6 : z.length = n := by simpa [lenOf] using e3
      subst e6
      refine call_len_str pins s σ H _ us Q I r ⟨toStr z, rfl, by simpa [toStr, Str.length] using hz2, ?_⟩
      have := p.now R (v := .int z.length) rfl
      simpa [toStr, Str.length] using this
    | _ =>
      simp only [lenOf, Option.map_eq_some_iff] at e3
      obtain ⟨xs, e5, e6⟩ := e3
      obtain ⟨b, ws, rfl, h1, h2⟩ := seq_at R hv e5
      exact call_len_seq pins s σ H _ us Q I r ⟨b, ws, rfl, h1, by rw [← h2.length, e6]; exact p.now R rfl⟩
  · exact fail_ok e
theorem blt_int : CallR X (.type "int") (rB X intM) := by
  intro pins s σ H vs us Q I r h
  obtain ⟨B, ρ, S, ds, d, S', R, hd, e, p⟩ := h
  unfold intM at e
  split at e
  · obtain ⟨rfl, rfl⟩ := ret_ok e
    obtain ⟨v, rfl, hv⟩ := one_of hd
    cases hv
    exact call_int1 pins s σ H _ us Q I r (.inl ⟨_, rfl, p.now R rfl⟩)
  · obtain ⟨rfl, rfl⟩ := ret_ok e
    obtain ⟨v, rfl, hv⟩ := one_of hd
    cases hv
    exact call_int1 pins s σ H _ us Q I r (.inr ⟨_, rfl, p.now R rfl⟩)
  · exact fail_ok e
theorem bools_at {k : Kx} {ρ : List Addr} {H : Hp} : ∀ {ds : List D} {vs : List V} {bs : List Bool}, RelDs k ρ H ds vs → boolsOf ds = some bs → vs = bs.map V.bl
  | [], _, _, r, e => by cases r; cases e; rfl
  | d :: ds, _, bs, ⟨w, ws, h1, h2, h3⟩, e => by
    cases d <;> try (simp [boolsOf] at e; done)
    simp only [boolsOf, Option.map_eq_some_iff] at e
    obtain ⟨cs, e1, e2⟩ := e
    subst h1 e2
    cases h2
    rw [bools_at h3 e1]
    rfl
theorem strs_at {k : Kx} {ρ : List Addr} {H : Hp} : ∀ {ds : List D} {vs : List V} {bs : List (List Nat)}, RelDs k ρ H ds vs → strsOf ds = some bs → vs = (bs.map toStr).map V.str
  | [], _, _, r, e => by cases r; cases e; rfl
  | d :: ds, _, bs, ⟨w, ws, h1, h2, h3⟩, e => by
    cases d <;> try (simp [strsOf] at e; done)
    simp only [strsOf, Option.map_eq_some_iff] at e
    obtain ⟨cs, e1, e2⟩ := e
    subst h1 e2
    cases h2
    rw [strs_at h3 e1]
    rfl
theorem bools_in {k : Kx} {ρ : List Addr} {H : Hp} {S : Sto} {d : D} {v : V} {bs : List Bool} (R : Rel k ρ H S) (r : RelD k ρ H d v) (e : (listOf S d).bind boolsOf = some bs) : ∃ a, v = .ref a ∧ SqL k.K H a (bs.map V.bl) := by
  obtain ⟨xs, e1, e2⟩ := Option.bind_eq_some_iff.mp e
  obtain ⟨a, vs, rfl, h1, h2⟩ := list_at R r e1
  rw [bools_at h2 e2] at h1
  exact ⟨a, rfl, .of h1⟩
theorem blt_all (hc : X.calm = true) : CallR X (.builtin "all") (rB X allM) := by
  intro pins s σ H vs us Q I r h
  obtain ⟨B, ρ, S, ds, d, S', R, hd, e, p⟩ := h
  unfold allM at e
  split at e
  · obtain ⟨bs, S1, e1, e2⟩ := bnd_ok e
    obtain ⟨e3, rfl⟩ := look_ok e1
    obtain ⟨rfl, rfl⟩ := ret_ok e2
    obtain ⟨v, rfl, hv⟩ := one_of hd
    obtain ⟨a, rfl, h1⟩ := bools_in R hv e3
    exact cr_all hc pins s σ H _ us Q I r ⟨a, bs, rfl, h1, p.now R rfl⟩
  · exact fail_ok e
theorem blt_any (hc : X.calm = true) : CallR X (.builtin "any") (rB X anyM) := by
  intro pins s σ H vs us Q I r h
  obtain ⟨B, ρ, S, ds, d, S', R, hd, e, p⟩ := h
  unfold anyM at e
  split at e
  · obtain ⟨bs, S1, e1, e2⟩ := bnd_ok e
    obtain ⟨e3, rfl⟩ := look_ok e1
    obtain ⟨rfl, rfl⟩ := ret_ok e2
    obtain ⟨v, rfl, hv⟩ := one_of hd
    obtain ⟨a, rfl, h1⟩ := bools_in R hv e3
    exact cr_any hc pins s σ H _ us Q I r ⟨a, bs, rfl, h1, p.now R rfl⟩
  · exact fail_ok e
theorem blt_min (hc : X.calm = true) : CallR X (.builtin "min") (rB X minM) := by
  intro pins s σ H vs us Q I r h
  obtain ⟨B, ρ, S, ds, d, S', R, hd, e, p⟩ := h
  unfold minM at e
  split at e
  · obtain ⟨rfl, rfl⟩ := ret_ok e
    obtain ⟨v, u, rfl, hv, hu⟩ := two_of hd
    cases hv; cases hu
    exact call_min2 hc pins s σ H _ us Q I r ⟨_, _, rfl, p.now R rfl⟩
  · exact fail_ok e
theorem blt_max (hc : X.calm = true) : CallR X (.builtin "max") (rB X maxM) := by
  intro pins s σ H vs us Q I r h
  obtain ⟨B, ρ, S, ds, d, S', R, hd, e, p⟩ := h
  unfold maxM at e
  split at e
  · obtain ⟨rfl, rfl⟩ := ret_ok e
    obtain ⟨v, u, rfl, hv, hu⟩ := two_of hd
    cases hv; cases hu
    exact call_max2 hc pins s σ H _ us Q I r ⟨_, _, rfl, p.now R rfl⟩
  · exact fail_ok e
theorem blt_list (m : Bool) : CallR X (.type "list") (rB X (lstM m)) := by
  intro pins s σ H vs us Q I r h
  obtain ⟨B, ρ, S, ds, d, S', R, hd, e, p⟩ := h
  unfold lstM at e
  split at e
  · obtain ⟨xs, S1, e1, e2⟩ := bnd_ok e
    obtain ⟨e3, rfl⟩ := look_ok e1
    obtain ⟨v, rfl, hv⟩ := one_of hd
    obtain ⟨a, ws, rfl, h1, h2⟩ := seq_at R hv e3
    obtain ⟨hz, q⟩ := Post.list R e2 p h2
    exact call_list_of pins s σ H _ us Q I r ⟨a, ws, rfl, h1, q⟩
  · exact fail_ok e
theorem blt_tuple : CallR X (.type "tuple") (rB X tupM) := by
  intro pins s σ H vs us Q I r h
  obtain ⟨B, ρ, S, ds, d, S', R, hd, e, p⟩ := h
  unfold tupM at e
  split at e
  · obtain ⟨rfl, rfl⟩ := ret_ok e
    obtain ⟨v, rfl, hv⟩ := one_of hd
    obtain ⟨a, ws, rfl, h1, h2⟩ := id hv
    exact call_tuple_of pins s σ H _ us Q I r ⟨a, ws, rfl, .inr ⟨.of h1, p.now R hv⟩⟩
  · obtain ⟨xs, S1, e1, e2⟩ := bnd_ok e
    obtain ⟨e3, rfl⟩ := look_ok e1
    obtain ⟨v, rfl, hv⟩ := one_of hd
    obtain ⟨a, ws, rfl, h1, h2⟩ := list_at R hv e3
    obtain ⟨hz, q⟩ := Post.tup R e2 p h2
    exact call_tuple_of pins s σ H _ us Q I r ⟨a, ws, rfl, .inl ⟨.of h1, q⟩⟩
  · exact fail_ok e
theorem ty_at {k : Kx} {ρ : List Addr} {H : Hp} {S : Sto} {d : D} {v : V} {t : String} (R : Rel k ρ H S) (r : RelD k ρ H d v) (e : tyOf S d = some t) : TyX k.K H v (.type t) := by
  cases d <;> simp only [tyOf] at e
  · cases r; cases e; exact .base .non
  · cases r; cases e; exact .base (.bl _)
  · cases r; cases e; exact .base (.int _)
  · cases r; cases e; exact .base (.str _)
  · obtain ⟨a, vs, rfl, h1, h2⟩ := r
    cases e
    exact .base (.tup h1)
  · obtain ⟨a, vs, rfl, h1, h2⟩ := r
    cases e
    exact .base (.lst h1)
  · obtain ⟨a, vs, rfl, h1, h2⟩ := r
    cases e
    exact .base (.dK h1)
  · cases e
  · obtain ⟨a, h1, rfl⟩ := r
    split at e
    · rename_i q
      cases e
      obtain ⟨vs, q1, _⟩ := R.obj _ _ _ h1 q
      exact .base (.lst q1)
    · rename_i q
      cases e
      obtain ⟨vs, q1, _⟩ := R.obj _ _ _ h1 q
      exact .base (.dK q1)
    · cases e
  · cases e
  · cases e
  · obtain ⟨a, vs, rfl, h1, h2⟩ := r
    cases e
    rcases h1 with (h1 | ⟨o, h1⟩) | ⟨o, its, n, h1, h2, _⟩
    · exact .base (.tup h1)
    · exact .fTuple h1
    · exact .kTuple h1 h2
  · cases e
def allTys : List String := ["NoneType", "bool", "int", "str", "tuple", "list", "dict"]
theorem ty_all {S : Sto} {d : D} {t : String} (e : tyOf S d = some t) : t ∈ allTys := by
  cases d <;> simp only [tyOf] at e
  case loc =>
    split at e <;> cases e <;> decide
  all_goals first | (cases e; decide) | cases e
theorem kit_all : ∀ t ∈ allTys, ∀ n ∈ tyNames, kitB t n = some (isSub t n) := by decide +kernel
theorem blt_isi : CallR X (.builtin "isinstance") (rB X isiM) := by
  intro pins s σ H vs us Q I r h
  obtain ⟨B, ρ, S, ds, d, S', R, hd, e, p⟩ := h
  unfold isiM at e
  split at e
  · obtain ⟨t, S1, e1, e2⟩ := bnd_ok e
    obtain ⟨e3, rfl⟩ := look_ok e1
    obtain ⟨hz, e4⟩ := gd_ok e2
    obtain ⟨rfl, rfl⟩ := ret_ok e4
    obtain ⟨v, u, rfl, hv, hu⟩ := two_of hd
    cases hu
    rename_i n
    have hn : n ∈ tyNames := by simpa using hz
    exact call_isi pins s σ H _ us Q I r ⟨v, .ty n, .type t, .type n, isSub t n, rfl, .ty n, ty_at R hv e3, kit_ty (kit_all t (ty_all e3) n hn), p.now R rfl⟩
  · exact fail_ok e
end
end MI
set_option Elab.async false
set_option linter.all false
set_option maxRecDepth 100000
set_option maxHeartbeats 2000000
namespace MI
open PySem PySem.Spec PyProof.Rows L2
section
variable {X : Cx} {pins : List (Addr × Obj)} {σ : L2.St} {H : Hp} {s : Shared}
/-- the table of modules is one of the written part -/
def SysK (h : Heap) : Prop := ∃ o, h.get? sysModules = some o ∧ o.cls = .type "dict"
theorem sys_free (I : Inv X pins σ H s) (hy : SysK X.base) : H sysModules = none := by
  obtain ⟨o, h1, _⟩ := hy
  exact (I.bs sysModules o h1).2
theorem ne_sys (I : Inv X pins σ H s) (hy : SysK X.base) {a : Addr} {u : HO} (h : H a = some u) : a ≠ sysModules := fun e => by
  subst e
  rw [sys_free I hy] at h; cases h
theorem key_reads {h : Heap} {k : Key} {v : Value} (e : keyIs k v = true) : Reads h v (keyPy k) [] := by
  rcases keyIs_shape e with ⟨i, t, rfl, rfl⟩ | ⟨x, t, rfl, rfl⟩
  · exact .int i t
  · exact .str x t
theorem keys_reads {h : Heap} {w : World} {P : Program} : ∀ {es : List DictEntry} {kvs : List (Key × Value)}, Pairs (mixKind P w) es kvs → ReadsAll h (es.map (·.key)) ((kvs.map (·.1)).map keyPy) []
  | _, _, .nil => .nil
  | _, _, .cons h1 _ h3 => ReadsAll.cons (as := []) (bs := []) (key_reads h1) (keys_reads h3)
theorem vals_pairs {w : World} {P : Program} : ∀ {es : List DictEntry} {kvs : List (Key × Value)}, Pairs (mixKind P w) es kvs → es.map (·.val) = kvs.map (·.2)
  | _, _, .nil => rfl
  | _, _, .cons _ h2 h3 => by rw [List.map_cons, List.map_cons, h2, vals_pairs h3]
theorem kv_keys : ∀ {kvs : List (Key × V)} {us : List (Key × Value)}, KV kvs us → us.map (·.1) = kvs.map (·.1) ∧ Vals (kvs.map (·.2)) (us.map (·.2))
  | _, _, .nil => ⟨rfl, .nil⟩
  | _, _, .cons r t => by
    obtain ⟨q1, q2⟩ := kv_keys t
    exact ⟨by rw [List.map_cons, List.map_cons, q1, r.1], .cons r.2 q2⟩
mutual
theorem rd_reads (I : Inv X pins σ H s) (hy : SysK X.base) {B ρ : List Addr} {f : Nat → Option PyData} (hf : ∀ l a p, f l = some p → ρ[l]? = some a → ∃ as, Reads s.heap (.ref a) p as ∧ sysModules ∉ as) :
    ∀ {d : D} {v : V} {p : PyData} {u : Value}, RelD (kx X B) ρ H d v → toPyA f d = some p → RelV v u → ∃ as, Reads s.heap u p as ∧ sysModules ∉ as
  | .non, _, _, _, r, e, ru => by cases r; cases e; cases ru; exact ⟨_, .none, by simp⟩
  | .bl _, _, _, _, r, e, ru => by cases r; cases e; cases ru; exact ⟨_, .bool _, by simp⟩
  | .int _, _, _, _, r, e, ru => by cases r; cases e; obtain ⟨t, rfl⟩ := ru; exact ⟨_, .int _ t, by simp⟩
  | .str _, _, _, _, r, e, ru => by cases r; cases e; obtain ⟨t, rfl⟩ := ru; exact ⟨_, .str _ t, by simp⟩
  | .tup _, _, _, _, ⟨a, vs, h1, h2, h3⟩, e, ru => by
    simp only [toPyA, Option.map_eq_some_iff] at e
    obtain ⟨ps, e1, e2⟩ := e
    subst h1 e2
    cases ru
    obtain ⟨its, rv, ⟨o, ho, hc, n, hd⟩, _⟩ := I.tuple (.of h2)
    obtain ⟨as, q1, q2⟩ := rds_reads I hy hf h3 e1 rv
    exact ⟨_, .tuple ho hc hd (by simpa using q1), q2⟩
  | .ktup _, _, _, _, ⟨a, vs, h1, h2, h3⟩, e, ru => by
    simp only [toPyA, Option.map_eq_some_iff] at e
    obtain ⟨ps, e1, e2⟩ := e
    subst h1 e2
    cases ru
    obtain ⟨its, rv, ⟨o, ho, hc, n, hd⟩, _⟩ := I.tuple h2
    obtain ⟨as, q1, q2⟩ := rds_reads I hy hf h3 e1 rv
    exact ⟨_, .tuple ho hc hd (by simpa using q1), q2⟩
  | .dtt _ _, _, _, _, _, e, _ => by cases e
  | .lst _, _, _, _, ⟨a, vs, h1, h2, h3, h4⟩, e, ru => by
    simp only [toPyA, Option.map_eq_some_iff] at e
    obtain ⟨ps, e1, e2⟩ := e
    subst h1 e2
    cases ru
    obtain ⟨its, rv, ⟨o, n, ho, hc, _, hd⟩, _⟩ := I.list (.of h2)
    obtain ⟨as, q1, q2⟩ := rds_reads I hy hf h4 e1 rv
    exact ⟨_, .list ho hc hd (by simpa using q1), by simp [q2, Ne.symm (ne_sys I hy h2)]⟩
  | .dct ks _, _, _, _, ⟨a, vs, h1, h2, h3, h4, h5⟩, e, ru => by
    simp only [toPyA, Option.map_eq_some_iff] at e
    obtain ⟨ps, e1, e2⟩ := e
    subst h1 e2
    cases ru
    obtain ⟨_, _, us, kv, o, es, ep, ho, hx, hd, _, hp, _⟩ := I.hok a _ h2
    obtain ⟨q1, q2⟩ := kv_keys kv
    have z1 : (ks.zip vs).map (·.1) = ks := List.map_fst_zip (by omega)
    have z2 : (ks.zip vs).map (·.2) = vs := List.map_snd_zip (by omega)
    rw [z1] at q1
    rw [z2] at q2
    obtain ⟨as, r1, r2⟩ := rds_reads I hy hf h5 e1 q2
    have hl : ps.length = ks.length := by
      have := toPys_len e1
      have := h5.length
      omega
    refine ⟨_, .dict (as := []) (bs := as) ho hx.1 hd ?_ ?_, by simp [r2, Ne.symm (ne_sys I hy h2)]⟩
    · have := keys_reads (h := s.heap) hp
      rw [q1] at this
      rw [List.map_fst_zip (by simp [hl])]
      exact this
    · rw [vals_pairs hp, List.map_snd_zip (by simp [hl])]
      exact r1
  | .scr ns, _, _, _, ⟨a, h1, h2⟩, e, ru => by
    cases e
    subst h1
    cases ru
    have q : SqL X.K H a (ns.map V.int) := by
      rcases h2 with ⟨o, z⟩ | (z | ⟨o, z⟩) | z
      · exact .inl (.inr ⟨o, z⟩)
      · cases z
      · cases z
      · exact .inr z
    have hne : a ≠ sysModules := by
      rcases h2 with ⟨o, z⟩ | (z | ⟨o, z⟩) | ⟨o, its, n, z, hc, _⟩
      · exact ne_sys I hy z
      · cases z
      · cases z
      · intro e
        subst e
        obtain ⟨o2, y1, y2⟩ := hy
        have z := I.mod.kin _ _ z
        rw [y1] at z; cases z
        rw [y2] at hc
        exact absurd hc (by decide)
    obtain ⟨its, rv, ⟨o, n, ho, hc, _, hd⟩, _⟩ := I.list q
    have all : ∀ (ns : List Int) (us : List Value), Vals (ns.map V.int) us → ReadsAll s.heap us (ns.map PyData.int) [] := fun ns => by
      induction ns with
      | nil => intro us r; cases r; exact .nil
      | cons n ns ih =>
        intro us r
        cases r with
        | cons r1 r2 =>
          obtain ⟨t, rfl⟩ := r1
          exact ReadsAll.cons (as := []) (bs := []) (.int n t) (ih _ r2)
    exact ⟨_, .list ho hc hd (by simpa using all ns its rv), by simp [Ne.symm hne]⟩
  | .loc l, _, _, _, ⟨a, h1, h2⟩, e, ru => by
    subst h2
    cases ru
    exact hf l a _ e h1
  | .fn _, _, _, _, _, e, _ => by cases e
  | .ty _, _, _, _, _, e, _ => by cases e
theorem rds_reads (I : Inv X pins σ H s) (hy : SysK X.base) {B ρ : List Addr} {f : Nat → Option PyData} (hf : ∀ l a p, f l = some p → ρ[l]? = some a → ∃ as, Reads s.heap (.ref a) p as ∧ sysModules ∉ as) :
    ∀ {ds : List D} {vs : List V} {ps : List PyData} {us : List Value}, RelDs (kx X B) ρ H ds vs → toPysA f ds = some ps → Vals vs us → ∃ as, ReadsAll s.heap us ps as ∧ sysModules ∉ as
  | [], _, _, _, r, e, ru => by cases r; cases e; cases ru; exact ⟨_, .nil, by simp⟩
  | d :: ds, _, _, _, ⟨w, ws, h1, h2, h3⟩, e, ru => by
    subst h1
    simp only [toPysA] at e
    split at e
    · rename_i x xs e1 e2
      cases e
      cases ru with
      | cons r1 r2 =>
        obtain ⟨as, q1, q2⟩ := rd_reads I hy hf h2 e1 r1
        obtain ⟨bs, q3, q4⟩ := rds_reads I hy hf h3 e2 r2
        exact ⟨_, .cons q1 q3, by simp [q2, q4]⟩
    · cases e
theorem toPys_len {f : Nat → Option PyData} : ∀ {ds : List D} {ps : List PyData}, toPysA f ds = some ps → ps.length = ds.length
  | [], _, e => by cases e; rfl
  | d :: ds, _, e => by
    simp only [toPysA] at e
    split at e
    · rename_i x xs e1 e2
      cases e
      simp [toPys_len e2]
    · cases e
end
theorem loc_reads (I : Inv X pins σ H s) (hy : SysK X.base) {B ρ : List Addr} {S : Sto} (R : Rel (kx X B) ρ H S) : ∀ (n l : Nat) (a : Addr) (p : PyData), locPy S n l = some p → ρ[l]? = some a → ∃ as, Reads s.heap (.ref a) p as ∧ sysModules ∉ as
  | 0, _, _, _, e, _ => by cases e
  | n + 1, l, a, p, e, ha => by
    simp only [locPy] at e
    split at e
    · rename_i xs q
      simp only [Option.map_eq_some_iff] at e
      obtain ⟨ps, e1, e2⟩ := e
      subst e2
      obtain ⟨vs, q1, q2⟩ := R.obj l a _ ha q
      obtain ⟨its, rv, ⟨o, n, ho, hc, _, hd⟩, _⟩ := I.list (.of q1)
      obtain ⟨as, r1, r2⟩ := rds_reads I hy (fun l a p h1 h2 => loc_reads I hy R _ l a p h1 h2) q2 e1 rv
      exact ⟨_, .list ho hc hd (by simpa using r1), by simp [r2, Ne.symm (ne_sys I hy q1)]⟩
    · cases e
theorem blt_repr (hg : X.A.guards = some []) (hu : X.A.units + 66 < cLine) (hy : SysK X.base) : CallR X (.builtin "repr") (rB X reprM) := by
  intro pins s σ H vs us Q I r h
  obtain ⟨B, ρ, S, ds, d, S', R, hd, e, p⟩ := h
  unfold reprM at e
  split at e
  · obtain ⟨y, S1, e1, e2⟩ := bnd_ok e
    obtain ⟨e3, rfl⟩ := look_ok e1
    obtain ⟨hz, e4⟩ := gd_ok e2
    obtain ⟨rfl, rfl⟩ := ret_ok e4
    obtain ⟨v, rfl, hv⟩ := one_of hd
    obtain ⟨u, rfl, ru⟩ := vals1 r
    simp only [Bool.and_eq_true, decide_eq_true_eq] at hz
    obtain ⟨⟨z1, z2⟩, z3⟩ := hz
    have fin : RelD (kx X B) ρ H (.str y.shown.cps.toList) (.str y.shown) := by simp [RelD, toStr]
    obtain ⟨as, q1, q2⟩ := rd_reads I hy (fun l a p h1 h2 => loc_reads I hy R 3 l a p h1 h2) hv e3 ru
    cases q1 with
    | none => exact PySem.P.repr_of_none ⟨.str _, H, I.tok _, ⟨_, rfl⟩, p.now R fin⟩
    | bool b => exact PySem.P.repr_of_bool ⟨.str _, H, I.tok _, ⟨_, rfl⟩, p.now R fin⟩
    | int i t => exact PySem.P.repr_of_int (by simpa [PyData.showable] using z1) ⟨.str _, H, I.tok _, ⟨_, rfl⟩, p.now R fin⟩
    | str x t => exact PySem.P.repr_of_str (hsz := by simpa only [PyData.shown] using z2) ⟨.str _, H, I.tok _, ⟨_, rfl⟩, p.now R fin⟩
    | list h1 h2 h3 h4 => exact repr_of_reads' (hsz := z2) (Reads.list h1 h2 h3 h4) z1 (fun _ => q2) hg (by omega) (fun _ _ e => e) fun h' u tk hk => ⟨.str _, H, I.kept hk, ⟨u, rfl⟩, p.now R fin⟩
    | tuple h1 h2 h3 h4 => exact repr_of_reads' (hsz := z2) (Reads.tuple h1 h2 h3 h4) z1 (fun _ => q2) hg (by omega) (fun _ _ e => e) fun h' u tk hk => ⟨.str _, H, I.kept hk, ⟨u, rfl⟩, p.now R fin⟩
    | dict h1 h2 h3 h4 h5 => exact repr_of_reads' (hsz := z2) (Reads.dict h1 h2 h3 h4 h5) z1 (fun _ => q2) hg (by omega) (fun _ _ e => e) fun h' u tk hk => ⟨.str _, H, I.kept hk, ⟨u, rfl⟩, p.now R fin⟩
  · exact fail_ok e

/-! ### methods -/
def rM (X : Cx) (g : D → List D → M D) : V → List V → Hp → VK → Prop := fun x vs H Q => ∃ B ρ S dx ds d S', Rel (kx X B) ρ H S ∧ RelD (kx X B) ρ H dx x ∧ RelDs (kx X B) ρ H ds vs ∧ g dx ds S = .ok d S' ∧ Post (kx X B) ρ H d S' Q
theorem locL_ok {d : D} {S S' : Sto} {p : Nat × List D} (e : locL d S = .ok p S') : d = .loc p.1 ∧ S[p.1]? = some (.lst p.2) ∧ S' = S := by
  unfold locL at e
  split at e
  · rename_i l
    split at e
    · rename_i xs q
      cases e
      exact ⟨rfl, q, rfl⟩
    · cases e
  · cases e
theorem putL_ok {l : Nat} {xs : List D} {S S' : Sto} {d : D} (e : putL l xs S = .ok d S') : xs.length ≤ sizeLine ∧ d = .non ∧ S' = S.set l (.lst xs) := by
  unfold putL at e
  split at e
  · cases e; exact ⟨by assumption, rfl, rfl⟩
  · cases e
theorem mt_app : MtR X "list.append" (rM X appM) := by
  intro pins s σ H x vs v us Q I rx rv h
  obtain ⟨B, ρ, S, dx, ds, d, S', R, hx, hd, e, p⟩ := h
  unfold appM at e
  split at e
  · rename_i a
    obtain ⟨q, S1, e1, e2⟩ := bnd_ok e
    obtain ⟨rfl, e3, rfl⟩ := locL_ok e1
    obtain ⟨hz, rfl, rfl⟩ := putL_ok e2
    obtain ⟨b, h1, rfl⟩ := hx
    obtain ⟨y, rfl, hy⟩ := one_of hd
    obtain ⟨ws, q1, q2⟩ := R.obj _ _ _ h1 e3
    have ma : b ∈ ρ := List.mem_of_getElem? h1
    have ex : Ext ρ H ρ (upd H b (.lst (ws ++ [y]))) := Ext.put ma q1 trivial
    have hl := q2.length
    rw [List.length_append, List.length_singleton] at hz
    exact mt_append pins s σ H _ _ v us Q I rx rv ⟨b, ws, y, rfl, rfl, q1, by omega,
      p ρ _ _ ex (R.put h1 e3 ⟨_, upd_same, (q2.app (RelDs.one hy)).ext ex⟩) rfl⟩
  · exact fail_ok e
theorem mt_upp : MtR X "str.upper" (rM X uppM) := by
  intro pins s σ H x vs v us Q I rx rv h
  obtain ⟨B, ρ, S, dx, ds, d, S', R, hx, hd, e, p⟩ := h
  unfold uppM at e
  split at e
  · obtain ⟨hz, e2⟩ := gd_ok e
    obtain ⟨rfl, rfl⟩ := ret_ok e2
    cases hx; cases hd
    have hz2 := of_decide_eq_true hz
    exact mt_upper pins s σ H _ _ v us Q I rx rv ⟨_, rfl, rfl, by simpa [toStr, Str.length] using hz2, p.now R (by simp [RelD, toStr, upS])⟩
  · exact fail_ok e
theorem mt_low : MtR X "str.lower" (rM X lowM) := by
  intro pins s σ H x vs v us Q I rx rv h
  obtain ⟨B, ρ, S, dx, ds, d, S', R, hx, hd, e, p⟩ := h
  unfold lowM at e
  split at e
  · obtain ⟨hz, e2⟩ := gd_ok e
    obtain ⟨rfl, rfl⟩ := ret_ok e2
    cases hx; cases hd
    have hz2 := of_decide_eq_true hz
    exact mt_lower pins s σ H _ _ v us Q I rx rv ⟨_, rfl, rfl, by simpa [toStr, Str.length] using hz2, p.now R (by simp [RelD, toStr, loS])⟩
  · exact fail_ok e
theorem mt_joi : MtR X "str.join" (rM X joiM) := by
  intro pins s σ H x vs v us Q I rx rv h
  obtain ⟨B, ρ, S, dx, ds, d, S', R, hx, hd, e, p⟩ := h
  unfold joiM at e
  split at e
  · rename_i z a
    obtain ⟨ys, S1, e1, e2⟩ := bnd_ok e
    obtain ⟨e3, rfl⟩ := look_ok e1
    obtain ⟨hz, e4⟩ := gd_ok e2
    obtain ⟨rfl, rfl⟩ := ret_ok e4
    cases hx
    obtain ⟨y, rfl, hy⟩ := one_of hd
    obtain ⟨xs, q1, q2⟩ := Option.bind_eq_some_iff.mp e3
    obtain ⟨b, ws, rfl, h1, h2⟩ := list_at R hy q1
    rw [strs_at h2 q2] at h1
    have hz2 := of_decide_eq_true hz
    refine mt_join pins s σ H _ _ v us Q I rx rv ⟨toStr z, b, ys.map toStr, rfl, rfl, .inl (.of h1), ?_, p.now R (by simp [RelD, toStr, joinS])⟩
    have e5 : (ys.map toStr).map (·.length) = ys.map List.length := by
      rw [List.map_map]
      exact List.map_congr_left fun y _ => by simp [toStr, Str.length]
    rw [e5]
    have e6 : sizeLine = 16777216 := by decide
    rw [e6] at hz2
    simpa [toStr, Str.length] using hz2
  · exact fail_ok e
theorem mt_ext : MtR X "list.extend" (rM X extM) := by
  intro pins s σ H x vs v us Q I rx rv h
  obtain ⟨B, ρ, S, dx, ds, d, S', R, hx, hd, e, p⟩ := h
  unfold extM at e
  split at e
  · rename_i a
    obtain ⟨q, S1, e1, e2⟩ := bnd_ok e
    obtain ⟨rfl, e3, rfl⟩ := locL_ok e1
    obtain ⟨ys, S2, e4, e5⟩ := bnd_ok e2
    obtain ⟨e6, rfl⟩ := look_ok e4
    obtain ⟨hz, rfl, rfl⟩ := putL_ok e5
    obtain ⟨b, h1, rfl⟩ := hx
    obtain ⟨y, rfl, hy⟩ := one_of hd
    obtain ⟨c, zs, rfl, k1, k2⟩ := list_at R hy e6
    obtain ⟨ws, q1, q2⟩ := R.obj _ _ _ h1 e3
    have ma : b ∈ ρ := List.mem_of_getElem? h1
    have ex : Ext ρ H ρ (upd H b (.lst (ws ++ zs))) := Ext.put ma q1 trivial
    have hl := q2.length
    have hl2 := k2.length
    rw [List.length_append] at hz
    exact mt_extend pins s σ H _ _ v us Q I rx rv ⟨b, c, ws, zs, rfl, rfl, q1, k1, by omega,
      p ρ _ _ ex (R.put h1 e3 ⟨_, upd_same, (q2.app k2).ext ex⟩) rfl⟩
  · exact fail_ok e
theorem RelDs.erase {k : Kx} {ρ : List Addr} {H : Hp} : ∀ {ds : List D} {vs : List V} (j : Nat), RelDs k ρ H ds vs → RelDs k ρ H (ds.eraseIdx j) (vs.eraseIdx j)
  | [], _, _, h => by cases h; exact rfl
  | _ :: _, _, 0, ⟨w, ws, h1, h2, h3⟩ => by subst h1; exact h3
  | _ :: _, _, j + 1, ⟨w, ws, h1, h2, h3⟩ => by subst h1; exact ⟨w, _, rfl, h2, RelDs.erase j h3⟩
theorem mt_pops : MtR X "list.pop" (rM X popM) := by
  intro pins s σ H x vs v us Q I rx rv h
  obtain ⟨B, ρ, S, dx, ds, d, S', R, hx, hd, e, p⟩ := h
  unfold popM at e
  split at e
  · obtain ⟨q, S1, e1, e2⟩ := bnd_ok e
    obtain ⟨rfl, e3, rfl⟩ := locL_ok e1
    obtain ⟨y, S2, e4, e5⟩ := bnd_ok e2
    obtain ⟨e6, rfl⟩ := ofO_ok e4
    obtain ⟨u, S3, e7, e8⟩ := bnd_ok e5
    obtain ⟨hz, rfl, rfl⟩ := putL_ok e7
    obtain ⟨rfl, rfl⟩ := ret_ok e8
    obtain ⟨b, h1, rfl⟩ := hx
    cases hd
    obtain ⟨ws, q1, q2⟩ := R.obj _ _ _ h1 e3
    have ma : b ∈ ρ := List.mem_of_getElem? h1
    have ex : Ext ρ H ρ (upd H b (.lst ws.dropLast)) := Ext.put ma q1 trivial
    rw [List.getLast?_eq_getElem?, q2.length] at e6
    obtain ⟨z, z1, z2⟩ := q2.get e6
    have ql : RelDs (kx X B) ρ H q.2.dropLast ws.dropLast := by
      rw [List.dropLast_eq_take, List.dropLast_eq_take, q2.length]
      exact q2.take _
    exact mt_pop pins s σ H _ _ v us Q I rx rv ⟨b, ws, z, rfl, rfl, q1, z1, p ρ _ _ ex (R.put h1 e3 ⟨_, upd_same, ql.ext ex⟩) (z2.ext ex)⟩
  · obtain ⟨hb, e⟩ := gd_ok e
    obtain ⟨q, S1, e1, e2⟩ := bnd_ok e
    obtain ⟨rfl, e3, rfl⟩ := locL_ok e1
    obtain ⟨j, S0, e9, e10⟩ := bnd_ok e2
    obtain ⟨e11, rfl⟩ := ofO_ok e9
    obtain ⟨y, S2, e4, e5⟩ := bnd_ok e10
    obtain ⟨e6, rfl⟩ := ofO_ok e4
    obtain ⟨u, S3, e7, e8⟩ := bnd_ok e5
    obtain ⟨hz, rfl, rfl⟩ := putL_ok e7
    obtain ⟨rfl, rfl⟩ := ret_ok e8
    obtain ⟨b, h1, rfl⟩ := hx
    obtain ⟨w, rfl, hw⟩ := one_of hd
    cases hw
    obtain ⟨ws, q1, q2⟩ := R.obj _ _ _ h1 e3
    have ma : b ∈ ρ := List.mem_of_getElem? h1
    have ex : Ext ρ H ρ (upd H b (.lst (ws.eraseIdx j))) := Ext.put ma q1 trivial
    obtain ⟨z, z1, z2⟩ := q2.get e6
    have hb := of_decide_eq_true hb
    rw [q2.length] at e11
    exact mt_popAt pins s σ H _ _ v us Q I rx rv ⟨b, ws, _, j, z, rfl, rfl, q1, hb.1, by omega, (ixN_seq e11).1, z1, p ρ _ _ ex (R.put h1 e3 ⟨_, upd_same, (q2.erase j).ext ex⟩) (z2.ext ex)⟩
  · exact fail_ok e
theorem rel_strs {k : Kx} {ρ : List Addr} {H : Hp} : ∀ ws : List Str, RelDs k ρ H ((ws.map fun w => w.cps.toList).map .str) (ws.map V.str)
  | [] => rfl
  | w :: ws => ⟨_, _, rfl, by simp [RelD, toStr], rel_strs ws⟩
theorem mt_spl (m : Bool) : MtR X "str.split" (rM X (splM m)) := by
  intro pins s σ H x vs v us Q I rx rv h
  obtain ⟨B, ρ, S, dx, ds, d, S', R, hx, hd, e, p⟩ := h
  unfold splM at e
  split at e
  · rename_i z b
    obtain ⟨hz, e2⟩ := gd_ok e
    cases hx
    obtain ⟨w, rfl, hw⟩ := one_of hd
    cases hw
    simp only [Bool.and_eq_true, Bool.not_eq_true', decide_eq_true_eq] at hz
    obtain ⟨_, q⟩ := Post.list R e2 p (vs := (Txt.split (toStr z) (toStr b)).map V.str) (rel_strs _)
    refine mt_split pins s σ H _ _ v us Q I rx rv ⟨toStr z, toStr b, rfl, rfl, ?_, ?_, q⟩
    · have h1 := hz.1
      cases b with
      | nil => cases h1
      | cons c b => simp [toStr, Str.length]
    · simpa [toStr, Str.length] using hz.2
  · exact fail_ok e
theorem mt_sin : MtR X "str.index" (rM X sinM) := by
  intro pins s σ H x vs v us Q I rx rv h
  obtain ⟨B, ρ, S, dx, ds, d, S', R, hx, hd, e, p⟩ := h
  unfold sinM at e
  split at e
  · rename_i z b
    obtain ⟨i, S1, e1, e2⟩ := bnd_ok e
    obtain ⟨e3, rfl⟩ := ofO_ok e1
    obtain ⟨rfl, rfl⟩ := ret_ok e2
    cases hx
    obtain ⟨w, rfl, hw⟩ := one_of hd
    cases hw
    unfold findS at e3
    cases ho : Builtin.Str.occurrences (toStr z) (toStr b) 0 z.length 1 with
    | nil => rw [ho] at e3; cases e3
    | cons k rest =>
      rw [ho] at e3
      cases e3
      exact mt_sindex pins s σ H _ _ v us Q I rx rv ⟨toStr z, toStr b, i, rest, rfl, rfl, by simpa [toStr, Str.length] using ho, p.now R rfl⟩
  · exact fail_ok e
/-- o[i] = v -/
def rSet (X : Cx) : V → V → V → Hp → (Hp → Prop) → Prop := fun o i v H Q => ∃ B ρ S dO dI dV S', Rel (kx X B) ρ H S ∧ RelD (kx X B) ρ H dO o ∧ RelD (kx X B) ρ H dI i ∧ RelD (kx X B) ρ H dV v ∧ setM dO dI dV S = .ok () S' ∧
  ∀ ρ' H', Ext ρ H ρ' H' → Rel (kx X B) ρ' H' S' → Q H'
theorem set_ok : PSet X (rSet X) := by
  intro pins s σ H o i v ov iv u Q I ro ri rv h
  obtain ⟨B, ρ, S, dO, dI, dV, S', R, hO, hI, hV, e, p⟩ := h
  unfold setM at e
  split at e
  · obtain ⟨q, S1, e1, e2⟩ := bnd_ok e
    obtain ⟨rfl, e3, rfl⟩ := locL_ok e1
    cases hj : ixN q.2.length ‹Int› with
    | none => rw [hj] at e2; exact fail_ok e2
    | some j =>
      rw [hj] at e2
      obtain ⟨d, S2, e4, e5⟩ := bnd_ok e2
      obtain ⟨hz, rfl, rfl⟩ := putL_ok e4
      obtain ⟨_, rfl⟩ := ret_ok e5
      obtain ⟨b, h1, rfl⟩ := hO
      cases hI
      obtain ⟨ws, q1, q2⟩ := R.obj _ _ _ h1 e3
      have ma : b ∈ ρ := List.mem_of_getElem? h1
      have ex : Ext ρ H ρ (upd H b (.lst (ws.set j v))) := Ext.put ma q1 trivial
      rw [q2.length] at hj
      exact set_list pins s σ H _ _ v ov iv u Q I ro ri rv ⟨b, ws, _, j, rfl, rfl, q1, hj, p ρ _ ex (R.put h1 e3 ⟨_, upd_same, (RelDs.set hV j q2).ext ex⟩)⟩
  · exact fail_ok e
/-! ### truth -/
theorem tru_at {k : Kx} {ρ : List Addr} {H : Hp} {S : Sto} {d : D} {v : V} {b : Bool} (R : Rel k ρ H S) (r : RelD k ρ H d v) (e : truthOf S d = some b) : TruV k.K v H b := by
  have seq : ∀ {xs : List D}, seqOf S d = some xs → (!xs.isEmpty) = b → TruV k.K v H b := fun {xs} e1 e2 => by
    obtain ⟨a, vs, rfl, h1, h2⟩ := seq_at R r e1
    have e3 : vs.isEmpty = xs.isEmpty := by
      have := h2.length
      cases xs <;> cases vs <;> simp_all
    rcases h1 with h1 | h1
    · exact .inl ⟨vs, h1, by rw [e3]; exact e2.symm⟩
    · exact .inr (.inl ⟨vs, h1, by rw [e3]; exact e2.symm⟩)
  cases d with
  | non => cases r; cases e; rfl
  | bl b => cases r; cases e; rfl
  | int i => cases r; cases e; rfl
  | str z =>
    cases r
    simp only [truthOf] at e
    split at e
    · rename_i hz
      cases e
      refine ⟨by simpa [toStr, Str.length] using hz, ?_⟩
      cases z with
      | nil => simp [toStr, Str.length]
      | cons c z => simp only [toStr, Str.length, List.size_toArray, List.length_cons, List.isEmpty_cons, Bool.not_false]; symm; simp; omega
    · cases e
  | _ =>
    simp only [truthOf, Option.map_eq_some_iff] at e
    obtain ⟨xs, e1, e2⟩ := e
    exact seq e1 e2
end
end MI
set_option Elab.async false
set_option linter.all false
set_option maxRecDepth 100000
set_option maxHeartbeats 2000000
namespace MI
open PySem PySem.Spec PyProof.Rows L2

/-! ### a list that is being filled -/
section
variable {K : PySem.W.Frag} {mg : Str → Option Value} {B ρ : List Addr} {H : Hp} {S : Sto} {P : Addr}
theorem Rd.upd_ne' {u : HO} {a : Addr} {o : HO} (h : H a = some o) (n : a ≠ P) : upd H P u a = some o := by rw [upd_ne n]; exact h
/-- a list or a dict that is being filled -/
def Fil (H : Hp) (P : Addr) : Prop := (∃ xs, H P = some (.lst xs)) ∨ ∃ kvs, H P = some (.dK kvs)
theorem SqT.fill {a : Addr} {vs : List V} {u w : HO} (h : SqT K H a vs) (hP : H P = none ∨ Fil H P) : SqT K (upd H P u) a vs := by
  have ne : ∀ o, H a = some o → (∀ xs, o ≠ .lst xs) → (∀ xs, o ≠ .dK xs) → a ≠ P := fun o q n n2 e => by
    subst e
    rcases hP with z | ⟨xs, z⟩ | ⟨xs, z⟩
    · rw [z] at q; cases q
    · rw [z] at q; cases q; exact n xs rfl
    · rw [z] at q; cases q; exact n2 xs rfl
  rcases h with (h | ⟨o, h⟩) | h
  · exact .inl (.inl (Rd.upd_ne' h (ne _ h (fun _ z => nomatch z) fun _ z => nomatch z)))
  · exact .inl (.inr ⟨o, Rd.upd_ne' h (ne _ h (fun _ z => nomatch z) fun _ z => nomatch z)⟩)
  · exact .inr h
theorem Fil.ne {a : Addr} {o : HO} (hP : Fil H P) (h : H a = some o) (n : ∀ xs, o ≠ .lst xs) (n2 : ∀ xs, o ≠ .dK xs) : a ≠ P := fun e => by
  subst e
  rcases hP with ⟨xs, z⟩ | ⟨xs, z⟩
  · rw [z] at h; cases h; exact n xs rfl
  · rw [z] at h; cases h; exact n2 xs rfl
mutual
theorem RelD.start (hP : H P = none) (u : HO) : ∀ {d : D} {v : V}, RelD ⟨K, mg, B⟩ ρ H d v → RelD ⟨K, mg, P :: B⟩ ρ (upd H P u) d v
  | .non, _, h => h
  | .bl _, _, h => h
  | .int _, _, h => h
  | .str _, _, h => h
  | .tup _, _, ⟨a, vs, h1, h2, h3⟩ => ⟨a, vs, h1, Rd.upd_ne' h2 (ne_of_none h2 hP), RelDs.start hP u h3⟩
  | .ktup _, _, ⟨a, vs, h1, h2, h3⟩ => ⟨a, vs, h1, SqT.fill (w := u) h2 (.inl hP), RelDs.start hP u h3⟩
  | .dtt _ _, _, ⟨a, o, vs, h1, h2, h3, h4⟩ => ⟨a, o, vs, h1, Rd.upd_ne' h2 (ne_of_none h2 hP), h3, RelDs.start hP u h4⟩
  | .lst _, _, ⟨a, vs, h1, h2, h3, h4⟩ => ⟨a, vs, h1, Rd.upd_ne' h2 (ne_of_none h2 hP), ⟨h3.1, fun z => (List.mem_cons.mp z).elim (ne_of_none h2 hP) h3.2⟩, RelDs.start hP u h4⟩
  | .dct _ _, _, ⟨a, vs, h1, h2, h3, h4, h5⟩ => ⟨a, vs, h1, Rd.upd_ne' h2 (ne_of_none h2 hP), ⟨h3.1, fun z => (List.mem_cons.mp z).elim (ne_of_none h2 hP) h3.2⟩, h4, RelDs.start hP u h5⟩
  | .scr _, _, ⟨a, h1, h2⟩ => ⟨a, h1, h2.elim (fun ⟨o, z⟩ => .inl ⟨o, Rd.upd_ne' z (ne_of_none z hP)⟩) .inr⟩
  | .loc _, _, h => h
  | .fn _, _, h => h
  | .ty _, _, h => h
theorem RelDs.start (hP : H P = none) (u : HO) : ∀ {ds : List D} {vs : List V}, RelDs ⟨K, mg, B⟩ ρ H ds vs → RelDs ⟨K, mg, P :: B⟩ ρ (upd H P u) ds vs
  | [], _, h => h
  | _ :: _, _, ⟨w, ws, h1, h2, h3⟩ => ⟨w, ws, h1, RelD.start hP u h2, RelDs.start hP u h3⟩
end
mutual
theorem RelD.fill (u : HO) (hP : Fil H P) : ∀ {d : D} {v : V}, RelD ⟨K, mg, P :: B⟩ ρ H d v → RelD ⟨K, mg, P :: B⟩ ρ (upd H P u) d v
  | .non, _, h => h
  | .bl _, _, h => h
  | .int _, _, h => h
  | .str _, _, h => h
  | .tup _, _, ⟨a, vs, h1, h2, h3⟩ => ⟨a, vs, h1, Rd.upd_ne' h2 (hP.ne h2 (fun _ z => nomatch z) fun _ z => nomatch z), RelDs.fill u hP h3⟩
  | .ktup _, _, ⟨a, vs, h1, h2, h3⟩ => ⟨a, vs, h1, SqT.fill (w := u) h2 (.inr hP), RelDs.fill u hP h3⟩
  | .dtt _ _, _, ⟨a, o, vs, h1, h2, h3, h4⟩ => ⟨a, o, vs, h1, Rd.upd_ne' h2 (hP.ne h2 (fun _ z => nomatch z) fun _ z => nomatch z), h3, RelDs.fill u hP h4⟩
  | .lst _, _, ⟨a, vs, h1, h2, h3, h4⟩ => ⟨a, vs, h1, Rd.upd_ne' h2 (fun e => h3.2 (e ▸ List.mem_cons_self)), h3, RelDs.fill u hP h4⟩
  | .dct _ _, _, ⟨a, vs, h1, h2, h3, h4, h5⟩ => ⟨a, vs, h1, Rd.upd_ne' h2 (fun e => h3.2 (e ▸ List.mem_cons_self)), h3, h4, RelDs.fill u hP h5⟩
  | .scr _, _, ⟨a, h1, h2⟩ => ⟨a, h1, h2.elim (fun ⟨o, z⟩ => .inl ⟨o, Rd.upd_ne' z (fun e => by
      rcases hP with ⟨xs, q⟩ | ⟨xs, q⟩ <;> (rw [e, q] at z; cases z))⟩) .inr⟩
  | .loc _, _, h => h
  | .fn _, _, h => h
  | .ty _, _, h => h
theorem RelDs.fill (u : HO) (hP : Fil H P) : ∀ {ds : List D} {vs : List V}, RelDs ⟨K, mg, P :: B⟩ ρ H ds vs → RelDs ⟨K, mg, P :: B⟩ ρ (upd H P u) ds vs
  | [], _, h => h
  | _ :: _, _, ⟨w, ws, h1, h2, h3⟩ => ⟨w, ws, h1, RelD.fill u hP h2, RelDs.fill u hP h3⟩
end
mutual
theorem RelD.less : ∀ {d : D} {v : V}, RelD ⟨K, mg, P :: B⟩ ρ H d v → RelD ⟨K, mg, B⟩ ρ H d v
  | .non, _, h => h
  | .bl _, _, h => h
  | .int _, _, h => h
  | .str _, _, h => h
  | .tup _, _, ⟨a, vs, h1, h2, h3⟩ => ⟨a, vs, h1, h2, RelDs.less h3⟩
  | .ktup _, _, ⟨a, vs, h1, h2, h3⟩ => ⟨a, vs, h1, h2, RelDs.less h3⟩
  | .dtt _ _, _, ⟨a, o, vs, h1, h2, h3, h4⟩ => ⟨a, o, vs, h1, h2, h3, RelDs.less h4⟩
  | .lst _, _, ⟨a, vs, h1, h2, h3, h4⟩ => ⟨a, vs, h1, h2, ⟨h3.1, fun z => h3.2 (List.mem_cons_of_mem _ z)⟩, RelDs.less h4⟩
  | .dct _ _, _, ⟨a, vs, h1, h2, h3, h4, h5⟩ => ⟨a, vs, h1, h2, ⟨h3.1, fun z => h3.2 (List.mem_cons_of_mem _ z)⟩, h4, RelDs.less h5⟩
  | .scr _, _, h => h
  | .loc _, _, h => h
  | .fn _, _, h => h
  | .ty _, _, h => h
theorem RelDs.less : ∀ {ds : List D} {vs : List V}, RelDs ⟨K, mg, P :: B⟩ ρ H ds vs → RelDs ⟨K, mg, B⟩ ρ H ds vs
  | [], _, h => h
  | _ :: _, _, ⟨w, ws, h1, h2, h3⟩ => ⟨w, ws, h1, RelD.less h2, RelDs.less h3⟩
end
theorem Rel.start (r : Rel ⟨K, mg, B⟩ ρ H S) (hP : H P = none) (u : HO) : Rel ⟨K, mg, P :: B⟩ ρ (upd H P u) S := by
  refine ⟨r.nd, r.len, fun b hb => ?_, fun l a o h1 h2 => ?_⟩
  · rcases List.mem_cons.mp hb with z | z
    · rw [z]; exact ⟨u, upd_same⟩
    · obtain ⟨w, q⟩ := r.busy b z
      exact ⟨w, Rd.upd_ne' q (ne_of_none q hP)⟩
  · have z := r.obj l a o h1 h2
    cases o with
    | lst ds => obtain ⟨vs, q1, q2⟩ := z; exact ⟨vs, Rd.upd_ne' q1 (ne_of_none q1 hP), RelDs.start hP u q2⟩
    | dK ks ds => obtain ⟨vs, q1, q2, q3⟩ := z; exact ⟨vs, Rd.upd_ne' q1 (ne_of_none q1 hP), q2, RelDs.start hP u q3⟩
theorem Rel.fill (r : Rel ⟨K, mg, P :: B⟩ ρ H S) (n : P ∉ ρ) (u : HO) (hP : Fil H P) : Rel ⟨K, mg, P :: B⟩ ρ (upd H P u) S := by
  refine ⟨r.nd, r.len, fun b hb => ?_, fun l a o h1 h2 => ?_⟩
  · by_cases z : b = P
    · rw [z]; exact ⟨u, upd_same⟩
    · obtain ⟨w, q⟩ := r.busy b hb
      exact ⟨w, Rd.upd_ne' q z⟩
  · have z := r.obj l a o h1 h2
    have ne : a ≠ P := fun e => n (e ▸ List.mem_of_getElem? h1)
    cases o with
    | lst ds => obtain ⟨vs, q1, q2⟩ := z; exact ⟨vs, Rd.upd_ne' q1 ne, RelDs.fill u hP q2⟩
    | dK ks ds => obtain ⟨vs, q1, q2, q3⟩ := z; exact ⟨vs, Rd.upd_ne' q1 ne, q2, RelDs.fill u hP q3⟩
theorem Rel.less (r : Rel ⟨K, mg, P :: B⟩ ρ H S) : Rel ⟨K, mg, B⟩ ρ H S := by
  refine ⟨r.nd, r.len, fun b hb => r.busy b (List.mem_cons_of_mem _ hb), fun l a o h1 h2 => ?_⟩
  have z := r.obj l a o h1 h2
  cases o with
  | lst ds => obtain ⟨vs, q1, q2⟩ := z; exact ⟨vs, q1, RelDs.less q2⟩
  | dK ks ds => obtain ⟨vs, q1, q2, q3⟩ := z; exact ⟨vs, q1, q2, RelDs.less q3⟩
theorem RelSt.start {σd : Env} {σ : L2.St} (r : RelSt ⟨K, mg, B⟩ ρ H σd σ) (hP : H P = none) (u : HO) : RelSt ⟨K, mg, P :: B⟩ ρ (upd H P u) σd σ :=
  ⟨r.1, fun i d q => let ⟨v, a, b⟩ := r.2 i d q; ⟨v, a, RelD.start hP u b⟩⟩
theorem RelSt.fill {σd : Env} {σ : L2.St} (r : RelSt ⟨K, mg, P :: B⟩ ρ H σd σ) (u : HO) (hP : Fil H P) : RelSt ⟨K, mg, P :: B⟩ ρ (upd H P u) σd σ :=
  ⟨r.1, fun i d q => let ⟨v, a, b⟩ := r.2 i d q; ⟨v, a, RelD.fill u hP b⟩⟩
end
/-! ### slots -/
section
variable {k : Kx} {ρ : List Addr} {H : Hp} {σd : Env} {σ : L2.St}
theorem RelSt.set {i : Nat} {d : D} {v : V} (r : RelSt k ρ H σd σ) (q : RelD k ρ H d v) : RelSt k ρ H (σd.set i (some d)) (σ.set i (some v)) := by
  refine ⟨by simp [r.1], fun j e h => ?_⟩
  unfold getV at h
  by_cases z : i = j
  · subst z
    by_cases hl : i < σd.length
    · rw [List.getElem?_set_self hl] at h
      cases h
      exact ⟨v, List.getElem?_set_self (by rw [← r.1]; exact hl), q⟩
    · rw [List.getElem?_eq_none (by simpa using hl)] at h
      cases h
  · rw [List.getElem?_set_ne z] at h
    obtain ⟨w, q1, q2⟩ := r.2 j e h
    exact ⟨w, by rw [List.getElem?_set_ne z]; exact q1, q2⟩
theorem wipeD_length (σd : Env) : ∀ vs : List Nat, (wipeD σd vs).length = σd.length
  | [] => rfl
  | v :: vs => by unfold wipeD; rw [List.length_set, wipeD_length σd vs]
theorem RelSt.wipe (r : RelSt k ρ H σd σ) : ∀ vs : List Nat, RelSt k ρ H (wipeD σd vs) (L2.wipe σ vs)
  | [] => r
  | v :: vs => by
    have ih := RelSt.wipe r vs
    unfold wipeD L2.wipe
    refine ⟨by simp [ih.1], fun j e h => ?_⟩
    unfold getV at h
    by_cases z : v = j
    · subst z
      by_cases hl : v < (wipeD σd vs).length
      · rw [List.getElem?_set_self hl] at h; cases h
      · rw [List.getElem?_eq_none (by simpa using hl)] at h; cases h
    · rw [List.getElem?_set_ne z] at h
      obtain ⟨w, q1, q2⟩ := ih.2 j e h
      exact ⟨w, by rw [List.getElem?_set_ne z]; exact q1, q2⟩
theorem wipe_set {σ : L2.St} {i : Nat} {v : Option V} : ∀ {vs : List Nat}, i ∈ vs → L2.wipe (σ.set i v) vs = L2.wipe σ vs
  | w :: vs, h => by
    unfold L2.wipe
    by_cases hi : i ∈ vs
    · rw [wipe_set hi]
    · have e : i = w := (List.mem_cons.mp h).elim id fun z => absurd z hi
      subst e
      have gen : ∀ (ws : List Nat), i ∉ ws → L2.wipe (σ.set i v) ws = (L2.wipe σ ws).set i v := by
        intro ws
        induction ws with
        | nil => intro _; rfl
        | cons w ws ih =>
          intro hn
          unfold L2.wipe
          rw [ih fun z => hn (List.mem_cons_of_mem _ z)]
          exact List.set_comm _ _ fun e => hn (e ▸ List.mem_cons_self)
      rw [gen vs hi, List.set_set]
theorem wipe_idem {σ : L2.St} (vs : List Nat) : L2.wipe (L2.wipe σ vs) vs = L2.wipe σ vs := by
  have gen : ∀ (ws : List Nat) (σ : L2.St), (∀ i ∈ ws, i ∈ vs) → L2.wipe (L2.wipe σ ws) vs = L2.wipe σ vs := by
    intro ws
    induction ws with
    | nil => intro σ _; rfl
    | cons w ws ih =>
      intro σ h
      show L2.wipe ((L2.wipe σ ws).set w none) vs = _
      rw [wipe_set (h w List.mem_cons_self)]
      exact ih σ fun i hi => h i (List.mem_cons_of_mem _ hi)
  exact gen vs σ fun _ h => h
end

/-! ### readings -/
section
variable (X : Cx) (cf : Cf) (gl : Str → Option D)
def tE (m : ME) : TE := fun σ H Q => ∃ B ρ S σd d S', Rel (kx X B) ρ H S ∧ RelSt (kx X B) ρ H σd σ ∧ evE cf gl σd m S = .ok d S' ∧ Post (kx X B) ρ H d S' Q
def tT (c : MC) : TT := fun σ H Q => ∃ B ρ S σd b S', Rel (kx X B) ρ H S ∧ RelSt (kx X B) ρ H σd σ ∧ evT cf gl σd c S = .ok b S' ∧ ∀ ρ' H', Ext ρ H ρ' H' → Rel (kx X B) ρ' H' S' → Q b H'
def tAs (ms : List ME) : TA := fun σ H Q => ∃ B ρ S σd ds S', Rel (kx X B) ρ H S ∧ RelSt (kx X B) ρ H σd σ ∧ evEs cf gl σd ms S = .ok ds S' ∧ ∀ ρ' H' vs, Ext ρ H ρ' H' → Rel (kx X B) ρ' H' S' → RelDs (kx X B) ρ' H' ds vs → Q vs H'
def tOf (o : MO) : TO := fun σ H Q => ∃ B ρ S σd i S', Rel (kx X B) ρ H S ∧ RelSt (kx X B) ρ H σd σ ∧ evO cf gl σd o S = .ok i S' ∧ ∀ ρ' H', Ext ρ H ρ' H' → Rel (kx X B) ρ' H' S' → Q i H'
end
/-- what stands still while something is walked -/
abbrev Fz := Option (Addr × Obj × HO)
def FzOk (H : Hp) : Fz → Prop
  | none => True
  | some (a, o, u) => H a = some (.frz o u)
structure RelC (k : Kx) (ρ : List Addr) (H : Hp) (c : D) (z : Fz) (v : V) : Prop where
  d : RelD k ρ H c v
  z : FzOk H z
section
variable {K : PySem.W.Frag} {mg : Str → Option Value} {B ρ ρ' : List Addr} {H H' : Hp} {P : Addr} {c : D} {z : Fz} {v : V}
theorem RelC.ext {k : Kx} (e : Ext ρ H ρ' H') (r : RelC k ρ H c z v) : RelC k ρ' H' c z v := by
  refine ⟨r.d.ext e, ?_⟩
  cases z with
  | none => trivial
  | some p => exact e.keep _ _ r.z fun _ => id
theorem RelC.start (hP : H P = none) (u : HO) (r : RelC ⟨K, mg, B⟩ ρ H c z v) : RelC ⟨K, mg, P :: B⟩ ρ (upd H P u) c z v := by
  refine ⟨RelD.start hP u r.d, ?_⟩
  cases z with
  | none => trivial
  | some p => exact Rd.upd_ne' r.z (ne_of_none r.z hP)
theorem RelC.fill (u : HO) (hP : Fil H P) (r : RelC ⟨K, mg, P :: B⟩ ρ H c z v) : RelC ⟨K, mg, P :: B⟩ ρ (upd H P u) c z v := by
  refine ⟨RelD.fill u hP r.d, ?_⟩
  cases z with
  | none => trivial
  | some p => exact Rd.upd_ne' r.z (hP.ne r.z (fun _ y => nomatch y) fun _ y => nomatch y)
end
/-- what an iterator gives -/
def ItOk (k : Kx) (ρ : List Addr) (H : Hp) (J : L2.It) : MI.It → Prop
  | .items ds => ∃ c z v, RelC k ρ H c z v ∧ ∀ B' ρ' H', RelC ⟨k.K, k.mg, B'⟩ ρ' H' c z v →
      (∀ (i : Nat) (d : D), ds[i]? = some d → J.go i H' ∧ ∀ x H2, J.yld i H' x H2 → (∀ a u, H' a = some u → H2 a = some u) ∧ RelD ⟨k.K, k.mg, B'⟩ ρ' H2 d x) ∧ J.stop ds.length H'
  | .live l => ∃ a, ρ[l]? = some a ∧ J = Itl k.K a
section
variable (X : Cx) (cf : Cf) (gl : Str → Option D)
def tIt (t : MT) : TI := fun σ H R => ∃ B ρ S σd t' S', Rel (kx X B) ρ H S ∧ RelSt (kx X B) ρ H σd σ ∧ evI cf gl σd t S = .ok t' S' ∧ ∀ ρ' H' J, Ext ρ H ρ' H' → Rel (kx X B) ρ' H' S' → ItOk (kx X B) ρ' H' J t' → R J H'
def tGt (g : MG) : TG := fun v σ H Q => ∃ B ρ S σd d σd' S', Rel (kx X B) ρ H S ∧ RelSt (kx X B) ρ H σd σ ∧ RelD (kx X B) ρ H d v ∧ evG cf gl σd g d S = .ok σd' S' ∧
  ∀ ρ' H' σ', Ext ρ H ρ' H' → Rel (kx X B) ρ' H' S' → RelSt (kx X B) ρ' H' σd' σ' → (∀ vs, (∀ i ∈ gSlots g, i ∈ vs) → L2.wipe σ' vs = L2.wipe σ vs) → Q σ' H'
def tGts (gs : List MG) : TGs := fun vs σ H Q => ∃ B ρ S σd ds σd' S', Rel (kx X B) ρ H S ∧ RelSt (kx X B) ρ H σd σ ∧ RelDs (kx X B) ρ H ds vs ∧ evGs cf gl σd gs ds S = .ok σd' S' ∧
  ∀ ρ' H' σ', Ext ρ H ρ' H' → Rel (kx X B) ρ' H' S' → RelSt (kx X B) ρ' H' σd' σ' → (∀ vs, (∀ i ∈ gsSlots gs, i ∈ vs) → L2.wipe σ' vs = L2.wipe σ vs) → Q σ' H'
def tSs (f : Env → SR) : TS := fun E σ H => ∃ B ρ S σd fl σd' S', Rel (kx X B) ρ H S ∧ RelSt (kx X B) ρ H σd σ ∧ f σd S = .ok (fl, σd') S' ∧ ∀ ρ' H' σ', Ext ρ H ρ' H' → Rel (kx X B) ρ' H' S' → RelSt (kx X B) ρ' H' σd' σ' →
  match fl with
  | .nx => E.nx σ' H'
  | .brk => E.bk σ' H'
  | .cont => E.ct σ' H'
  | .ret d => ∀ v, RelD (kx X B) ρ' H' d v → E.rt v H'
end

/-! ### a comprehension's turns -/
section
variable {X : Cx} {cf : Cf} {gl : Str → Option D}
theorem compL_app {f : D → M (Option D)} : ∀ {ds acc : List D} {S S' : Sto} {r : List D}, compL f ds acc S = .ok r S' → ∃ zs, r = acc ++ zs
  | [], acc, S, S', r, e => by obtain ⟨rfl, _⟩ := ret_ok e; exact ⟨[], by simp⟩
  | d :: ds, acc, S, S', r, e => by
    unfold compL at e
    obtain ⟨o, S1, e1, e2⟩ := bnd_ok e
    cases o with
    | none => exact compL_app e2
    | some y =>
      obtain ⟨_, e3⟩ := gd_ok e2
      obtain ⟨zs, rfl⟩ := compL_app e3
      exact ⟨y :: zs, by simp⟩
/-- one turn, evaluated -/
def turnM (cf : Cf) (gl : Str → Option D) (σ : Env) (own : List Nat) (tg : MG) (cond : MC) (elt : ME) : D → M (Option D) := fun d => bnd (evG cf gl (wipeD σ own) tg d) fun σ2 => bnd (evT cf gl σ2 cond) fun k =>
  if k = true then bnd (evE cf gl σ2 elt) fun y => ret (some y) else ret none
/-- the turn of a comprehension, as its reading wants it -/
theorem turn_ok {own : List Nat} {tg : MG} {cond : MC} {elt : ME} {σ : L2.St} {σd : Env} {B ρ : List Addr} {S S' : Sto} {H : Hp} {P : Addr} {accV : List V} {d : D} {o : Option D} {x : V} {Nx : Hp → Prop}
    (ho : ∀ i ∈ gSlots tg, i ∈ own) (R : Rel (kx X (P :: B)) ρ H S) (rσ : RelSt (kx X (P :: B)) ρ H σd σ) (hx : RelD (kx X (P :: B)) ρ H d x) (hP : H P = some (.lst accV)) (hn : P ∉ ρ) (hz : accV.length < sizeLine ∨ o = none)
    (e : turnM cf gl σd own tg cond elt d S = .ok o S')
    (q : ∀ ρ' H', Ext ρ H ρ' H' → Rel (kx X (P :: B)) ρ' H' S' → H' P = some (.lst accV) → P ∉ ρ' → match o with
      | some y => ∀ v, RelD (kx X (P :: B)) ρ' H' y v → Nx (upd H' P (.lst (accV ++ [v])))
      | none => Nx H') :
    tGt X cf gl tg x (L2.wipe σ own) H fun σ2 H2 => L2.wipe σ2 own = L2.wipe σ own ∧ tT X cf gl cond σ2 H2 fun b H3 =>
      if b = true then tE X cf gl elt σ2 H3 fun y H4 => ∃ acc, H4 P = some (.lst acc) ∧ acc.length < sizeLine ∧ Nx (upd H4 P (.lst (acc ++ [y]))) else Nx H3 := by
  unfold turnM at e
  obtain ⟨σ2d, S1, e1, e2⟩ := bnd_ok e
  obtain ⟨b, S2, e3, e4⟩ := bnd_ok e2
  refine ⟨P :: B, ρ, S, wipeD σd own, d, σ2d, S1, R, rσ.wipe own, hx, e1, fun ρ1 H1 σ2 x1 R1 r1 w1 => ⟨(w1 own ho).trans (wipe_idem own), P :: B, ρ1, S1, σ2d, b, S2, R1, r1, e3, fun ρ2 H2 x2 R2 => ?_⟩⟩
  have p1 : H1 P = some (.lst accV) := x1.keep _ _ hP fun z => absurd z hn
  have n1 : P ∉ ρ1 := x1.out hP hn
  have p2 : H2 P = some (.lst accV) := x2.keep _ _ p1 fun z => absurd z n1
  have n2 : P ∉ ρ2 := x2.out p1 n1
  cases b with
  | false =>
    obtain ⟨rfl, rfl⟩ := ret_ok e4
    exact q ρ2 H2 (x1.trans x2) R2 p2 n2
  | true =>
    obtain ⟨y, S3, e5, e6⟩ := bnd_ok e4
    obtain ⟨rfl, rfl⟩ := ret_ok e6
    refine ⟨P :: B, ρ2, S2, σ2d, y, _, R2, r1.ext x2, e5, fun ρ3 H3 v x3 R3 r3 => ?_⟩
    have p3 : H3 P = some (.lst accV) := x3.keep _ _ p2 fun z => absurd z n2
    have n3 : P ∉ ρ3 := x3.out p2 n2
    refine ⟨accV, p3, (hz.elim id fun z => nomatch z), q ρ3 H3 ((x1.trans x2).trans x3) R3 p3 n3 v r3⟩
end
section
variable {K : PySem.W.Frag} {mg : Str → Option Value} {B ρ ρ' : List Addr} {H H' : Hp} {S : Sto} {P : Addr}
theorem Ext.fill (e : Ext ρ H ρ' H') (hP : H P = none) {u : HO} : Ext ρ H ρ' (upd H' P u) :=
  ⟨e.pre, fun a o h n => Rd.upd_ne' (e.keep a o h n) (ne_of_none h hP), fun a o h => let ⟨o', q⟩ := e.there a o h; ⟨o', Rd.upd_ne' q (ne_of_none h hP)⟩⟩
mutual
theorem RelD.seal : ∀ {d : D} {v : V}, RelD ⟨K, mg, P :: B⟩ ρ H d v → RelD ⟨K, mg, B⟩ (ρ ++ [P]) H d v
  | .non, _, h => h
  | .bl _, _, h => h
  | .int _, _, h => h
  | .str _, _, h => h
  | .tup _, _, ⟨a, vs, h1, h2, h3⟩ => ⟨a, vs, h1, h2, RelDs.seal h3⟩
  | .ktup _, _, ⟨a, vs, h1, h2, h3⟩ => ⟨a, vs, h1, h2, RelDs.seal h3⟩
  | .dtt _ _, _, ⟨a, o, vs, h1, h2, h3, h4⟩ => ⟨a, o, vs, h1, h2, h3, RelDs.seal h4⟩
  | .lst _, _, ⟨a, vs, h1, h2, h3, h4⟩ => ⟨a, vs, h1, h2, ⟨fun z => (List.mem_append.mp z).elim h3.1 fun z => h3.2 (by rw [List.mem_singleton.mp z]; exact List.mem_cons_self), fun z => h3.2 (List.mem_cons_of_mem _ z)⟩, RelDs.seal h4⟩
  | .dct _ _, _, ⟨a, vs, h1, h2, h3, h4, h5⟩ => ⟨a, vs, h1, h2, ⟨fun z => (List.mem_append.mp z).elim h3.1 fun z => h3.2 (by rw [List.mem_singleton.mp z]; exact List.mem_cons_self), fun z => h3.2 (List.mem_cons_of_mem _ z)⟩, h4, RelDs.seal h5⟩
  | .scr _, _, h => h
  | .loc l, _, ⟨a, h1, h2⟩ => ⟨a, by rw [List.getElem?_append_left (List.getElem?_eq_some_iff.mp h1).1]; exact h1, h2⟩
  | .fn _, _, h => h
  | .ty _, _, h => h
theorem RelDs.seal : ∀ {ds : List D} {vs : List V}, RelDs ⟨K, mg, P :: B⟩ ρ H ds vs → RelDs ⟨K, mg, B⟩ (ρ ++ [P]) H ds vs
  | [], _, h => h
  | _ :: _, _, ⟨w, ws, h1, h2, h3⟩ => ⟨w, ws, h1, RelD.seal h2, RelDs.seal h3⟩
end
theorem Rel.seal (r : Rel ⟨K, mg, P :: B⟩ ρ H S) (n : P ∉ ρ) {o : O} (q : RelOb ⟨K, mg, B⟩ (ρ ++ [P]) H P o) : Rel ⟨K, mg, B⟩ (ρ ++ [P]) H (S ++ [o]) := by
  refine ⟨?_, by simp [r.len], fun b hb => r.busy b (List.mem_cons_of_mem _ hb), fun l a o h1 h2 => ?_⟩
  · rw [List.nodup_append]
    exact ⟨r.nd, by simp, fun a ha b hb => by
      have e : b = P := by simpa using hb
      subst e
      exact fun z => n (z ▸ ha)⟩
  · by_cases hl : l < ρ.length
    · rw [List.getElem?_append_left hl] at h1
      rw [List.getElem?_append_left (by rw [← r.len]; exact hl)] at h2
      have z := r.obj l a o h1 h2
      cases o with
      | lst ds => obtain ⟨vs, q1, q2⟩ := z; exact ⟨vs, q1, RelDs.seal q2⟩
      | dK ks ds => obtain ⟨vs, q1, q2, q3⟩ := z; exact ⟨vs, q1, q2, RelDs.seal q3⟩
    · have e : l = ρ.length := by
        have := (List.getElem?_eq_some_iff.mp h1).1
        simp at this
        omega
      subst e
      rw [List.getElem?_append_right (Nat.le_refl _)] at h1
      rw [List.getElem?_append_right (by rw [r.len]; exact Nat.le_refl _)] at h2
      simp [r.len] at h1 h2
      subst h1
      subst h2
      exact q
end
section
variable {X : Cx} {cf : Cf} {gl : Str → Option D}
/-- the list is made -/
theorem comp_end {m : Bool} {B ρ ρ1 : List Addr} {H H1 : Hp} {P : Addr} {S' S2 : Sto} {r : List D} {rV : List V} {d : D} {Q : VK} (hP : H P = none) (hB : P ∉ B) (x : Ext ρ H ρ1 H1) (R : Rel (kx X (P :: B)) ρ1 H1 S') (h : H1 P = some (.lst rV)) (n : P ∉ ρ1)
    (q : RelDs (kx X (P :: B)) ρ1 H1 r rV) (e : mkList m r S' = .ok d S2) (p : Post (kx X B) ρ H d S2 Q) : Q (.ref P) H1 := by
  unfold mkList at e
  split at e
  · split at e
    · cases e
      refine p (ρ1 ++ [P]) H1 _ ⟨?_, x.keep, x.there⟩ (Rel.seal R n ⟨rV, h, RelDs.seal q⟩) ⟨P, by simp [← R.len], rfl⟩
      obtain ⟨τ, h1, h2⟩ := x.pre
      refine ⟨τ ++ [P], by rw [h1, List.append_assoc], fun a ha => ?_⟩
      rcases List.mem_append.mp ha with z | z
      · exact h2 a z
      · rw [List.mem_singleton.mp z]; exact hP
    · cases e
      exact p ρ1 H1 _ x (Rel.less R) ⟨P, rV, rfl, h, ⟨n, hB⟩, RelDs.less q⟩
  · cases e
theorem comp_items {own : List Nat} {tg : MG} {cond : MC} {elt : ME} {m : Bool} {B ρ : List Addr} {H : Hp} {S S' S2 : Sto} {σd : Env} {σ : L2.St} {ds r : List D} {d : D} {Q : VK} {J : L2.It} {P : Addr}
    (ho : ∀ i ∈ gSlots tg, i ∈ own) (R : Rel (kx X B) ρ H S) (rσ : RelSt (kx X B) ρ H σd σ) (it : ItOk (kx X B) ρ H J (.items ds)) (hP : H P = none)
    (e1 : compL (turnM cf gl σd own tg cond elt) ds [] S = .ok r S') (e2 : mkList m r S' = .ok d S2) (p : Post (kx X B) ρ H d S2 Q) :
    ∃ W : Nat → Nat → Hp → Prop, (∃ m, W 0 m (upd H P (.lst []))) ∧ ∀ i m H, W i m H →
      (J.stop i H ∧ Q (.ref P) H) ∨ (J.go i H ∧ ∃ Nx : Hp → Prop, (∀ H', Nx H' → ∃ m', m' < m ∧ W (i + 1) m' H') ∧ ∀ x H', J.yld i H x H' → tGt X cf gl tg x (L2.wipe σ own) H' fun σ2 H2 => L2.wipe σ2 own = L2.wipe σ own ∧ tT X cf gl cond σ2 H2 fun b H3 =>
        if b = true then tE X cf gl elt σ2 H3 fun y H4 => ∃ acc, H4 P = some (.lst acc) ∧ acc.length < sizeLine ∧ Nx (upd H4 P (.lst (acc ++ [y]))) else Nx H3) := by
  obtain ⟨c, cz, cv, hc, hJ⟩ := it
  have hB : P ∉ B := (R.fresh2 hP).2
  refine ⟨fun i n Hc => n = ds.length - i ∧ i ≤ ds.length ∧ ∃ ρc Sc acc accV, Ext ρ H ρc Hc ∧ Rel (kx X (P :: B)) ρc Hc Sc ∧ RelSt (kx X (P :: B)) ρc Hc σd σ ∧ RelC (kx X (P :: B)) ρc Hc c cz cv ∧ Hc P = some (.lst accV) ∧ P ∉ ρc ∧
    RelDs (kx X (P :: B)) ρc Hc acc accV ∧ compL (turnM cf gl σd own tg cond elt) (ds.drop i) acc Sc = .ok r S', ⟨ds.length, by simp, by omega, ρ, S, [], [], Ext.new hP, R.start hP _, rσ.start hP _, RelC.start hP _ hc, upd_same, R.fresh hP, rfl, by simpa using e1⟩, ?_⟩
  rintro i n Hc ⟨rfl, hi, ρc, Sc, acc, accV, x, Rc, rc, hcc, hPc, nc, hacc, ec⟩
  obtain ⟨j1, j2⟩ := hJ (P :: B) ρc Hc hcc
  by_cases hlt : i < ds.length
  · refine .inr ⟨(j1 i ds[i] (by simp [hlt])).1, fun H' => ∃ ρc Sc acc accV, Ext ρ H ρc H' ∧ Rel (kx X (P :: B)) ρc H' Sc ∧ RelSt (kx X (P :: B)) ρc H' σd σ ∧ RelC (kx X (P :: B)) ρc H' c cz cv ∧ H' P = some (.lst accV) ∧ P ∉ ρc ∧
      RelDs (kx X (P :: B)) ρc H' acc accV ∧ compL (turnM cf gl σd own tg cond elt) (ds.drop (i + 1)) acc Sc = .ok r S', fun H' h => ⟨ds.length - (i + 1), by omega, rfl, hlt, h⟩, fun y H' hy => ?_⟩
    obtain ⟨k1, k2⟩ := (j1 i ds[i] (by simp [hlt])).2 y H' hy
    have xs : Ext ρc Hc ρc H' := Ext.same k1
    rw [List.drop_eq_getElem_cons hlt] at ec
    unfold compL at ec
    obtain ⟨o, S1, e3, e4⟩ := bnd_ok ec
    have hz : accV.length < sizeLine ∨ o = none := by
      cases o with
      | none => exact .inr rfl
      | some y =>
        obtain ⟨z, _⟩ := gd_ok e4
        rw [← hacc.length]
        exact .inl (of_decide_eq_true z)
    refine turn_ok ho (Rc.keep xs k1) (rc.ext xs) k2 (k1 _ _ hPc) nc hz e3 fun ρ' H2 x2 R2 p2 n2 => ?_
    have x3 : Ext ρc Hc ρ' H2 := xs.trans x2
    cases o with
    | none => exact ⟨ρ', S1, acc, accV, x.trans x3, R2, rc.ext x3, hcc.ext x3, p2, n2, hacc.ext x3, e4⟩
    | some z =>
      obtain ⟨_, e5⟩ := gd_ok e4
      intro v hv
      have f := RelDs.fill (u := .lst (accV ++ [v])) (.inl ⟨accV, p2⟩) ((hacc.ext x3).app (RelDs.one hv))
      exact ⟨ρ', S1, acc ++ [z], accV ++ [v], (x.trans x3).fill hP, R2.fill n2 _ (.inl ⟨accV, p2⟩), (rc.ext x3).fill _ (.inl ⟨accV, p2⟩), RelC.fill _ (.inl ⟨accV, p2⟩) (hcc.ext x3), upd_same, n2, f, e5⟩
  · have e : i = ds.length := by omega
    subst e
    rw [List.drop_length] at ec
    obtain ⟨rfl, rfl⟩ := ret_ok ec
    exact .inl ⟨j2, comp_end hP hB x Rc hPc nc hacc e2 p⟩
theorem comp_live {own : List Nat} {tg : MG} {cond : MC} {elt : ME} {m : Bool} {B ρ : List Addr} {H : Hp} {S S' S2 : Sto} {σd : Env} {σ : L2.St} {l : Nat} {r : List D} {d : D} {Q : VK} {J : L2.It} {P : Addr}
    (ho : ∀ i ∈ gSlots tg, i ∈ own) (R : Rel (kx X B) ρ H S) (rσ : RelSt (kx X B) ρ H σd σ) (it : ItOk (kx X B) ρ H J (.live l)) (hP : H P = none)
    (e1 : compLive (turnM cf gl σd own tg cond elt) l turnsMost 0 [] S = .ok r S') (e2 : mkList m r S' = .ok d S2) (p : Post (kx X B) ρ H d S2 Q) :
    ∃ W : Nat → Nat → Hp → Prop, (∃ m, W 0 m (upd H P (.lst []))) ∧ ∀ i m H, W i m H →
      (J.stop i H ∧ Q (.ref P) H) ∨ (J.go i H ∧ ∃ Nx : Hp → Prop, (∀ H', Nx H' → ∃ m', m' < m ∧ W (i + 1) m' H') ∧ ∀ x H', J.yld i H x H' → tGt X cf gl tg x (L2.wipe σ own) H' fun σ2 H2 => L2.wipe σ2 own = L2.wipe σ own ∧ tT X cf gl cond σ2 H2 fun b H3 =>
        if b = true then tE X cf gl elt σ2 H3 fun y H4 => ∃ acc, H4 P = some (.lst acc) ∧ acc.length < sizeLine ∧ Nx (upd H4 P (.lst (acc ++ [y]))) else Nx H3) := by
  obtain ⟨a, ha, rfl⟩ := it
  have hB : P ∉ B := (R.fresh2 hP).2
  refine ⟨fun i n Hc => ∃ ρc Sc acc accV, Ext ρ H ρc Hc ∧ Rel (kx X (P :: B)) ρc Hc Sc ∧ RelSt (kx X (P :: B)) ρc Hc σd σ ∧ Hc P = some (.lst accV) ∧ P ∉ ρc ∧
    RelDs (kx X (P :: B)) ρc Hc acc accV ∧ compLive (turnM cf gl σd own tg cond elt) l n i acc Sc = .ok r S', ⟨turnsMost, ρ, S, [], [], Ext.new hP, R.start hP _, rσ.start hP _, upd_same, R.fresh hP, rfl, e1⟩, ?_⟩
  rintro i n Hc ⟨ρc, Sc, acc, accV, x, Rc, rc, hPc, nc, hacc, ec⟩
  have ha2 : ρc[l]? = some a := x.get ha
  cases n with
  | zero => unfold compLive at ec; exact fail_ok ec
  | succ n =>
    unfold compLive at ec
    obtain ⟨xs, S0, e3, e4⟩ := bnd_ok ec
    obtain ⟨e5, rfl⟩ := look_ok e3
    obtain ⟨b, ws, eb, hb, hws⟩ := list_at (d := .loc l) Rc (v := .ref a) ⟨a, ha2, rfl⟩ e5
    cases eb
    have hq : SqL X.K Hc a ws := .of hb
    cases ei : xs[i]? with
    | none =>
      rw [ei] at e4
      obtain ⟨rfl, rfl⟩ := ret_ok e4
      refine .inl ⟨⟨ws, hq, ?_⟩, comp_end hP hB x Rc hPc nc hacc e2 p⟩
      rw [← hws.length]
      exact List.getElem?_eq_none_iff.mp ei
    | some y =>
      rw [ei] at e4
      obtain ⟨o, S1, e6, e7⟩ := bnd_ok e4
      obtain ⟨w, hw1, hw2⟩ := hws.get ei
      refine .inr ⟨⟨ws, w, hq, hw1⟩, fun H' => ∃ ρc Sc acc accV, Ext ρ H ρc H' ∧ Rel (kx X (P :: B)) ρc H' Sc ∧ RelSt (kx X (P :: B)) ρc H' σd σ ∧ H' P = some (.lst accV) ∧ P ∉ ρc ∧
        RelDs (kx X (P :: B)) ρc H' acc accV ∧ compLive (turnM cf gl σd own tg cond elt) l n (i + 1) acc Sc = .ok r S', fun H' h => ⟨n, by omega, h⟩, fun z H' hz => ?_⟩
      obtain ⟨rfl, hz⟩ := hz
      have ez : z = w := Option.some.inj ((hz ws hq).symm.trans hw1)
      subst ez
      have hz : accV.length < sizeLine ∨ o = none := by
        cases o with
        | none => exact .inr rfl
        | some y =>
          obtain ⟨z, _⟩ := gd_ok e7
          rw [← hacc.length]
          exact .inl (of_decide_eq_true z)
      refine turn_ok ho Rc rc hw2 hPc nc hz e6 fun ρ' H2 x3 R2 p2 n2 => ?_
      cases o with
      | none => exact ⟨ρ', S1, acc, accV, x.trans x3, R2, rc.ext x3, p2, n2, hacc.ext x3, e7⟩
      | some z =>
        obtain ⟨_, e8⟩ := gd_ok e7
        intro v hv
        have f := RelDs.fill (u := .lst (accV ++ [v])) (.inl ⟨accV, p2⟩) ((hacc.ext x3).app (RelDs.one hv))
        exact ⟨ρ', S1, acc ++ [z], accV ++ [v], (x.trans x3).fill hP, R2.fill n2 _ (.inl ⟨accV, p2⟩), (rc.ext x3).fill _ (.inl ⟨accV, p2⟩), upd_same, n2, f, e8⟩
end
end MI
set_option Elab.async false
set_option linter.all false
set_option maxRecDepth 100000
set_option maxHeartbeats 2000000
namespace MI
open PySem PySem.Spec PyProof.Rows L2
section
variable {X : Cx} {cf : Cf} {gl : Str → Option D}
/-- what is wanted behind a statement -/
def SPost (k : Kx) (ρ : List Addr) (H : Hp) (fl : Fl) (σd' : Env) (S' : Sto) (E : Ends) : Prop := ∀ ρ' H' σ', Ext ρ H ρ' H' → Rel k ρ' H' S' → RelSt k ρ' H' σd' σ' →
  match fl with
  | .nx => E.nx σ' H'
  | .brk => E.bk σ' H'
  | .cont => E.ct σ' H'
  | .ret d => ∀ v, RelD k ρ' H' d v → E.rt v H'
theorem SPost.ext {k : Kx} {ρ ρ' : List Addr} {H H' : Hp} {fl : Fl} {σd' : Env} {S' : Sto} {E : Ends} (p : SPost k ρ H fl σd' S' E) (x : Ext ρ H ρ' H') : SPost k ρ' H' fl σd' S' E :=
  fun ρ2 H2 σ2 y R r => p ρ2 H2 σ2 (x.trans y) R r
/-- a loop's turn: target, then body -/
def loopM (cf : Cf) (gl : Str → Option D) (t : MG) (body : List MS) : D → Env → SR := fun d σ => bnd (evG cf gl σ t d) fun σ2 => exSs cf gl body σ2
theorem body_ok {t : MG} {body : List MS} {B ρ : List Addr} {S S1 : Sto} {σd σ1 : Env} {σ : L2.St} {H : Hp} {d : D} {x : V} {fl : Fl} {E : Ends} {N : L2.St → Hp → Prop}
    (R : Rel (kx X B) ρ H S) (r : RelSt (kx X B) ρ H σd σ) (hx : RelD (kx X B) ρ H d x) (e : loopM cf gl t body d σd S = .ok (fl, σ1) S1)
    (q : SPost (kx X B) ρ H fl σ1 S1 { E with nx := N, ct := N, bk := E.nx }) :
    tGt X cf gl t x σ H fun σ2 H2 => tSs X (fun σ => exSs cf gl body σ) { E with nx := N, ct := N, bk := E.nx } σ2 H2 := by
  unfold loopM at e
  obtain ⟨σ2d, S2, e1, e2⟩ := bnd_ok e
  exact ⟨B, ρ, S, σd, d, σ2d, S2, R, r, hx, e1, fun ρ1 H1 σ2 x1 R1 r1 _ => ⟨B, ρ1, S2, σ2d, fl, σ1, S1, R1, r1, e2, fun ρ2 H2 σ3 x2 R2 r2 => q ρ2 H2 σ3 (x1.trans x2) R2 r2⟩⟩
theorem for_items {t : MG} {body : List MS} {B ρ : List Addr} {H : Hp} {S S' : Sto} {σd σd' : Env} {σ : L2.St} {ds : List D} {fl : Fl} {E : Ends} {J : L2.It}
    (R : Rel (kx X B) ρ H S) (rσ : RelSt (kx X B) ρ H σd σ) (it : ItOk (kx X B) ρ H J (.items ds)) (e : forL (loopM cf gl t body) ds σd S = .ok (fl, σd') S') (p : SPost (kx X B) ρ H fl σd' S' E) :
    ∃ W : Nat → Nat → L2.St → Hp → Prop, (∃ m, W 0 m σ H) ∧ ∀ i m σ H, W i m σ H →
      (J.stop i H ∧ E.nx σ H) ∨ (J.go i H ∧ ∃ N : L2.St → Hp → Prop, (∀ σ' H', N σ' H' → ∃ m', m' < m ∧ W (i + 1) m' σ' H') ∧ ∀ x H', J.yld i H x H' → tGt X cf gl t x σ H' fun σ2 H2 => tSs X (fun σ => exSs cf gl body σ) { E with nx := N, ct := N, bk := E.nx } σ2 H2) := by
  obtain ⟨c, cz, cv, hc, hJ⟩ := it
  refine ⟨fun i n σc Hc => n = ds.length - i ∧ i ≤ ds.length ∧ ∃ ρc Sc σdc, Ext ρ H ρc Hc ∧ Rel (kx X B) ρc Hc Sc ∧ RelSt (kx X B) ρc Hc σdc σc ∧ RelC (kx X B) ρc Hc c cz cv ∧ forL (loopM cf gl t body) (ds.drop i) σdc Sc = .ok (fl, σd') S',
    ⟨ds.length, by simp, by omega, ρ, S, σd, Ext.refl, R, rσ, hc, by simpa using e⟩, ?_⟩
  rintro i n σc Hc ⟨rfl, hi, ρc, Sc, σdc, x, Rc, rc, hcc, ec⟩
  obtain ⟨j1, j2⟩ := hJ B ρc Hc hcc
  by_cases hlt : i < ds.length
  · refine .inr ⟨(j1 i ds[i] (by simp [hlt])).1, fun σ' H' => ∃ ρc Sc σdc, Ext ρ H ρc H' ∧ Rel (kx X B) ρc H' Sc ∧ RelSt (kx X B) ρc H' σdc σ' ∧ RelC (kx X B) ρc H' c cz cv ∧ forL (loopM cf gl t body) (ds.drop (i + 1)) σdc Sc = .ok (fl, σd') S',
      fun σ' H' h => ⟨ds.length - (i + 1), by omega, rfl, hlt, h⟩, fun y H' hy => ?_⟩
    obtain ⟨k1, k2⟩ := (j1 i ds[i] (by simp [hlt])).2 y H' hy
    have xs : Ext ρc Hc ρc H' := Ext.same k1
    rw [List.drop_eq_getElem_cons hlt] at ec
    unfold forL at ec
    obtain ⟨⟨f1, σ1⟩, S1, e3, e4⟩ := bnd_ok ec
    refine body_ok (Rc.keep xs k1) (rc.ext xs) k2 e3 fun ρ2 H2 σ2 x2 R2 r2 => ?_
    have x3 : Ext ρc Hc ρ2 H2 := xs.trans x2
    cases f1 with
    | nx => exact ⟨ρ2, S1, σ1, x.trans x3, R2, r2, hcc.ext x3, e4⟩
    | cont => exact ⟨ρ2, S1, σ1, x.trans x3, R2, r2, hcc.ext x3, e4⟩
    | brk =>
      obtain ⟨ee, rfl⟩ := ret_ok e4
      cases ee
      exact p ρ2 H2 σ2 (x.trans x3) R2 r2
    | ret v =>
      obtain ⟨ee, rfl⟩ := ret_ok e4
      cases ee
      exact p ρ2 H2 σ2 (x.trans x3) R2 r2
  · have e : i = ds.length := by omega
    subst e
    rw [List.drop_length] at ec
    obtain ⟨ee, rfl⟩ := ret_ok ec
    cases ee
    exact .inl ⟨j2, p ρc Hc σc x Rc rc⟩
theorem for_live {t : MG} {body : List MS} {B ρ : List Addr} {H : Hp} {S S' : Sto} {σd σd' : Env} {σ : L2.St} {l : Nat} {fl : Fl} {E : Ends} {J : L2.It}
    (R : Rel (kx X B) ρ H S) (rσ : RelSt (kx X B) ρ H σd σ) (it : ItOk (kx X B) ρ H J (.live l)) (e : forLive (loopM cf gl t body) l turnsMost 0 σd S = .ok (fl, σd') S') (p : SPost (kx X B) ρ H fl σd' S' E) :
    ∃ W : Nat → Nat → L2.St → Hp → Prop, (∃ m, W 0 m σ H) ∧ ∀ i m σ H, W i m σ H →
      (J.stop i H ∧ E.nx σ H) ∨ (J.go i H ∧ ∃ N : L2.St → Hp → Prop, (∀ σ' H', N σ' H' → ∃ m', m' < m ∧ W (i + 1) m' σ' H') ∧ ∀ x H', J.yld i H x H' → tGt X cf gl t x σ H' fun σ2 H2 => tSs X (fun σ => exSs cf gl body σ) { E with nx := N, ct := N, bk := E.nx } σ2 H2) := by
  obtain ⟨a, ha, rfl⟩ := it
  refine ⟨fun i n σc Hc => ∃ ρc Sc σdc, Ext ρ H ρc Hc ∧ Rel (kx X B) ρc Hc Sc ∧ RelSt (kx X B) ρc Hc σdc σc ∧ forLive (loopM cf gl t body) l n i σdc Sc = .ok (fl, σd') S',
    ⟨turnsMost, ρ, S, σd, Ext.refl, R, rσ, e⟩, ?_⟩
  rintro i n σc Hc ⟨ρc, Sc, σdc, x, Rc, rc, ec⟩
  have ha2 : ρc[l]? = some a := x.get ha
  cases n with
  | zero => unfold forLive at ec; exact fail_ok ec
  | succ n =>
    unfold forLive at ec
    obtain ⟨xs, S0, e3, e4⟩ := bnd_ok ec
    obtain ⟨e5, rfl⟩ := look_ok e3
    obtain ⟨b, ws, eb, hb, hws⟩ := list_at (d := .loc l) Rc (v := .ref a) ⟨a, ha2, rfl⟩ e5
    cases eb
    have hq : SqL X.K Hc a ws := .of hb
    cases ei : xs[i]? with
    | none =>
      rw [ei] at e4
      obtain ⟨ee, rfl⟩ := ret_ok e4
      cases ee
      refine .inl ⟨⟨ws, hq, ?_⟩, p ρc Hc σc x Rc rc⟩
      rw [← hws.length]
      exact List.getElem?_eq_none_iff.mp ei
    | some y =>
      rw [ei] at e4
      obtain ⟨⟨f1, σ1⟩, S1, e6, e7⟩ := bnd_ok e4
      obtain ⟨w, hw1, hw2⟩ := hws.get ei
      refine .inr ⟨⟨ws, w, hq, hw1⟩, fun σ' H' => ∃ ρc Sc σdc, Ext ρ H ρc H' ∧ Rel (kx X B) ρc H' Sc ∧ RelSt (kx X B) ρc H' σdc σ' ∧ forLive (loopM cf gl t body) l n (i + 1) σdc Sc = .ok (fl, σd') S', fun σ' H' h => ⟨n, by omega, h⟩, fun z H' hz => ?_⟩
      obtain ⟨rfl, hz⟩ := hz
      have ez : z = w := Option.some.inj ((hz ws hq).symm.trans hw1)
      subst ez
      refine body_ok Rc rc hw2 e6 fun ρ2 H2 σ2 x3 R2 r2 => ?_
      cases f1 with
      | nx => exact ⟨ρ2, S1, σ1, x.trans x3, R2, r2, e7⟩
      | cont => exact ⟨ρ2, S1, σ1, x.trans x3, R2, r2, e7⟩
      | brk =>
        obtain ⟨ee, rfl⟩ := ret_ok e7
        cases ee
        exact p ρ2 H2 σ2 (x.trans x3) R2 r2
      | ret v =>
        obtain ⟨ee, rfl⟩ := ret_ok e7
        cases ee
        exact p ρ2 H2 σ2 (x.trans x3) R2 r2
theorem while_ok {c : MC} {body : List MS} : ∀ {n : Nat} {B ρ : List Addr} {H : Hp} {S S' : Sto} {σd σd' : Env} {σ : L2.St} {fl : Fl} {E : Ends} (R : Rel (kx X B) ρ H S) (rσ : RelSt (kx X B) ρ H σd σ)
    (e : whileL (fun σ => evT cf gl σ c) (fun σ => exSs cf gl body σ) n σd S = .ok (fl, σd') S') (p : SPost (kx X B) ρ H fl σd' S' E), tWhile (tT X cf gl c) (tSs X fun σ => exSs cf gl body σ) E σ H := by
  intro n B ρ H S S' σd σd' σ fl E R rσ e p
  refine ⟨fun n σc Hc => ∃ ρc Sc σdc, Ext ρ H ρc Hc ∧ Rel (kx X B) ρc Hc Sc ∧ RelSt (kx X B) ρc Hc σdc σc ∧ whileL (fun σ => evT cf gl σ c) (fun σ => exSs cf gl body σ) n σdc Sc = .ok (fl, σd') S', ⟨n, ρ, S, σd, Ext.refl, R, rσ, e⟩, ?_⟩
  rintro n σc Hc ⟨ρc, Sc, σdc, x, Rc, rc, ec⟩
  cases n with
  | zero => unfold whileL at ec; exact fail_ok ec
  | succ n =>
    unfold whileL at ec
    obtain ⟨k, S1, e1, e2⟩ := bnd_ok ec
    refine ⟨B, ρc, Sc, σdc, k, S1, Rc, rc, e1, fun ρ1 H1 x1 R1 => ?_⟩
    cases k with
    | false =>
      obtain ⟨ee, rfl⟩ := ret_ok e2
      cases ee
      exact p ρ1 H1 σc (x.trans x1) R1 (rc.ext x1)
    | true =>
      obtain ⟨⟨f1, σ1⟩, S2, e3, e4⟩ := bnd_ok e2
      refine ⟨fun σ' H' => ∃ ρc Sc σdc, Ext ρ H ρc H' ∧ Rel (kx X B) ρc H' Sc ∧ RelSt (kx X B) ρc H' σdc σ' ∧ whileL (fun σ => evT cf gl σ c) (fun σ => exSs cf gl body σ) n σdc Sc = .ok (fl, σd') S', fun σ' H' h => ⟨n, by omega, h⟩,
        B, ρ1, S1, σdc, f1, σ1, S2, R1, rc.ext x1, e3, fun ρ2 H2 σ2 x2 R2 r2 => ?_⟩
      have x3 := (x.trans x1).trans x2
      cases f1 with
      | nx => exact ⟨ρ2, S2, σ1, x3, R2, r2, e4⟩
      | cont => exact ⟨ρ2, S2, σ1, x3, R2, r2, e4⟩
      | brk =>
        obtain ⟨ee, rfl⟩ := ret_ok e4
        cases ee
        exact p ρ2 H2 σ2 x3 R2 r2
      | ret v =>
        obtain ⟨ee, rfl⟩ := ret_ok e4
        cases ee
        exact p ρ2 H2 σ2 x3 R2 r2
end
end MI
set_option Elab.async false
set_option linter.all false
set_option maxRecDepth 100000
set_option maxHeartbeats 2000000
namespace MI
open PySem PySem.Spec PyProof.Rows L2
section
variable {prog : Program} {w : World} {A : Around} {E : Value → Shared → Prop} {s : Shared} {I : Addr} {fp : List Addr} {N : Nat} {P : Nat → Value → Prop} {St : Nat → Heap → Prop}
theorem draw_walks (W : Walks prog w A I fp [I] N P St) : ∀ (n i : Nat) (s : Shared) (Q : List Value → Shared → Prop), St i s.heap → i + n ≤ N →
    (∀ (vs : List Value) (h' : Heap) (tk : Nat), vs.length = n → (∀ (j : Nat) v, vs[j]? = some v → P (i + j) v) → St (i + n) h' → (∀ b o, b ≠ I → s.heap.get? b = some o → h'.get? b = some o) → Q vs { s with heap := h', toks := tk }) →
    wpAny (model prog w) A (draw (.ref I) n) Q E s
  | 0, i, s, Q, st, _, hQ => by
    show wpAny _ _ (pure []) Q E s
    exact wpAny_pure (hQ [] s.heap s.toks rfl (fun j v h => by simp at h) st fun _ _ _ e => e)
  | n + 1, i, s, Q, st, hle, hQ => by
    show wpAny _ _ (pyNext (.ref I) >>= _) Q E s
    refine wpAny_bind (W.item i s _ _ (by omega) st fun v h1 tk1 hv st1 k1 => ?_)
    refine wpAny_bind (wpAny_holding (draw_walks W n (i + 1) _ _ st1 (by omega) fun vs h2 tk2 hl hp st2 k2 => wpAny_pure ?_))
    refine hQ (v :: vs) h2 tk2 (by simp [hl]) (fun j u hj => ?_) (by rw [show i + (n + 1) = i + 1 + n by omega]; exact st2) fun b o hb e => k2 b o hb (k1 b o (by simpa using hb) e)
    cases j with
    | zero => simp at hj; subst hj; exact hv
    | succ j => rw [show i + (j + 1) = i + 1 + j by omega]; exact hp j u (by simpa using hj)
/-- without a star -/
theorem unp_plain {n : Nat} (W : Walks prog w A I fp [I] N P St) (hn : n = N) (hst : St 0 s.heap) {Q : List Value → Shared → Prop}
    (hQ : ∀ (vs : List Value) (h' : Heap) (tk : Nat), vs.length = n → (∀ (j : Nat) v, vs[j]? = some v → P j v) → (∀ b o, b ≠ I → s.heap.get? b = some o → h'.get? b = some o) → Q vs { s with heap := h', toks := tk }) (nf : Value) :
    wpAny (model prog w) A (do
      let items ← holding [.ref I] (draw (.ref I) n)
      if items.length < n then
        rule "unpack.too-few"; raiseError "ValueError" s!"not enough values to unpack (expected {n}, got {items.length})"
      if (← holding items (pyNext (.ref I))).isSome then
        rule "unpack.too-many"; raiseError "ValueError" s!"too many values to unpack (expected {n})"
      return items) Q E s := by
  subst hn
  refine wpAny_bind (wpAny_holding (draw_walks W n 0 s _ hst (by omega) fun vs h' tk hl hp st k => ?_))
  rw [if_neg (by omega)]
  rw [Nat.zero_add] at st
  refine wpAny_bind (wpAny_holding (W.done { s with heap := h', toks := tk } _ _ st fun h2 tk2 k2 => ?_))
  simp only [Option.isSome_none, Bool.false_eq_true, if_false]
  exact wpAny_pure (hQ vs h2 tk2 hl (fun j v hj => by have := hp j v hj; rwa [Nat.zero_add] at this) fun b o hb e => k2 b o (by simpa using hb) (k b o hb e))
/-- with a star at i -/
theorem unp_star {n i : Nat} {T : String} (hTm : T = "str_ascii_iterator" ∨ T = "str_iterator" ∨ T = "list_iterator" ∨ T = "tuple_iterator") (W : Walks prog w A I fp [I] N P St) (W1 : Walks prog w A.in1 I fp [I] N P St)
    (hT : ∀ i (u : Shared), St i u.heap → u.TypeIs (.ref I) T) (hi : i < n) (hn : n ≤ N + 1) (hz : N ≤ sizeLine) (hst : St 0 s.heap) (hfp : ∀ b ∈ fp, b < s.heap.objs.size) (hI : I ∈ fp)
    (hob : ∀ (h' : Heap), (∀ b o, b ≠ I → s.heap.get? b = some o → h'.get? b = some o) → ∀ j, St j h' → ∀ b ∈ fp, b < h'.objs.size) {Q : List Value → Shared → Prop}
    (hQ : ∀ (vs : List Value) (h' : Heap) (tk : Nat), vs.length = N → (∀ (j : Nat) v, vs[j]? = some v → P j v) → (∀ b o, b ≠ I → s.heap.get? b = some o → h'.get? b = some o) →
      Q (vs.take i ++ .ref h'.objs.size :: vs.drop (i + (N + 1 - n))) { s with heap := h'.push { cls := .type "list", data := .seq ((vs.drop i).take (N + 1 - n)).toArray }, toks := tk }) :
    wpAny (model prog w) A (do
      let first ← holding [.ref I] (draw (.ref I) i)
      if first.length < i then
        rule "unpack.star.too-few-before"
        raiseError "ValueError" s!"not enough values to unpack (expected at least {n - 1}, got {first.length})"
      let rest ← holding first (collect (.ref I))
      let after := n - 1 - i
      if rest.length < after then
        rule "unpack.star.too-few"
        raiseError "ValueError" s!"not enough values to unpack (expected at least {n - 1}, got {i + rest.length})"
      let mid := rest.length - after
      return first ++ [← newList (rest.take mid)] ++ rest.drop mid) Q E s := by
  refine wpAny_bind (wpAny_holding (draw_walks W i 0 s _ hst (by omega) fun fs h1 tk1 hl hp st1 k1 => ?_))
  rw [if_neg (by omega)]
  rw [Nat.zero_add] at st1
  have hp : ∀ (j : Nat) v, fs[j]? = some v → P j v := fun j v hj => by have := hp j v hj; rwa [Nat.zero_add] at this
  refine wpAny_bind (wpAny_holding (wpAny_collect_iter (T := T) hTm (PySem.W.kun_shift W1 (show i ≤ N by omega)).toS (fun j u st => hT (i + j) u st) (show St (i + 0) h1 from st1) (hob h1 k1 i st1) hI (fun s' acc hm ha => ?_) (by omega)))
  obtain ⟨h', g', d', t', o'⟩ := s'
  obtain ⟨m1, m2, m3, m4, _⟩ := hm
  have m2 : g' = s.gens := m2
  have m3 : d' = s.drawn := m3
  have m4 : o' = s.os := m4
  subst m2 m3 m4
  have hla : acc.toList.length = N - i := by rw [Array.length_toList]; exact ha.1
  dsimp only
  rw [if_neg (by rw [hla]; omega)]
  have e1 : acc.toList.length - (n - 1 - i) = N + 1 - n := by rw [hla]; omega
  rw [e1]
  have kk : ∀ b o, b ≠ I → s.heap.get? b = some o → h'.get? b = some o := fun b o hb e => m1 b o (by simpa using hb) (k1 b o hb e)
  have hvl : (fs ++ acc.toList).length = N := by rw [List.length_append, hl, hla]; omega
  have hvp : ∀ (j : Nat) v, (fs ++ acc.toList)[j]? = some v → P j v := fun j v hj => by
    by_cases hlt : j < fs.length
    · rw [List.getElem?_append_left hlt] at hj
      exact hp j v hj
    · rw [List.getElem?_append_right (by omega), Array.getElem?_toList] at hj
      have q : P (i + (j - fs.length)) v := ha.2 (j - fs.length) v hj
      rwa [show i + (j - fs.length) = j by omega] at q
  have q := hQ (fs ++ acc.toList) h' t' hvl hvp kk
  have t1 : (fs ++ acc.toList).take i = fs := by rw [List.take_append_of_le_length (by omega)]; exact List.take_of_length_le (by omega)
  have t2 : (fs ++ acc.toList).drop i = acc.toList := by rw [← hl, List.drop_left]
  have t3 : (fs ++ acc.toList).drop (i + (N + 1 - n)) = acc.toList.drop (N + 1 - n) := by rw [← List.drop_drop, t2]
  rw [t1, t2, t3] at q
  refine wpAny_bind (wpAny_newObj_type (wpAny_pure ?_) (by show _ ≤ sizeLine; rw [List.size_toArray, List.length_take]; omega))
  simpa using q
end
section
variable {X : Cx} {pins : List (Addr × Obj)} {σ : L2.St} {H : Hp} {s : Shared}
theorem vals_signs {x : List Nat} {us : List Value} (hl : us.length = x.length) (hp : ∀ (j : Nat) v, us[j]? = some v → SignAt (toStr x) j v) : Vals (x.map fun c => V.str (toStr [c])) us := by
  induction x generalizing us with
  | nil => cases us with
    | nil => exact .nil
    | cons _ _ => simp at hl
  | cons c x ih => cases us with
    | nil => simp at hl
    | cons u us =>
      obtain ⟨c', t, h1, h2⟩ := hp 0 u rfl
      have e : c' = c := by simpa [toStr] using h1.symm
      subst e
      refine .cons ⟨t, h2⟩ (ih (by simpa using hl) fun j v hj => ?_)
      obtain ⟨c2, t2, q1, q2⟩ := hp (j + 1) v (by simpa using hj)
      exact ⟨c2, t2, by simpa [toStr] using q1, q2⟩
theorem vals_its {vs : List V} {its us : List Value} (r : Vals vs its) (hl : us.length = its.length) (hp : ∀ (j : Nat) v, us[j]? = some v → its.toArray[j]? = some v) : Vals vs us := by
  have e : us = its := by
    apply List.ext_getElem?
    intro j
    rcases Nat.lt_or_ge j us.length with h | h
    · rw [List.getElem?_eq_getElem h]
      have := hp j _ (List.getElem?_eq_getElem h)
      simpa using this.symm
    · rw [List.getElem?_eq_none h, List.getElem?_eq_none (by omega)]
  rw [e]; exact r
theorem RelDs.signs {k : Kx} {ρ : List Addr} {H : Hp} : ∀ x : List Nat, RelDs k ρ H (x.map fun c => D.str [c]) (x.map fun c => V.str (toStr [c]))
  | [] => rfl
  | c :: x => ⟨_, _, rfl, rfl, RelDs.signs x⟩
/-- what is unpacked, star or not: all that stood stands, the star's list is new -/
theorem unp_ok {B ρ : List Addr} {S : Sto} {d : D} {v : V} {u : Value} {xs : List D} {n : Nat} {st : Option Nat} {Q : List Value → Shared → Prop} (hc : X.calm = true) (I : Inv X pins σ H s) (R : Rel (kx X B) ρ H S) (r : RelD (kx X B) ρ H d v) (ru : RelV v u) (e : unpOf S d = some xs)
    (hz : xs.length ≤ sizeLine)
    (hs : match st with | none => xs.length = n | some i => i < n ∧ n ≤ xs.length + 1)
    (hQ : ∀ (vs : List V) (us : List Value), RelDs (kx X B) ρ H xs vs → Vals vs us → match (generalizing := false) st with
      | none => ∀ s', Inv X pins σ H s' → Q us s'
      | some i => ∀ p s', H p = none → Inv X pins σ (upd H p (.lst ((vs.drop i).take (xs.length + 1 - n)))) s' → Q (us.take i ++ .ref p :: us.drop (i + (xs.length + 1 - n))) s') :
    wpAny (model X.prog X.w) X.A (unpackItems u n st) Q X.xe s := by
  have hh := I.ok.hd hc
  -- a state behind: all objects but a new iterator's kept
  have back : ∀ {I0 : Addr} {h' : Heap} {tk : Nat}, s.heap.get? I0 = none → (∀ b o, b ≠ I0 → s.heap.get? b = some o → h'.get? b = some o) → Inv X pins σ H { s with heap := h', toks := tk } := fun {I0 h' tk} n k =>
    I.kept fun b o e => k b o (fun z => by subst z; rw [n] at e; cases e) e
  have laid : ∀ {I0 : Addr} {h' : Heap} {tk : Nat} {ms : List V} {us : List Value}, s.heap.get? I0 = none → (∀ b o, b ≠ I0 → s.heap.get? b = some o → h'.get? b = some o) → ms.length ≤ sizeLine → Vals ms us →
      H h'.objs.size = none ∧ Inv X pins σ (upd H h'.objs.size (.lst ms)) { s with heap := h'.push { cls := .type "list", data := .seq us.toArray }, toks := tk } := fun {I0 h' tk ms us} n k z r => by
    have I1 : Inv X pins σ H { s with heap := h', toks := tk } := back n k
    exact ⟨I1.hok.fresh (Nat.le_refl _), I1.laid (t' := tk) (fun b o e => Heap.get?_push_of_some _ e) (Nat.le_refl _) ⟨z, us, 0, r, Heap.get?_push_size _ rfl⟩⟩
  have none_at : s.heap.get? s.heap.objs.size = none := Heap.get?_none_of_le (Nat.le_refl _)
  have seq : ∀ {a : Addr} {vs : List V} (hl : SqL X.K H a vs ∨ SqT X.K H a vs) (rv : RelDs (kx X B) ρ H xs vs), wpAny (model X.prog X.w) X.A (unpackItems (.ref a) n st) Q X.xe s := by
    intro a vs hl rv
    have hlen := rv.length
    rcases hl with hl | hl
    · obtain ⟨its, r1, pl, _⟩ := I.list hl
      have hil := pl.isList
      have hne : a ≠ s.heap.objs.size := by obtain ⟨o, ho, _⟩ := hil; exact Nat.ne_of_lt (Heap.lt_size ho)
      have hal : a < s.heap.objs.size := by obtain ⟨o, ho, _⟩ := hil; exact Heap.lt_size ho
      have hN : its.toArray.size = xs.length := by rw [List.size_toArray, ← r1.length, hlen]
      unfold unpackItems
      refine wpAny_bind ?_
      unfold notIterableAtAll
      refine wpAny_bind (wpAny_specialOf hil.typeIs PySem.F.slot_list_iter.lookup ?_)
      refine wpAny_pure ?_
      simp only [Bool.false_eq_true, if_false]
      refine wpAny_bind (wpAny_holding (wpAny_pyIter_list hil ?_))
      have W := fun (A : Around) (hA : A.handled = none) => Walks.list (prog := X.prog) (w := X.w) (A := A) hA s.heap.objs.size a hne its.toArray
      have k0 : ∀ b o, s.heap.get? b = some o → (s.heap.push { cls := .type "list_iterator", data := .fields #[.ref a, .int 0 0] }).get? b = some o := fun b o e => Heap.get?_push_of_some _ e
      have st0 : (s.heap.push { cls := .type "list_iterator", data := .fields #[.ref a, .int 0 0] }).IsListIter s.heap.objs.size a 0 ∧ (s.heap.push { cls := .type "list_iterator", data := .fields #[.ref a, .int 0 0] }).IsList a its.toArray := ⟨⟨_, Heap.get?_push_size _ rfl, rfl, rfl⟩, hil.push _⟩
      cases st with
      | none =>
        refine unp_plain (W X.A hh) (by rw [hN]; exact hs.symm) st0 (fun us h' tk h1 h2 h3 => ?_) .none
        have e1 := vals_its r1 (by rw [h1, ← hs, ← hN, List.size_toArray]) h2
        exact hQ vs us rv e1 _ (back none_at fun b o hb e => h3 b o hb (k0 b o e))
      | some i =>
        obtain ⟨hi, hn⟩ := hs
        refine unp_star (T := "list_iterator") (.inr (.inr (.inl rfl))) (W X.A hh) (W X.A.in1 hh) (fun j u st => st.1.typeIs) hi (by rw [hN]; exact hn) (by rw [hN]; exact hz) st0 (fun b hb => ?_) (List.mem_cons_self ..) (fun h' _ j st b hb => ?_) fun us h' tk h1 h2 h3 => ?_
        · rw [Heap.size_push]
          rcases List.mem_cons.mp hb with z | z
          · rw [z]; exact Nat.lt_succ_self _
          · rw [List.mem_singleton.mp z]; exact Nat.lt_succ_of_lt hal
        · rcases List.mem_cons.mp hb with z | z
          · obtain ⟨⟨o, ho, _⟩, _⟩ := st; rw [z]; exact Heap.lt_size ho
          · obtain ⟨_, ⟨o, ho, _⟩⟩ := st; rw [List.mem_singleton.mp z]; exact Heap.lt_size ho
        · have e1 := vals_its r1 (by rw [h1, List.size_toArray]) h2
          rw [hN]
          have k3 : ∀ b o, b ≠ s.heap.objs.size → s.heap.get? b = some o → h'.get? b = some o := fun b o hb e => h3 b o hb (k0 b o e)
          obtain ⟨q1, q2⟩ := laid (tk := tk) none_at k3 (by rw [List.length_take, List.length_drop]; omega) ((e1.drop i).take (xs.length + 1 - n))
          exact hQ vs us rv e1 _ _ q1 q2
    · obtain ⟨its, r1, ht, _⟩ := I.tuple hl
      have hit : s.heap.IsTuple a its.toArray := ht
      have hne : a ≠ s.heap.objs.size := by obtain ⟨o, ho, _⟩ := ht; exact Nat.ne_of_lt (Heap.lt_size ho)
      have hal : a < s.heap.objs.size := by obtain ⟨o, ho, _⟩ := ht; exact Heap.lt_size ho
      have hN : its.toArray.size = xs.length := by rw [List.size_toArray, ← r1.length, hlen]
      unfold unpackItems
      refine wpAny_bind ?_
      unfold notIterableAtAll
      refine wpAny_bind (wpAny_specialOf ht.typeIs slot_tuple_iter.lookup ?_)
      refine wpAny_pure ?_
      simp only [Bool.false_eq_true, if_false]
      refine wpAny_bind (wpAny_holding (iter_tuple ht ?_))
      have W := fun (A : Around) (hA : A.handled = none) => Walks.tuple (prog := X.prog) (w := X.w) (A := A) hA s.heap.objs.size a hne its.toArray
      have k0 : ∀ b o, s.heap.get? b = some o → (s.heap.push { cls := .type "tuple_iterator", data := .fields #[.ref a, .int 0 0] }).get? b = some o := fun b o e => Heap.get?_push_of_some _ e
      have st0 : (s.heap.push { cls := .type "tuple_iterator", data := .fields #[.ref a, .int 0 0] }).IsTupleIter s.heap.objs.size a 0 ∧ (s.heap.push { cls := .type "tuple_iterator", data := .fields #[.ref a, .int 0 0] }).IsTuple a its.toArray := ⟨⟨_, Heap.get?_push_size _ rfl, rfl, rfl⟩, ht.push _⟩
      cases st with
      | none =>
        refine unp_plain (W X.A hh) (by rw [hN]; exact hs.symm) st0 (fun us h' tk h1 h2 h3 => ?_) .none
        have e1 := vals_its r1 (by rw [h1, ← hs, ← hN, List.size_toArray]) h2
        exact hQ vs us rv e1 _ (back none_at fun b o hb e => h3 b o hb (k0 b o e))
      | some i =>
        obtain ⟨hi, hn⟩ := hs
        refine unp_star (T := "tuple_iterator") (.inr (.inr (.inr rfl))) (W X.A hh) (W X.A.in1 hh) (fun j u st => st.1.typeIs) hi (by rw [hN]; exact hn) (by rw [hN]; exact hz) st0 (fun b hb => ?_) (List.mem_cons_self ..) (fun h' _ j st b hb => ?_) fun us h' tk h1 h2 h3 => ?_
        · rw [Heap.size_push]
          rcases List.mem_cons.mp hb with z | z
          · rw [z]; exact Nat.lt_succ_self _
          · rw [List.mem_singleton.mp z]; exact Nat.lt_succ_of_lt hal
        · rcases List.mem_cons.mp hb with z | z
          · obtain ⟨⟨o, ho, _⟩, _⟩ := st; rw [z]; exact Heap.lt_size ho
          · obtain ⟨_, ⟨o, ho, _⟩⟩ := st; rw [List.mem_singleton.mp z]; exact Heap.lt_size ho
        · have e1 := vals_its r1 (by rw [h1, List.size_toArray]) h2
          rw [hN]
          have k3 : ∀ b o, b ≠ s.heap.objs.size → s.heap.get? b = some o → h'.get? b = some o := fun b o hb e => h3 b o hb (k0 b o e)
          obtain ⟨q1, q2⟩ := laid (tk := tk) none_at k3 (by rw [List.length_take, List.length_drop]; omega) ((e1.drop i).take (xs.length + 1 - n))
          exact hQ vs us rv e1 _ _ q1 q2
  have other : seqOf S d = some xs → wpAny (model X.prog X.w) X.A (unpackItems u n st) Q X.xe s := fun e2 => by
    obtain ⟨a, vs, rfl, h1, h2⟩ := seq_at R r e2
    cases ru
    exact seq h1 h2
  cases d with
  | str x =>
    cases r
    obtain ⟨t, rfl⟩ := ru
    have e2 : xs = x.map fun c => D.str [c] := by simpa [unpOf] using e.symm
    subst e2
    rw [List.length_map] at hz hs hQ
    have hN : (toStr x).cps.size = x.length := by simp [toStr]
    have rv := RelDs.signs (k := kx X B) (ρ := ρ) (H := H) x
    unfold unpackItems
    refine wpAny_bind ?_
    unfold notIterableAtAll
    refine wpAny_bind (wpAny_specialOf (typeIs_str s _ t) F.slot_str_iter.lookup ?_)
    refine wpAny_pure ?_
    simp only [Bool.false_eq_true, if_false]
    have go : ∀ (ty : String) (hty : ty = "str_ascii_iterator" ∨ ty = "str_iterator") (W : ∀ (A : Around), A.handled = none → Walks X.prog X.w A s.heap.objs.size [s.heap.objs.size] [s.heap.objs.size] (toStr x).cps.size (SignAt (toStr x)) (fun i h => h.IsStrIter s.heap.objs.size ty (toStr x) t i))
        {F : Sem (List Value)} (hF : F = (match st with
          | none => do
            let items ← holding [.ref s.heap.objs.size] (draw (.ref s.heap.objs.size) n)
            if items.length < n then
              rule "unpack.too-few"; raiseError "ValueError" s!"not enough values to unpack (expected {n}, got {items.length})"
            if (← holding items (pyNext (.ref s.heap.objs.size))).isSome then
              rule "unpack.too-many"; raiseError "ValueError" s!"too many values to unpack (expected {n})"
            return items
          | some i => do
            let first ← holding [.ref s.heap.objs.size] (draw (.ref s.heap.objs.size) i)
            if first.length < i then
              rule "unpack.star.too-few-before"
              raiseError "ValueError" s!"not enough values to unpack (expected at least {n - 1}, got {first.length})"
            let rest ← holding first (collect (.ref s.heap.objs.size))
            let after := n - 1 - i
            if rest.length < after then
              rule "unpack.star.too-few"
              raiseError "ValueError" s!"not enough values to unpack (expected at least {n - 1}, got {i + rest.length})"
            let mid := rest.length - after
            return first ++ [← newList (rest.take mid)] ++ rest.drop mid)),
        wpAny (model X.prog X.w) X.A F Q X.xe { s with heap := s.heap.push { cls := .type ty, data := .fields #[.str (toStr x) t, .int 0 0] } } := by
      intro ty hty W F hF
      have k0 : ∀ b o, s.heap.get? b = some o → (s.heap.push { cls := .type ty, data := .fields #[.str (toStr x) t, .int 0 0] }).get? b = some o := fun b o e => Heap.get?_push_of_some _ e
      have st0 : (s.heap.push { cls := .type ty, data := .fields #[.str (toStr x) t, .int 0 0] }).IsStrIter s.heap.objs.size ty (toStr x) t 0 := ⟨_, Heap.get?_push_size _ rfl, rfl, rfl⟩
      subst hF
      cases st with
      | none =>
        refine unp_plain (W X.A hh) (by rw [hN]; exact hs.symm) st0 (fun us h' tk h1 h2 h3 => ?_) .none
        exact hQ _ us rv (vals_signs (by rw [h1]; exact hs.symm) h2) _ (back none_at fun b o hb e => h3 b o hb (k0 b o e))
      | some i =>
        obtain ⟨hi, hn⟩ := hs
        refine unp_star (T := ty) (hty.elim .inl fun z => .inr (.inl z)) (W X.A hh) (W X.A.in1 hh) (fun j u st => let ⟨o, ho, hc, _⟩ := st; ⟨o, ho, hc⟩) hi (by rw [hN]; exact hn) (by rw [hN]; exact hz) st0 (fun b hb => ?_) (List.mem_cons_self ..) (fun h' _ j st b hb => ?_) fun us h' tk h1 h2 h3 => ?_
        · rw [Heap.size_push, List.mem_singleton.mp hb]; exact Nat.lt_succ_self _
        · obtain ⟨o, ho, _⟩ := st; rw [List.mem_singleton.mp hb]; exact Heap.lt_size ho
        · rw [hN] at h1
          have e1 := vals_signs h1 h2
          rw [hN]
          have k3 : ∀ b o, b ≠ s.heap.objs.size → s.heap.get? b = some o → h'.get? b = some o := fun b o hb e => h3 b o hb (k0 b o e)
          obtain ⟨q1, q2⟩ := laid (tk := tk) none_at k3 (by rw [List.length_take, List.length_drop, List.length_map]; omega) ((e1.drop i).take (x.length + 1 - n))
          exact hQ _ us rv e1 _ _ q1 q2
    refine wpAny_bind (wpAny_holding ?_)
    cases ha : (toStr x).cps.all (· < 128)
    · exact wpAny_pyIter_wide ha (go "str_iterator" (.inr rfl) (fun A hA => Walks.strWide hA _ _ t) (by cases st <;> rfl))
    · exact wpAny_pyIter_ascii ha (go "str_ascii_iterator" (.inl rfl) (fun A hA => Walks.strAscii hA _ _ t) (by cases st <;> rfl))
  | scr ns => exact nomatch e
  | _ => exact other e
end
end MI
set_option Elab.async false
set_option linter.all false
set_option maxRecDepth 100000
set_option maxHeartbeats 2000000
namespace MI
open PySem PySem.Spec PyProof.Rows L2
end MI
namespace L2
open PySem PySem.Spec PyProof.Rows
theorem PE.imp {X : Cx} {e : Expr} {t t' : TE} (h : PE X e t) (i : ∀ σ H Q, t' σ H Q → t σ H Q) : PE X e t' := ⟨fun pins s σ H Q I q => h.run pins s σ H Q I (i σ H Q q)⟩
theorem PT.imp {X : Cx} {e : Expr} {t t' : TT} (h : PT X e t) (i : ∀ σ H Q, t' σ H Q → t σ H Q) : PT X e t' := ⟨fun pins s σ H Q I q => h.run pins s σ H Q I (i σ H Q q)⟩
theorem PTs.imp {X : Cx} {e : List Expr} {t t' : TT} (h : PTs X e t) (i : ∀ σ H Q, t' σ H Q → t σ H Q) : PTs X e t' := ⟨fun pins s σ H Q I q => h.run pins s σ H Q I (i σ H Q q)⟩
theorem PW.imp {X : Cx} {e : Expr} {t t' : TT} (h : PW X e t) (i : ∀ σ H Q, t' σ H Q → t σ H Q) : PW X e t' := ⟨fun wh pins s σ H Q I q => h.run wh pins s σ H Q I (i σ H Q q)⟩
theorem PA.imp {X : Cx} {e : List Expr} {t t' : TA} (h : PA X e t) (i : ∀ σ H Q, t' σ H Q → t σ H Q) : PA X e t' := ⟨fun pos pins s σ H Q I q => h.run pos pins s σ H Q I (i σ H Q q)⟩
theorem PO.imp {X : Cx} {e : Option Expr} {t t' : TO} (h : PO X e t) (i : ∀ σ H Q, t' σ H Q → t σ H Q) : PO X e t' := ⟨fun pins s σ H Q I q => h.run pins s σ H Q I (i σ H Q q)⟩
theorem PI.imp {X : Cx} {tg e : Expr} {t t' : TI} (h : PI X tg e t) (i : ∀ σ H Q, t' σ H Q → t σ H Q) : PI X tg e t' := ⟨fun pins s σ H Q I q => h.run pins s σ H Q I (i σ H Q q)⟩
theorem PG.imp {X : Cx} {e : Expr} {t t' : TG} (h : PG X e t) (i : ∀ v σ H Q, t' v σ H Q → t v σ H Q) : PG X e t' := ⟨fun pins s σ H v u Q I r q => h.run pins s σ H v u Q I r (i v σ H Q q)⟩
theorem PS.imp {X : Cx} {e : Stmt} {t t' : TS} (h : PS X e t) (i : ∀ D σ H, t' D σ H → t D σ H) : PS X e t' := ⟨fun pins s σ H D I q => h.run pins s σ H D I (i D σ H q)⟩
theorem PSs.imp {X : Cx} {e : List Stmt} {t t' : TS} (h : PSs X e t) (i : ∀ D σ H, t' D σ H → t D σ H) : PSs X e t' := ⟨fun pins s σ H D I q => h.run pins s σ H D I (i D σ H q)⟩

end L2
namespace MI
open PySem PySem.Spec PyProof.Rows L2
section
variable {X : Cx} {cf : Cf} {gl : Str → Option D} {a b c e : Expr} {es : List Expr} {ma mb mc : ME} {ms : List ME} {pos p : Pos}
/-! ### leaves -/
theorem k_var {i : Nat} {x : Str} (hN : X.N[i]? = some x) (hv : Vis X.env.scope x) (hd : okName x = true) : PE X (.Name x p) (tE X cf gl (.var i)) := by
  unfold okName at hd
  simp only [Bool.and_eq_true, Bool.not_eq_true'] at hd
  refine (pe_var hN hv hd.1.1 hd.1.2).imp fun σ H Q ⟨B, ρ, S, σd, d, S', R, r, e, p⟩ => ?_
  unfold evE at e
  obtain ⟨e1, rfl⟩ := ofO_ok e
  obtain ⟨v, h1, h2⟩ := r.2 i d e1
  exact ⟨v, h1, p.now R h2⟩
theorem k_leaf {e : Expr} {m : ME} {v : V} {d : D} (h : PE X e (tC v)) (hm : ∀ σd S, evE cf gl σd m S = .ok d S) (r : ∀ k ρ H, RelD k ρ H d v) : PE X e (tE X cf gl m) := by
  refine h.imp fun σ H Q ⟨B, ρ, S, σd, d', S', R, _, e, p⟩ => ?_
  rw [hm] at e
  cases e
  exact p.now R (r _ _ _)
theorem k_bad {e : Expr} : PE X e (tE X cf gl .bad) := ⟨fun _ _ _ _ _ _ h => by
  obtain ⟨B, ρ, S, σd, d', S', R, _, e, p⟩ := h
  unfold evE at e
  exact fail_ok e⟩
theorem k_badT {e : Expr} : PT X e (tT X cf gl (.val .bad)) := ⟨fun _ _ _ _ _ _ h => by
  obtain ⟨B, ρ, S, σd, d', S', R, _, e, p⟩ := h
  unfold evT evE at e
  obtain ⟨_, _, e, _⟩ := bnd_ok e
  exact fail_ok e⟩
/-! ### operators -/
theorem k_bin {m : Bool} {op : Operator} (ha : PE X a (tE X cf gl ma)) (hb : PE X b (tE X cf gl mb)) : PE X (.BinOp a op b pos) (tE X cf gl (.bin m op ma mb)) := by
  refine (pe_op (op_bin m op) ha hb).imp fun σ H Q ⟨B, ρ, S, σd, d, S', R, r, e, p⟩ => ?_
  unfold evE at e
  obtain ⟨x, S1, e1, e2⟩ := bnd_ok e
  obtain ⟨y, S2, e3, e4⟩ := bnd_ok e2
  exact ⟨B, ρ, S, σd, x, S1, R, r, e1, fun ρ1 H1 v x1 R1 r1 => ⟨B, ρ1, S1, σd, y, S2, R1, r.ext x1, e3, fun ρ2 H2 u x2 R2 r2 => ⟨B, ρ2, S2, x, y, d, S', R2, r1.ext x2, r2, e4, (p.ext x1).ext x2⟩⟩⟩
theorem k_neg (ha : PE X a (tE X cf gl ma)) : PE X (.UnaryOp .USub a pos) (tE X cf gl (.neg ma)) := by
  refine (pe_un un_neg ha).imp fun σ H Q ⟨B, ρ, S, σd, d, S', R, r, e, p⟩ => ?_
  unfold evE at e
  obtain ⟨x, S1, e1, e2⟩ := bnd_ok e
  cases x with
  | int i =>
    obtain ⟨rfl, rfl⟩ := ret_ok e2
    exact ⟨B, ρ, S, σd, _, _, R, r, e1, fun ρ1 H1 v x1 R1 r1 => by
      cases r1
      exact ⟨i, rfl, (p.ext x1).now R1 rfl⟩⟩
  | _ => exact fail_ok e2
theorem k_not (ha : PE X a (tE X cf gl ma)) : PE X (.UnaryOp .Not a pos) (tE X cf gl (.not ma)) := by
  refine (pe_notT ha).imp fun σ H Q ⟨B, ρ, S, σd, d, S', R, r, e, p⟩ => ?_
  unfold evE at e
  obtain ⟨x, S1, e1, e2⟩ := bnd_ok e
  obtain ⟨k, S2, e3, e4⟩ := bnd_ok e2
  obtain ⟨e5, rfl⟩ := look_ok e3
  obtain ⟨rfl, rfl⟩ := ret_ok e4
  exact ⟨B, ρ, S, σd, _, _, R, r, e1, fun ρ1 H1 v x1 R1 r1 => ⟨k, tru_at R1 r1 e5, (p.ext x1).now R1 rfl⟩⟩
theorem k_and {rest : List Expr} (ha : PE X a (tE X cf gl ma)) (hb : PE X (.BoolOp .And (b :: rest) pos) (tE X cf gl mb)) : PE X (.BoolOp .And (a :: b :: rest) pos) (tE X cf gl (.and ma mb)) := by
  refine (pe_andT ha hb).imp fun σ H Q ⟨B, ρ, S, σd, d, S', R, r, e, p⟩ => ?_
  unfold evE at e
  obtain ⟨x, S1, e1, e2⟩ := bnd_ok e
  obtain ⟨k, S2, e3, e4⟩ := bnd_ok e2
  obtain ⟨e5, rfl⟩ := look_ok e3
  refine ⟨B, ρ, S, σd, _, _, R, r, e1, fun ρ1 H1 v x1 R1 r1 => ⟨k, tru_at R1 r1 e5, ?_⟩⟩
  cases k with
  | true => exact ⟨B, ρ1, _, σd, _, _, R1, r.ext x1, e4, p.ext x1⟩
  | false =>
    obtain ⟨rfl, rfl⟩ := ret_ok e4
    exact (p.ext x1).now R1 r1
theorem k_or {rest : List Expr} (ha : PE X a (tE X cf gl ma)) (hb : PE X (.BoolOp .Or (b :: rest) pos) (tE X cf gl mb)) : PE X (.BoolOp .Or (a :: b :: rest) pos) (tE X cf gl (.or ma mb)) := by
  refine (pe_orT ha hb).imp fun σ H Q ⟨B, ρ, S, σd, d, S', R, r, e, p⟩ => ?_
  unfold evE at e
  obtain ⟨x, S1, e1, e2⟩ := bnd_ok e
  obtain ⟨k, S2, e3, e4⟩ := bnd_ok e2
  obtain ⟨e5, rfl⟩ := look_ok e3
  refine ⟨B, ρ, S, σd, _, _, R, r, e1, fun ρ1 H1 v x1 R1 r1 => ⟨k, tru_at R1 r1 e5, ?_⟩⟩
  cases k with
  | false => exact ⟨B, ρ1, _, σd, _, _, R1, r.ext x1, e4, p.ext x1⟩
  | true =>
    obtain ⟨rfl, rfl⟩ := ret_ok e4
    exact (p.ext x1).now R1 r1
theorem k_ite {mcc : MC} (hc : PT X c (tT X cf gl mcc)) (ha : PE X a (tE X cf gl ma)) (hb : PE X b (tE X cf gl mb)) : PE X (.IfExp c a b pos) (tE X cf gl (.ite mcc ma mb)) := by
  refine (pe_ifExp hc ha hb).imp fun σ H Q ⟨B, ρ, S, σd, d, S', R, r, e, p⟩ => ?_
  unfold evE at e
  obtain ⟨k, S1, e1, e2⟩ := bnd_ok e
  refine ⟨B, ρ, S, σd, k, S1, R, r, e1, fun ρ1 H1 x1 R1 => ?_⟩
  cases k with
  | true => exact ⟨B, ρ1, S1, σd, d, S', R1, r.ext x1, e2, p.ext x1⟩
  | false => exact ⟨B, ρ1, S1, σd, d, S', R1, r.ext x1, e2, p.ext x1⟩
theorem k_iteT {mcc mt mf : MC} (hc : PT X c (tT X cf gl mcc)) (ha : PT X a (tT X cf gl mt)) (hb : PT X b (tT X cf gl mf)) : PT X (.IfExp c a b pos) (tT X cf gl (.ite mcc mt mf)) := by
  refine ⟨fun pins s σ H Q I h => ?_⟩
  obtain ⟨B, ρ, S, σd, d, S', R, r, e, p⟩ := h
  unfold evT at e
  obtain ⟨k, S1, e1, e2⟩ := bnd_ok e
  show wpAny _ _ (isTrue c X.env (eval c X.env) >>= fun z => if z = true then isTrue a X.env (eval a X.env) else isTrue b X.env (eval b X.env)) _ _ s
  refine wpAny_bind (thn (hc.run pins s σ H (fun z H1 => z = k ∧ ∃ ρ1, Ext ρ H ρ1 H1 ∧ Rel (kx X B) ρ1 H1 S1) I ⟨B, ρ, S, σd, k, S1, R, r, e1, fun ρ1 H1 x1 R1 => ⟨rfl, ρ1, x1, R1⟩⟩) fun z s1 ⟨H1, I1, ez, ρ1, x1, R1⟩ => ?_)
  subst ez
  have pp : ∀ ρ' H', Ext ρ1 H1 ρ' H' → Rel (kx X B) ρ' H' S' → Q d H' := fun ρ' H' x R => p ρ' H' (x1.trans x) R
  cases z with
  | true => exact ha.run pins s1 σ H1 Q I1 ⟨B, ρ1, S1, σd, d, S', R1, r.ext x1, e2, pp⟩
  | false => exact hb.run pins s1 σ H1 Q I1 ⟨B, ρ1, S1, σd, d, S', R1, r.ext x1, e2, pp⟩
theorem cB_of {op : CmpOp} {B ρ : List Addr} {S S' : Sto} {x y : V} {dx dy d : D} {H : Hp} {Q : VK} (R : Rel (kx X B) ρ H S) (r1 : RelD (kx X B) ρ H dx x) (r2 : RelD (kx X B) ρ H dy y) (e : cmpM op dx dy S = .ok d S') (p : ∀ b, d = .bl b → Rel (kx X B) ρ H S' → Q (.bl b) H) : cB X op x y H Q := by
  unfold cmpM at e
  obtain ⟨k, S1, e1, e2⟩ := bnd_ok e
  obtain ⟨rfl, rfl⟩ := ret_ok e2
  exact ⟨B, ρ, S, dx, dy, k, _, R, r1, r2, e1, fun z => p k rfl (by rw [z]; exact R)⟩
theorem k_cmp {op : CmpOp} (hu : X.A.units + 64 < cLine) (hm : behindInMarks op b = false) (ha : PE X a (tE X cf gl ma)) (hb : PE X b (tE X cf gl mb)) : PE X (.Compare a [op] [b] pos) (tE X cf gl (.cmp ma op mb)) := by
  refine (pe_cmpR (op_cmp hu op) ha hb hm).imp fun σ H Q ⟨B, ρ, S, σd, d, S', R, r, e, p⟩ => ?_
  unfold evE at e
  obtain ⟨x, S1, e1, e2⟩ := bnd_ok e
  obtain ⟨y, S2, e3, e4⟩ := bnd_ok e2
  exact ⟨B, ρ, S, σd, x, S1, R, r, e1, fun ρ1 H1 v x1 R1 r1 => ⟨B, ρ1, S1, σd, y, S2, R1, r.ext x1, e3, fun ρ2 H2 u x2 R2 r2 => cB_of R2 (r1.ext x2) r2 e4 fun k ek R3 => by
    subst ek
    exact ((p.ext x1).ext x2).now R3 rfl⟩⟩
theorem k_cmpT {op : CmpOp} (hu : X.A.units + 64 < cLine) (hm : behindInMarks op b = false) (ha : PE X a (tE X cf gl ma)) (hb : PE X b (tE X cf gl mb)) : PT X (.Compare a [op] [b] pos) (tT X cf gl (.val (.cmp ma op mb))) := by
  refine (pt_cmpR (op_cmp hu op) ha hb hm).imp fun σ H Q ⟨B, ρ, S, σd, d, S', R, r, e, p⟩ => ?_
  unfold evT evE at e
  obtain ⟨z, S0, e0, e5⟩ := bnd_ok e
  obtain ⟨x, S1, e1, e2⟩ := bnd_ok e0
  obtain ⟨y, S2, e3, e4⟩ := bnd_ok e2
  obtain ⟨e6, rfl⟩ := look_ok e5
  exact ⟨B, ρ, S, σd, x, S1, R, r, e1, fun ρ1 H1 v x1 R1 r1 => ⟨B, ρ1, S1, σd, y, S2, R1, r.ext x1, e3, fun ρ2 H2 u x2 R2 r2 => cB_of R2 (r1.ext x2) r2 e4 fun k ek R3 => by
    subst ek
    unfold truthOf at e6
    cases e6
    exact ⟨_, rfl, p ρ2 H2 (x1.trans x2) R3⟩⟩⟩
end
end MI
set_option Elab.async false
set_option linter.all false
set_option maxRecDepth 100000
set_option maxHeartbeats 2000000
/-! dict of a list of pairs whose keys are tuples -/
namespace MI
open PySem PySem.Spec PyProof.Rows L2
section
variable {P : Program} {w : World} {A : Around} {E : Value → Shared → Prop}
abbrev tkd (P : Program) (w : World) := tupleKind (mixKind P w)
theorem is_keep {h g : Heap} {k : List Key} {a : Addr} (x : (tkd P w).is h k a) (keep : ∀ o, h.get? a = some o → g.get? a = some o) : (tkd P w).is g k a := by
  obtain ⟨o, its, n, h1, h2⟩ := x
  exact ⟨o, its, n, keep _ h1, h2⟩
theorem no_key {xs : List (List Key × Addr × Value)} {k : List Key} {p : Addr × Value} {r : List (List Key × Addr × Value)} (hn : ((xs ++ (k, p) :: r).map (·.1)).Nodup) : atKey xs k = none := by
  refine atKey_none_of_get fun j q e => ?_
  rw [List.map_append, List.nodup_append] at hn
  exact hn.2.2 k (List.mem_map.mpr ⟨_, List.mem_of_getElem? e, rfl⟩) k (by simp) rfl
theorem cls_ne {h : Heap} {a b : Addr} {o1 o2 : Obj} {s t : String} (h1 : h.get? a = some o1) (c1 : o1.cls = .type s) (h2 : h.get? b = some o2) (c2 : o2.cls = .type t) (n : s ≠ t) : a ≠ b := fun e => by
  subst e
  rw [h1] at h2
  cases h2
  rw [c1] at c2
  cases c2
  exact n rfl
/-- one pair after the other -/
theorem updH_loop {R : Result → Shared → Prop} {D J L : Addr} {its : Array Value} {res : Value} (h0 : A.handled = none) (room : A.units + 1 < cLine) (n1 : L ≠ J) (n2 : D ≠ J) (n3 : D ≠ L) :
    ∀ (more : List (List Key × Addr × Value)) (i : Nat) (acc : List (List Key × Addr × Value)) (ix : Int) (t : Tok) (s : Shared), its.size = i + more.length → acc.length + more.length ≤ sizeLine → ((acc ++ more).map (·.1)).Nodup →
      (∀ (j : Nat) (q : List Key × Addr × Value), more[j]? = some q → ∃ b : Addr, its[i + j]? = some (.ref b) ∧ IsTup s.heap b #[.ref q.2.1, q.2.2] ∧ (tkd P w).is s.heap q.1 q.2.1) →
      s.heap.IsListIter J L i → s.heap.IsList L its → s.heap.DictOfH (tkd P w) D acc →
      (∀ g tk, g.DictOfH (tkd P w) D (acc ++ more) → (∀ b o, b ≠ D → b ≠ J → s.heap.get? b = some o → g.get? b = some o) → R (.ok (.ret res)) { s with heap := g, toks := tk }) →
      codeAny (model P w) A (.builtin "dict.update.loop" ⟨[.ref D, .ref J, .int ix t, res], []⟩) R s
  | [], i, acc, ix, t, s, e1, e2, nd, ht, hit, hl, hm, hR => by
    refine codeAny_builtin ud_entry ?_
    rw [Around.under_plainId ud_plain _]
    refine wpAny_bind (m := pyNext (.ref J)) (wpAny_pyNext_list_end (A := A.in1) h0 hit hl (by first | exact Array.getElem?_eq_none (Nat.le_of_eq e1) | (simp at e1; simp; omega)) fun g he => ?_)
    refine wpAny_bind (m := Builtin.Dict.addKeywords D []) (wpAny_pure (wpAny_pure ?_))
    refine hR g s.toks ?_ fun b o _ hb e => he b o hb e
    obtain ⟨o, es, ep, m1, m2, m3, m4, m5, m6⟩ := hm
    obtain ⟨oj, j1, j2, _⟩ := hit
    rw [List.append_nil]
    exact ⟨o, es, ep, he D o n2 m1, m2, m3, m4, fun x hx => is_keep (m5 x hx) fun o2 z => he _ o2 (by
      obtain ⟨o3, _, _, z1, z2, _⟩ := m5 x hx
      exact cls_ne z1 z2 j1 j2 (by decide)) z, m6⟩
  | q :: more, i, acc, ix, t, s, e1, e2, nd, ht, hit, hl, hm, hR => by
    obtain ⟨b, hb, htup, hk⟩ := ht 0 q rfl
    rw [List.length_cons] at e1 e2
    obtain ⟨oj, j1, j2, j3⟩ := id hit
    obtain ⟨od, es, ep, m1, m2, m3, m4, m5, m6⟩ := id hm
    have keyNe : ∀ {k : List Key} {a : Addr}, (tkd P w).is s.heap k a → a ≠ J ∧ a ≠ D := fun {k a} x => by
      obtain ⟨o3, _, _, z1, z2, _⟩ := x
      exact ⟨cls_ne z1 z2 j1 j2 (by decide), cls_ne z1 z2 m1 m2.1 (by decide)⟩
    have tupNe : ∀ {a : Addr} {vs : Array Value}, IsTup s.heap a vs → a ≠ J ∧ a ≠ D := fun {a vs} x => by
      obtain ⟨o3, z1, z2, _⟩ := x
      exact ⟨cls_ne z1 z2 j1 j2 (by decide), cls_ne z1 z2 m1 m2.1 (by decide)⟩
    refine codeAny_builtin ud_entry ?_
    rw [Around.under_plainId ud_plain _]
    refine wpAny_bind (m := pyNext (.ref J)) (wpAny_pyNext_list_item (x := .ref b) hit hl (by simpa using hb) fun g1 hit1 s1 => ?_)
    have k1 : ∀ c o, c ≠ J → s.heap.get? c = some o → g1.get? c = some o := fun c o n e => s1.extBut c o n e
    have t1 : IsTup g1 b #[.ref q.2.1, q.2.2] := htup.extBut s1.extBut (tupNe htup).1
    have l1 : g1.IsList L its := hl.extBut s1.extBut n1
    have d1 : g1.DictOfH (tkd P w) D acc := ⟨od, es, ep, k1 D od n2 m1, m2, m3, m4, fun x hx => is_keep (m5 x hx) fun o2 z => k1 _ o2 (keyNe (m5 x hx)).1 z, m6⟩
    have q1 : (tkd P w).is g1 q.1 q.2.1 := is_keep hk fun o z => k1 _ o (keyNe hk).1 z
    obtain ⟨o, ho, hc, n, hd⟩ := id t1
    refine wpAny_bind (m := holding [Value.ref b] _) (wpAny_holding ?_)
    refine wpAny_bind (wpAny_tryCatch ?_)
    unfold Builtin.Dict.pairItems
    refine wpAny_bind (wpAny_typeOf (T := "tuple") ⟨o, ho, hc⟩ ?_)
    rw [if_pos (by first | decide | rfl | simp)]
    refine wpAny_bind (wpAny_seqItems ho hd (wpAny_pure ?_))
    refine (wpAny_holding ?_ : wpAny _ A.in1 (holding [.ref q.2.1, q.2.2] (dictSet D (.ref q.2.1) q.2.2)) _ _ _)
    refine wpAny_dictSet_heap (knd := tkd P w) (k := q.1) (tupleKind_room_in1 room) q1 d1 (fun g2 d2 s2 => ?_) (by omega)
    rw [storedH_new (no_key (p := q.2) (r := more) nd)] at d2
    refine wpAny_pure ⟨plainId_quiet ud_plain _, updH_loop (its := its) h0 room n1 n2 n3 more (i + 1) (acc ++ [(q.1, q.2.1, q.2.2)]) (ix + 1) 0 _ (show its.size = i + 1 + more.length by omega) ?_ ?_ (fun j q' e => ?_) ?_ ?_ d2 fun g tk hd' k => ?_⟩
    · rw [List.length_append, List.length_singleton]; omega
    · simpa using nd
    · obtain ⟨b', hb', ht', hk'⟩ := ht (j + 1) q' (by simpa using e)
      refine ⟨b', ?_, (ht'.extBut s1.extBut (tupNe ht').1).extBut s2.extBut (tupNe ht').2, is_keep hk' fun o z => s2.extBut _ o (keyNe hk').2 (k1 _ o (keyNe hk').1 z)⟩
      rw [show i + 1 + j = i + (j + 1) by omega]
      exact hb'
    · exact hit1.at fun o' e => s2.extBut J o' (Ne.symm n2) e
    · exact l1.extBut s2.extBut (Ne.symm n3)
    · refine hR g tk (by simpa using hd') fun c oc h3 h4 e => k c oc h3 h4 (s2.extBut c oc h3 (k1 c oc h4 e))
/-- dict(l), l a list of pairs, no key twice -/
theorem dict_tups {s : Shared} {L : Addr} {ol : Obj} {its : Array Value} {n : Nat} {prs : List (List Key × Addr × Value)} {Q : Value → Shared → Prop} (h0 : A.handled = none) (room : A.units + 2 < cLine) (hl : s.heap.get? L = some ol) (hc : ol.cls = .type "list") (hd : ol.dict = none)
    (hdat : ol.data = .seq its n) (e1 : its.size = prs.length) (e2 : prs.length ≤ sizeLine) (nd : (prs.map (·.1)).Nodup)
    (ht : ∀ (j : Nat) (q : List Key × Addr × Value), prs[j]? = some q → ∃ b : Addr, its[j]? = some (.ref b) ∧ IsTup s.heap b #[.ref q.2.1, q.2.2] ∧ (tkd P w).is s.heap q.1 q.2.1)
    (h : ∀ g tk, g.DictOfH (tkd P w) s.heap.objs.size prs → (∀ b o, s.heap.get? b = some o → g.get? b = some o) → Q (.ref s.heap.objs.size) { s with heap := g, toks := tk }) :
    wpAny (model P w) A (call (.type "dict") [.ref L]) Q E s := by
  refine callType_codes (Q₁ := fun ob st => ob = .ref s.heap.objs.size ∧ st = { s with heap := s.heap.push { cls := .type "dict", data := .dict #[] } }) PySem.F.kt_called_dict (PySem.F.kt_typeCall_dict_1 _) PySem.F.entry_dict_init (kt_code_dict_new _ ⟨rfl, rfl⟩) ?_
  rintro ob st ⟨rfl, rfl⟩
  have d0 : (s.heap.push { cls := .type "dict", data := .dict #[] }).DictOfH (tkd P w) s.heap.objs.size [] := .new s.heap
  have k0 : ∀ b o, s.heap.get? b = some o → (s.heap.push { cls := .type "dict", data := .dict #[] }).get? b = some o := fun b o e => Heap.get?_push_of_some _ e
  have self0 : (s.heap.push { cls := .type "dict", data := .dict #[] }).get? s.heap.objs.size = some { cls := .type "dict", data := .dict #[] } := Heap.get?_push_size _ rfl
  refine ⟨d0.typeIs, PySem.F.args_dict_init_2 _ _, ?_⟩
  unfold Builtin.«dict.__init__»
  refine wpAny_bind ?_
  unfold Builtin.Dict.selfAndRest
  refine wpAny_bind (wpAny_notOrdered_dict d0.typeIs ?_)
  refine (wpAny_pure ?_ : wpAny _ _ (pure (s.heap.objs.size, [Value.ref L])) _ _ _)
  show wpAny _ _ (Builtin.Dict.updateFrom "dict.__init__" s.heap.objs.size (.ref L) [] .none) _ _ _
  unfold Builtin.Dict.updateFrom
  refine wpAny_bind (wpAny_typeOf (T := "list") ⟨ol, k0 _ _ hl, hc⟩ ?_)
  rw [if_pos (by first | decide | rfl | simp)]
  refine wpAny_bind (miss_list (k0 _ _ hl) hc hdat hd h0 fun g1 tk1 hk1 => ?_)
  rw [if_pos (show (none : Option Value).isNone = true from rfl)]
  refine wpAny_bind (wpAny_rule ?_)
  have l1 : g1.IsList L its := ⟨ol, hk1 _ _ (k0 _ _ hl), hc, n, hdat⟩
  have self1 := hk1 _ _ self0
  have big : s.heap.objs.size < g1.objs.size := Heap.lt_size self1
  refine wpAny_bind (wpAny_pyIter_list l1 ?_)
  have k2 : ∀ b o, g1.get? b = some o → (g1.push { cls := .type "list_iterator", data := .fields #[.ref L, .int 0 0] }).get? b = some o := fun b o e => Heap.get?_push_of_some _ e
  have hlt : L < s.heap.objs.size := Heap.lt_size hl
  have all : ∀ b o, s.heap.get? b = some o → (g1.push { cls := .type "list_iterator", data := .fields #[.ref L, .int 0 0] }).get? b = some o := fun b o z => k2 _ _ (hk1 _ _ (k0 _ _ z))
  have key := updH_loop (P := P) (w := w) (A := A.in1) (R := wants (fun r st => r = .none ∧ Q (.ref s.heap.objs.size) st) E) (D := s.heap.objs.size) (J := g1.objs.size) (L := L) (its := its) (res := Value.none) h0 (show A.units + 1 + 1 < cLine from room)
    (Nat.ne_of_lt (Nat.lt_trans hlt big)) (Nat.ne_of_lt big) (Nat.ne_of_gt hlt) prs 0 [] 0 0
    { s with heap := g1.push { cls := .type "list_iterator", data := .fields #[.ref L, .int 0 0] }, toks := tk1 } (by rw [e1, Nat.zero_add]) (by rw [List.length_nil, Nat.zero_add]; exact e2) (by rw [List.nil_append]; exact nd)
    (fun j q e => by
      obtain ⟨b, b1, b2, b3⟩ := ht j q e
      exact ⟨b, by rw [Nat.zero_add]; exact b1, b2.keeps all, is_keep b3 fun o z => all _ o z⟩)
    ⟨_, Heap.get?_push_size _ rfl, rfl, rfl⟩ ⟨ol, all _ _ hl, hc, n, hdat⟩ ⟨_, #[], 0, k2 _ _ self1, ⟨rfl, rfl, rfl⟩, rfl, rfl, fun _ hx => by simp at hx, List.nodup_nil⟩
    (fun g tk hd' k => ⟨rfl, h g tk (by simpa using hd') fun b o e => k b o (Nat.ne_of_lt (Heap.lt_size e)) (Nat.ne_of_lt (Nat.lt_trans (Heap.lt_size e) big)) (all b o e)⟩)
  first
    | exact wpAny_pure ⟨plainId_quiet ud_plain _, key⟩
    | exact wpAny_bind (wpAny_pure (wpAny_pure ⟨plainId_quiet ud_plain _, key⟩))
end
section
variable {X : Cx}
theorem pairs_rel {k : Kx} {ρ : List Addr} {H : Hp} : ∀ {ds : List D} {vs : List V} {ps : List (List Int × D)}, RelDs k ρ H ds vs → pairsOf ds = some ps →
    ∃ (as qs : List Addr) (ws : List V), vs = as.map V.ref ∧ RelDs k ρ H (ps.map (·.2)) ws ∧ as.length = ps.length ∧ qs.length = ps.length ∧ ∀ (j : Nat) (p : List Int × D), ps[j]? = some p → ∃ a q v, as[j]? = some a ∧ qs[j]? = some q ∧ ws[j]? = some v ∧ H a = some (.tup [.ref q, v]) ∧ H q = some (.tup (p.1.map V.int))
  | [], _, _, r, e => by
    cases e; cases r
    exact ⟨[], [], [], rfl, rfl, rfl, rfl, fun j p e => by simp at e⟩
  | d :: ds, _, ps, ⟨w, ws, h1, h2, h3⟩, e => by
    have intk : ∀ {ys : List D} {us : List V} {z : List Int}, RelDs k ρ H ys us → intsOf ys = some z → us = z.map V.int := by
      intro ys
      induction ys with
      | nil => intro us z r e; cases e; cases r; rfl
      | cons y ys ih =>
        intro us z r e
        cases y <;> try (simp [intsOf] at e; done)
        simp only [intsOf, Option.map_eq_some_iff] at e
        obtain ⟨k2, e1, rfl⟩ := e
        obtain ⟨u, us, rfl, r1, r2⟩ := r
        cases r1
        rw [ih r2 e1]
        rfl
    unfold pairsOf at e
    split at e
    · skip
      rename_i e0; cases e0
    · skip
      rename_i ys v r e0
      cases e0
      cases hk : intsOf ys with
      | none => simp only [hk] at e; cases e
      | some k =>
        cases hp : pairsOf ds with
        | none => simp only [hk, hp] at e; cases e
        | some ps2 =>
          simp only [hk, hp] at e
          cases e
          subst h1
          obtain ⟨a, us, rfl, t1, t2⟩ := h2
          obtain ⟨u1, us1, rfl, t3, u2, us2, rfl, t4, t5⟩ := t2
          cases t5
          obtain ⟨q, us3, rfl, t6, t7⟩ := t3
          rw [intk t7 hk] at t6
          obtain ⟨as, qs, zs, rfl, i1, i2, i3, i4⟩ := pairs_rel h3 hp
          refine ⟨a :: as, q :: qs, u2 :: zs, rfl, ⟨u2, zs, rfl, t4, i1⟩, by simp [i2], by simp [i3], fun j p e => ?_⟩
          cases j with
          | zero => cases e; exact ⟨a, q, u2, rfl, rfl, rfl, t1, t6⟩
          | succ j =>
            obtain ⟨a', q', v', x⟩ := i4 j p (by simpa using e)
            exact ⟨a', q', v', by simpa using x⟩
    · cases e
end
end MI
namespace MI
open PySem PySem.Spec PyProof.Rows L2
section
variable {X : Cx}
theorem kvI (k : List Int) : (k.map (Sum.inl : Int → Key)).map kV = k.map V.int := by
  rw [List.map_map]
  rfl
theorem prs_of {pins : List (Addr × Obj)} {σ : L2.St} {H : Hp} {s : Shared} (I : L2.Inv X pins σ H s) : ∀ {ps : List (List Int × D)} {as qs : List Addr} {ws : List V}, as.length = ps.length → qs.length = ps.length → ws.length = ps.length →
    (∀ (j : Nat) (p : List Int × D), ps[j]? = some p → ∃ a q v, as[j]? = some a ∧ qs[j]? = some q ∧ ws[j]? = some v ∧ H a = some (.tup [.ref q, v]) ∧ H q = some (.tup (p.1.map V.int))) →
    ∃ prs : List (List Key × Addr × Value), Paired (fun (x : List Key × V) (y : List Key × Addr × Value) => x.1 = y.1 ∧ H y.2.1 = some (.tup (x.1.map kV)) ∧ RelV x.2 y.2.2) ((ps.map fun p => p.1.map Sum.inl).zip ws) prs ∧ prs.map (·.1) = ps.map (fun p => p.1.map Sum.inl) ∧ prs.length = ps.length ∧
      ∀ (j : Nat) (x : List Key × Addr × Value), prs[j]? = some x → ∃ a, as[j]? = some a ∧ IsTup s.heap a #[.ref x.2.1, x.2.2] ∧ (tkd X.prog X.w).is s.heap x.1 x.2.1 := by
  intro ps
  induction ps with
  | nil =>
    intro as qs ws _ _ h3 _
    obtain rfl : ws = [] := List.length_eq_zero_iff.mp h3
    exact ⟨[], .nil, rfl, rfl, fun j x e => by simp at e⟩
  | cons p ps ih =>
    intro as qs ws h1 h2 h3 h4
    match as, qs, ws, h1, h2, h3 with
    | a :: as, q :: qs, w :: ws, h1, h2, h3 =>
      obtain ⟨a', q', v', z1, z2, z3, z4, z5⟩ := h4 0 p rfl
      cases z1; cases z2; cases z3
      obtain ⟨prs, i1, i2, i3, i4⟩ := ih (as := as) (qs := qs) (ws := ws) (by simpa using h1) (by simpa using h2) (by simpa using h3) fun j p e => by
        obtain ⟨a', q', v', x⟩ := h4 (j + 1) p (by simpa using e)
        exact ⟨a', q', v', by simpa using x⟩
      obtain ⟨its, rv, ht, _⟩ := I.tuple (.of z4)
      obtain ⟨u1, u2, rfl, r1, r2⟩ := vals2 rv
      cases r1
      refine ⟨(p.1.map Sum.inl, q, u2) :: prs, .cons ⟨rfl, by rw [kvI]; exact z5, r2⟩ i1, by simp [i2], by simp [i3], fun j x e => ?_⟩
      cases j with
      | zero =>
        cases e
        exact ⟨a, rfl, ht, key_of (P := X.prog) (w := X.w) (ks := p.1.map Sum.inl) I.hok (by rw [kvI]; exact z5)⟩
      | succ j =>
        obtain ⟨a', x⟩ := i4 j x (by simpa using e)
        exact ⟨a', by simpa using x⟩
theorem zip_fst {α β : Type} : ∀ {l : List α} {m : List β}, l.length = m.length → (l.zip m).length = m.length
  | [], [], _ => rfl
  | _ :: _, _ :: _, h => by simp [zip_fst (by simpa using h)]
theorem nodup_keys {ps : List (List Int × D)} (h : (ps.map (·.1)).Nodup) : (ps.map fun p => p.1.map (Sum.inl : Int → Key)).Nodup := by
  have inj : ∀ {a b : List Int}, a.map (Sum.inl : Int → Key) = b.map Sum.inl → a = b := fun {a b} e => by
    have := congrArg (List.map fun z : Key => z.elim id fun _ => 0) e
    simpa [List.map_map] using this
  have e : (ps.map fun p => p.1.map (Sum.inl : Int → Key)) = (ps.map (·.1)).map fun k => k.map Sum.inl := by rw [List.map_map]; rfl
  rw [e]
  exact List.Pairwise.map _ (fun a b n e => n (inj e)) h
theorem blt_dict (hcm : X.calm = true) (hu : X.A.units + 66 < cLine) : CallR X (.type "dict") (rB X dicM) := by
  intro pins s σ H vs us Q I r h
  obtain ⟨B, ρ, S, ds, d, S', R, hd, e, p⟩ := h
  unfold dicM at e
  split at e
  · obtain ⟨ps, S1, e1, e2⟩ := bnd_ok e
    obtain ⟨e3, rfl⟩ := look_ok e1
    obtain ⟨hz, e4⟩ := gd_ok e2
    obtain ⟨rfl, rfl⟩ := ret_ok e4
    rw [Bool.and_eq_true] at hz
    have hz1 := of_decide_eq_true hz.1
    have hz2 := of_decide_eq_true hz.2
    obtain ⟨v, rfl, hv⟩ := one_of hd
    obtain ⟨xs, e5, e6⟩ := Option.bind_eq_some_iff.mp e3
    obtain ⟨a, ws, rfl, h1, h2⟩ := list_at R hv e5
    obtain ⟨as, qs, zs, rfl, p1, p2, p3, p4⟩ := pairs_rel h2 e6
    obtain ⟨u, rfl, ru⟩ := vals1 r
    cases ru
    obtain ⟨its, rv, ⟨o, n, ho, hc, hod, hdat⟩, hlen⟩ := I.list (.of h1)
    have ei := refs_at rv
    subst ei
    have lz : zs.length = ps.length := by rw [← p1.length, List.length_map]
    obtain ⟨prs, i1, i2, i3, i4⟩ := prs_of I p2 p3 lz p4
    refine dict_tups (P := X.prog) (w := X.w) (prs := prs) (I.ok.hd hcm) (by omega) ho hc hod hdat (by simp [p2, i3]) (by rw [i3]; exact hz1) (by rw [i2]; exact nodup_keys hz2) (fun j x e => ?_) fun g tk hg keep => ?_
    · obtain ⟨b, b1, b2, b3⟩ := i4 j x e
      exact ⟨b, by simp [b1], b2, b3⟩
    · have hm : (s.heap.objs.size == sysModules) = false := beq_eq_false_iff_ne.mpr (Nat.ne_of_gt I.big)
      obtain ⟨od, es, ep, m1, m2, m3, m4, m5, m6⟩ := hg
      have hn : H s.heap.objs.size = none := I.hok.fresh (Nat.le_refl _)
      let kvs : List (List Key × V) := (ps.map fun p => p.1.map Sum.inl).zip zs
      have hl : kvs.length = ps.length := by
        show (List.zip _ _).length = _
        rw [zip_fst (by rw [List.length_map, lz]), lz]
      have new : ObjOk X.prog X.w (upd H s.heap.objs.size (.frz od (.dT kvs))) g s.heap.objs.size (.frz od (.dT kvs)) :=
        ⟨m1, by rw [hl]; exact hz1, hm, prs, L2.Paired.mapP i1 (fun x y z => ⟨z.1, by rw [upd_ne (ne_of_none z.2.1 hn)]; exact z.2.1, z.2.2⟩), od, es, ep, m1, m2, m3, m4, m6⟩
      refine ⟨.ref s.heap.objs.size, upd H s.heap.objs.size (.frz od (.dT kvs)), I.laid (t' := tk) keep (Nat.le_refl _) new, rfl, ?_⟩
      refine p ρ _ _ (Ext.new hn) (R.new hn) ⟨_, od, zs, rfl, ?_, by rw [List.length_map, lz], p1.ext (Ext.new hn)⟩
      rw [upd_same, List.map_map]
      rfl
  · exact fail_ok e
end
end MI
set_option Elab.async false
set_option linter.all false
set_option maxRecDepth 100000
set_option maxHeartbeats 2000000
/-! enumerate of a tuple -/
namespace MI
open PySem PySem.Spec PyProof.Rows L2
set_option maxHeartbeats 4000000 in
theorem enum_newT {a : Addr} {its : Array Value} : Meets (Builtin.«enumerate.__new__» ⟨[.type "enumerate", .ref a], []⟩) (fun _ R s => s.heap.IsTuple a its ∧
      R (.ok (.ret (.ref (s.heap.push { cls := .type "tuple_iterator", data := .fields #[.ref a, .int 0 0] }).objs.size)))
        { s with heap := (s.heap.push { cls := .type "tuple_iterator", data := .fields #[.ref a, .int 0 0] }).push { cls := .type "enumerate", data := .fields #[.none, .bool false, .ref s.heap.objs.size, rawInt 0, .none, .none] } }) :=
  .of_wp fun prog w A R s h => by
    obtain ⟨hp, gn, dd, tk, os⟩ := s
    obtain ⟨h1, h⟩ := h
    have hs := sub_enumerate
    have B := begins_tuple a its
    have go : ∀ {A' : Around} {E Q : Value → Shared → Prop}, Q (.ref hp.objs.size) ⟨hp.push { cls := .type "tuple_iterator", data := .fields #[.ref a, .int 0 0] }, gn, dd, tk, os⟩ → wpAny (model prog w) A' (pyIter (.ref a)) Q E ⟨hp, gn, dd, tk, os⟩ :=
      fun q => B.iter prog w _ _ ⟨hp, gn, dd, tk, os⟩ _ h1 q
    wp_walk using go
    refine wpAny_stack_any fun st => wpAny_pure ?_
    split
    · rename_i c _ _ _ _ _
      cases (c == Value.type "enumerate") <;> (wp_walk using go; exact ⟨_, rfl, h⟩)
    · wp_walk using go
      exact ⟨_, rfl, h⟩
section
variable {prog : Program} {w : World} {A : Around} {E : Value → Shared → Prop} {s : Shared}
theorem enum_tuple {a : Addr} {its : Array Value} {Q : Value → Shared → Prop} (h1 : s.heap.IsTuple a its)
    (h : ∀ g, IsEnum g (s.heap.objs.size + 1) s.heap.objs.size 0 .none → g.IsTupleIter s.heap.objs.size a 0 → g.objs.size = s.heap.objs.size + 2 → (∀ b o, s.heap.get? b = some o → g.get? b = some o) → Q (.ref (s.heap.objs.size + 1)) { s with heap := g }) :
    wpAny (model prog w) A (call (.type "enumerate") [.ref a]) Q E s := by
  refine callType_new F.called_enumerate (by decide) (F.typeCall_enumerate_1 _) (F.newCall_enumerate_1 _) (fun ob => F.args_object_init_2 ob _) F.entry_enumerate_new (enum_newT (a := a) (its := its)) ⟨h1, ?_⟩
  have z : (s.heap.push { cls := .type "tuple_iterator", data := .fields #[.ref a, .int 0 0] }).objs.size = s.heap.objs.size + 1 := Heap.size_push ..
  show _ ∧ _
  rw [z]
  have en : IsEnum ((s.heap.push { cls := .type "tuple_iterator", data := .fields #[.ref a, .int 0 0] }).push { cls := .type "enumerate", data := .fields #[.none, .bool false, .ref s.heap.objs.size, rawInt 0, .none, .none] }) (s.heap.objs.size + 1) s.heap.objs.size 0 .none := by
    have y := Heap.get?_push_size (s.heap.push { cls := .type "tuple_iterator", data := .fields #[.ref a, .int 0 0] }) (o := { cls := .type "enumerate", data := .fields #[.none, .bool false, .ref s.heap.objs.size, rawInt 0, .none, .none] }) rfl
    rw [z] at y
    exact y
  exact ⟨⟨_, en, rfl⟩, h _ en ⟨_, Heap.get?_push_of_some _ (Heap.get?_push_size _ rfl), rfl, rfl⟩ (by rw [Heap.size_push, z]) fun b o x => Heap.get?_push_of_some _ (Heap.get?_push_of_some _ x)⟩
end
/-- the tuple at a, each item in a new pair -/
def IteT (K : PySem.W.Frag) (a : Addr) : L2.It :=
  ⟨fun i H => ∃ (xs : List V) (x : V), SqT K H a xs ∧ xs[i]? = some x, fun i H v H' => ∃ T x, v = .ref T ∧ H T = none ∧ H' = upd H T (.tup [.int (i : Nat), x]) ∧ ∀ xs, SqT K H a xs → xs[i]? = some x, fun i H => ∃ xs : List V, SqT K H a xs ∧ xs.length = i⟩
theorem turn_enumT {P : Program} {w : World} {K : PySem.W.Frag} {elts : List Expr} {kk : Nat} {tpos : Pos} (a e it : Addr) :
    Turn P w K (.Tuple elts kk tpos) (IteT K a) [e, it] e (fun i h => (∃ old, IsEnum h e it ((i : Nat) : Int) old) ∧ h.IsTupleIter it a i ∧ e ≠ it) where
  mem := by simp
  obj := fun i h st b hb => by
    obtain ⟨⟨old, he⟩, ⟨o, ho, hc, hd⟩, _⟩ := st
    rcases List.mem_cons.mp hb with z | z
    · rw [z]; exact ⟨_, he, fun v q => nomatch q⟩
    · rw [List.mem_singleton.mp z]; exact ⟨o, ho, fun v q => by rw [hd] at q; cases q⟩
  keep := fun i h g st k => let ⟨⟨old, he⟩, hi, hne⟩ := st; ⟨⟨old, k e (by simp) _ he⟩, hi.at fun o q => k it (by simp) o q, hne⟩
  item := by
    intro X hP hw hK hc i pins s σ H E I hf st hg
    subst hP hw hK
    obtain ⟨⟨old, he⟩, hit, hne⟩ := st
    obtain ⟨xs, x, hq, hx⟩ := hg
    obtain ⟨its, rv, tp, hz⟩ := I.tuple hq
    obtain ⟨u, hu, ru⟩ := rv.get hx
    have le : e < s.heap.objs.size := Heap.lt_size he
    obtain ⟨oi, oi1, oi2, oi3⟩ := id hit
    obtain ⟨oa, oa1, oa2, oa3⟩ := id tp
    have li : it < s.heap.objs.size := Heap.lt_size oi1
    have nai : a ≠ it := cls_ne oa1 oa2 oi1 oi2 (by decide)
    have nea : e ≠ a := cls_ne he rfl oa1 oa2 (by decide)
    have D := Draws.tuple (prog := X.prog) (w := X.w) (A := X.A.in1) (I.ok.hd hc) it a nai its.toArray
    have hlt : i < its.toArray.size := by
      have := (List.getElem?_eq_some_iff.mp hu).1
      simpa using this
    refine wpAny_pyNext_enum_itemD D he ⟨hit, tp⟩ hlt hne (by simp [hne, nea]) fun y g tk hy ho hst hT hsz hk => ?_
    obtain rfl : y = u := by
      have e0 : its[i]? = some y := by simpa using hy
      rw [hu] at e0
      exact (Option.some.inj e0).symm
    refine ⟨_, rfl, wpAny_letOwnedTupleGo_enum (s := { s with heap := g, toks := tk + 1 }) ho fun g2 he2 sb => ?_⟩
    have hT2 : g2.get? s.heap.objs.size = some { cls := .type "tuple", data := .seq #[.int i tk, y] } := (sb.2 _ (Nat.ne_of_gt le)).trans hT
    have new : ObjOk X.prog X.w (upd H s.heap.objs.size (.tup [.int (i : Nat), x])) g2 s.heap.objs.size (.tup [.int (i : Nat), x]) :=
      ⟨by show 2 ≤ sizeLine; decide, [.int i tk, y], .cons ⟨_, rfl⟩ (.cons ru .nil), ⟨_, hT2, rfl, _, rfl⟩⟩
    have I1 : L2.Inv X pins σ (upd H s.heap.objs.size (.tup [.int (i : Nat), x])) { s with heap := g2, toks := tk + 1 } :=
      I.turnedNew (ch := [e, it]) (fun b ob hb q => (sb.2 b (fun z => hb (by simp [z]))).trans (hk b ob (fun z => hb (by simp [z])) (fun z => hb (by simp [z])) q)) hf (Nat.le_refl _) new
    refine ⟨.ref s.heap.objs.size, _, I1, rfl, ⟨_, x, rfl, I.hok.fresh (Nat.le_refl _), rfl, fun ys hy2 => by rw [I.tuple_inj hy2 hq]; exact hx⟩, ⟨⟨y, ?_⟩, hst.1.at fun o q => (sb.2 it (Ne.symm hne)).trans q, hne⟩, fun b hb => ?_⟩
    · rw [show ((i + 1 : Nat) : Int) = (i : Int) + 1 by omega]
      exact he2
    · have lb : b < s.heap.objs.size := by
        rcases List.mem_cons.mp hb with z | z
        · rw [z]; exact le
        · rw [List.mem_singleton.mp z]; exact li
      rw [upd_ne (Nat.ne_of_lt lb)]
      exact (hf b hb).1
  done := by
    intro X hP hw hK hc i pins s σ H E I hf st hg
    subst hP hw hK
    obtain ⟨⟨old, he⟩, hit, hne⟩ := st
    obtain ⟨xs, hq, hx⟩ := hg
    obtain ⟨its, rv, tp, hz⟩ := I.tuple hq
    obtain ⟨oi, oi1, oi2, oi3⟩ := id hit
    obtain ⟨oa, oa1, oa2, oa3⟩ := id tp
    have nai : a ≠ it := cls_ne oa1 oa2 oi1 oi2 (by decide)
    have D := Draws.tuple (prog := X.prog) (w := X.w) (A := X.A.in1) (I.ok.hd hc) it a nai its.toArray
    obtain ⟨f0, f1, f2, f3, f4, f5⟩ := hf it (by simp)
    have hl := rv.length
    have hn : i = its.toArray.size := by simp; omega
    subst hn
    exact wpAny_pyNext_enum_endD D he ⟨hit, tp⟩ fun g eb => ⟨rfl, I.turned (t' := s.toks) (fun b o hb q => eb b o hb q) f0 f1 f3 f4 f5⟩
  self := fun A i s Q E st h => let ⟨⟨_, he⟩, _⟩ := st; wpAny_pyIter_enum he h
def iEnumT (K : PySem.W.Frag) (ta : TA) : TI := fun σ H R => ta σ H fun vs H1 => ∃ a xs, vs = [.ref a] ∧ SqT K H1 a xs ∧ R (IteT K a) H1
theorem pi_enumT {X : Cx} {e : Expr} {ta : TA} {p pos tpos : Pos} {elts : List Expr} {kk : Nat} (hg : Gl X "enumerate") (hm : X.mg "enumerate" = none) (ha : PA X [e] ta) (hs : starEach [e] X.env = [(false, eval e X.env)] := by rfl) :
    PI X (.Tuple elts kk tpos) (.Call (.Name "enumerate" p) [e] [] pos) (iEnumT X.K ta) := by
  refine ⟨fun pins s σ H R I h => ?_⟩
  refine Call_ (ld_blt I hg hm boot_enumerate (PyProof.Rows.callWith_type1 (thn (ha.run pos pins s σ H _ I h) fun us s1 ⟨vs, H1, I1, r1, a, xs, ex, hq, q⟩ => ?_) hs rfl))
  subst ex
  obtain ⟨u, rfl, ru⟩ := vals1 r1
  cases ru
  obtain ⟨its, rv, tp, hz⟩ := I1.tuple hq
  refine enum_tuple (its := its.toArray) tp fun g he hit hsz hk => wpAny_pyIter_enum he ?_
  have I2 : L2.Inv X pins σ H1 { s1 with heap := g } := I1.kept (t' := s1.toks) hk
  refine ⟨s1.heap.objs.size + 1, [s1.heap.objs.size + 1, s1.heap.objs.size], _, _, H1, rfl, I2, turn_enumT a (s1.heap.objs.size + 1) s1.heap.objs.size, ⟨⟨.none, he⟩, hit, Nat.succ_ne_self _⟩, fun b hb => ?_, q⟩
  have big : s1.heap.objs.size ≤ b := by
    rcases List.mem_cons.mp hb with z | z
    · rw [z]; exact Nat.le_add_right _ _
    · rw [List.mem_singleton.mp z]; exact Nat.le_refl _
  exact I1.fpOk big (I1.hok.fresh big)
end MI
set_option Elab.async false
set_option linter.all false
set_option maxRecDepth 100000
set_option maxHeartbeats 2000000
namespace SRT
open PySem PySem.Calls PyProof.Rows PySem.W PySem.SeqAt MI
section
variable {prog : Program} {w : World} {A : Around} {E : Value → Shared → Prop} {s : Shared}
theorem call_tuple_lt {Q : Value → Shared → Prop} {l b : Addr} {items items2 : Array Value} {e r : Nat → Bool} (hl : s.heap.IsTuple l items) (hb : s.heap.IsTuple b items2)
    (he : ∀ j (h1 : j < items.size) (h2 : j < items2.size), EqAt A.in1 s items[j] items2[j] (e j)) (hr : ∀ j (h1 : j < items.size) (h2 : j < items2.size), e j = false → RcLt A.in1 s items[j] items2[j] (r j))
    (h : Q (.bool (firstLt e r (decide (items.size < items2.size)) (List.range (min items.size items2.size)))) s) : wpAny (model prog w) A (call (.builtin "tuple.__lt__") [.ref l, .ref b]) Q E s := by
  obtain ⟨⟨cls, dd, data, sl⟩, ho, hc, n, hd⟩ := id hl
  obtain ⟨⟨cls2, dd2, data2, sl2⟩, ho2, hc2, n2, hd2⟩ := id hb
  simp only at hc hd hc2 hd2
  subst hc hd hc2 hd2
  exact call_meets F.slot_tuple_lt ⟨_, ho, rfl⟩ F.entry_tuple_lt (F.args_tuple_lt_2 _ _) (tuple_ltAt l b items items2 n n2 dd dd2 sl sl2 e r) ⟨ho, ho2, he, hr, h⟩
theorem oneLt_tuple {xs ys : List PyData} {a b : Value} {as bs : List Addr} {Q : Bool → Shared → Prop} (ra : Reads s.heap a (.tuple xs) as) (rb : Reads s.heap b (.tuple ys) bs) (h : alike (.tuple xs) (.tuple ys) = true)
    (hu : A.units + min (PyData.tuple xs).depth (PyData.tuple ys).depth < cLine) (hq : Q (dataLt (.tuple xs) (.tuple ys)) s) : wpAny (model prog w) A (oneLt' true a b) Q E s := by
  have hal : alikeAll xs ys = true := by simpa [alike] using h
  cases ra with
  | @tuple l o vs n _ as₁ h1 h2 h3 h4 =>
    cases rb with
    | @tuple l' o' vs' n' _ bs₁ k1 k2 k3 k4 =>
      have n1 : vs.size = xs.length := by simpa using ReadsAll.length _ _ _ h4
      have n2 : vs'.size = ys.length := by simpa using ReadsAll.length _ _ _ k4
      rw [dataLt_tuple, ← firstLt_toks xs ys hal, ← n1, ← n2] at hq
      rw [oneLt'_eq]
      simp only [if_true]
      refine wpAny_bind (wpAny_cRoomFor (room_here hu) ?_)
      refine wpAny_bind (wpAny_callSpecialIfBound?_slot (T := "tuple") ⟨_, h1, h2⟩ F.slot_tuple_lt (call_tuple_lt (e := pairEq xs ys) (r := fun j => dataLt (xs.getD j .none) (ys.getD j .none)) ⟨_, h1, h2, _, h3⟩ ⟨_, k1, k2, _, k3⟩ (fun j j1 j2 => ?_) (fun j j1 j2 hj => ?_) ?_))
      · have := eqAt_alikeAll xs ys A.in1 s vs.toList vs'.toList _ _ h4 k4 hal (room_in hu) j (by simpa using j1) (by simpa using j2)
        simpa using this
      · have := rcLt_alikeAll xs ys A.in1 s vs.toList vs'.toList _ _ h4 k4 hal (room_in hu) j (by simpa using j1) (by simpa using j2) hj
        simpa using this
      · exact wpAny_truthy_bool hq
theorem mapM_g {α β : Type} {M : Model} {f : α → Sem β} {g : α → β} : ∀ (l : List α) {Q : List β → Shared → Prop}, (∀ v ∈ l, ∀ (Q' : β → Shared → Prop), Q' (g v) s → wpAny M A (f v) Q' E s) → Q (l.map g) s → wpAny M A (l.mapM f) Q E s
  | [], _, _, h => by rw [List.mapM_nil]; exact wpAny_pure h
  | x :: l, Q, hf, h => by
    rw [List.mapM_cons]
    exact wpAny_bind (hf x (.head _) _ (wpAny_bind (mapM_g l (Q := fun bs s' => wpAny M A (pure (g x :: bs)) Q E s') (fun v hv => hf v (.tail _ hv)) (wpAny_pure h))))
/-- the first item of the tuple v -/
def fst0 (h : Heap) : Value → Option Value
  | .ref a => match h.get? a with
    | some o => match o.data with
      | .seq xs _ => xs[0]?
      | _ => none
    | none => none
  | _ => none
theorem kind_empt {v₁ v₂ : Value} {rest : List Value} {Q : SortKind → Shared → Prop} (hT : ∀ v ∈ v₁ :: v₂ :: rest, ∃ (xs : List PyData) (as : List Addr), Reads s.heap v (.tuple xs) as) (h0 : ∃ as, Reads s.heap v₁ (.tuple []) as) (h : Q oneType' s) :
    wpAny (model prog w) A (keyKind' (v₁ :: v₂ :: rest).toArray) Q E s := by
  have looks : ∀ v ∈ v₁ :: v₂ :: rest, Looks (model prog w) s.heap (typeOf v) (Value.type "tuple") := fun v hv => by
    obtain ⟨xs, as, r⟩ := hT v hv
    exact looks_reads r
  have hb : (Value.type "tuple" != Value.type "tuple") = false := by first | rfl | decide | simp
  have hb2 : (Value.type "tuple" == Value.type "tuple") = true := by first | rfl | decide | simp
  rw [keyKind'_eq, List.mapM_toArray, map_eq_pure_bind]
  refine wpAny_bind (wpAny_bind (mapM_g (g := fst0 s.heap) _ (fun v hv Q' hq => ?_) (wpAny_pure ?_)))
  · rw [kas_first_eq]
    refine wpAny_bind ((looks v hv).here ?_)
    rw [hb, if_neg (by decide)]
    obtain ⟨xs, as, r⟩ := hT v hv
    cases r with
    | @tuple a o its n _ _ h1 h2 h3 h4 =>
      refine wpAny_bind (listItems_at h1 h3 (wpAny_pure ?_))
      have e : fst0 s.heap (.ref a) = its[0]? := by
        unfold fst0
        simp only [h1, h3]
      rw [e] at hq
      exact hq
  · have e0 : fst0 s.heap v₁ = none := by
      obtain ⟨as, r⟩ := h0
      cases r with
      | @tuple a o its n _ _ h1 h2 h3 h4 =>
        cases h4' : its.toList with
        | nil =>
          unfold fst0
          simp only [h1, h3]
          rw [← Array.getElem?_toList, h4']
          rfl
        | cons x xs =>
          rw [h4'] at h4
          cases h4
    rw [if_neg (by simp [e0]), if_neg (by simp [e0])]
    rw [oneTypeOnly'_eq, List.mapM_toArray, map_eq_pure_bind]
    refine wpAny_bind (wpAny_bind (wpAny_bind (kas_mapM (r := Value.type "tuple") _ (fun v hv Q' hq => (looks v hv).here hq) (wpAny_pure ?_))))
    have hall : ((List.map (fun _ => Value.type "tuple") (v₁ :: v₂ :: rest)).toArray.all fun x => x == Value.type "tuple") = true := by
      simp only [List.all_toArray, List.all_map, List.all_eq_true]
      intro _ _
      exact hb2
    have h0 : (List.map (fun _ => Value.type "tuple") (v₁ :: v₂ :: rest)).toArray[0]? = some (Value.type "tuple") := by simp
    rw [h0]
    simp only [hall, if_true]
    exact wpAny_pure (wpAny_pure h)
theorem isTP_ex {d : PyData} (h : isTP d = true) : ∃ xs, d = .tuple xs := by
  cases d <;> first | exact ⟨_, rfl⟩ | cases h
theorem sortsAt_empt {vs : List Value} {ds : List PyData} (e : EachIs (fun v d => ∃ as, Reads s.heap v d as) vs ds) (hal : AllAlike ds) (hk : emptyHead ds = true) (hu : ∀ d, d ∈ ds → A.units + d.depth < cLine) : SortsAt prog w A s (dataKind s.heap ds) vs := by
  have tp : ∀ d ∈ ds, ∃ xs, d = .tuple xs := by
    unfold emptyHead at hk
    split at hk
    · rename_i r
      intro d hd
      rcases List.mem_cons.mp hd with rfl | hd
      · exact ⟨[], rfl⟩
      · exact isTP_ex (List.all_eq_true.mp hk d hd)
    · cases hk
  refine ⟨fun v hv => ?_, oneType', ?_, fun h2 E Q hq => ?_⟩
  · obtain ⟨d, hd, as, r⟩ := e.left v hv
    exact ⟨_, dataKind_some hal hd r⟩
  · intro E x y a b Q ha hb hq
    obtain ⟨d, as, hd, ra, rfl⟩ := dataKind_inv ha
    obtain ⟨d', as', hd', rb, rfl⟩ := dataKind_inv hb
    have hdd := hal d hd d' hd'
    have hu1 := hu d hd
    obtain ⟨xs, rfl⟩ := tp d hd
    obtain ⟨ys, rfl⟩ := tp d' hd'
    rw [keyLt'_oneType]
    exact oneLt_tuple ra rb hdd (Nat.lt_of_le_of_lt (Nat.add_le_add_left (Nat.min_le_left _ _) _) hu1) hq
  · match vs, h2, e with
    | [], h2, _ => simp at h2
    | [_], h2, _ => simp at h2
    | v₁ :: v₂ :: rest, _, e =>
      refine kind_empt (fun v hv => ?_) ?_ hq
      · obtain ⟨d, hd, as, r⟩ := e.left v hv
        obtain ⟨xs, rfl⟩ := tp d hd
        exact ⟨xs, as, r⟩
      · unfold emptyHead at hk
        split at hk
        · cases e with
          | cons h t => exact h
        · cases hk
/-- what may be sorted -/
theorem sortsAt_ok {vs : List Value} {ds : List PyData} (e : EachIs (fun v d => ∃ as, Reads s.heap v d as) vs ds) (hs : sortsOk ds = true) (hu : A.units + 61 < cLine) : AllAlike ds ∧ SortsAt prog w A s (dataKind s.heap ds) vs := by
  unfold sortsOk at hs
  simp only [Bool.and_eq_true, Bool.or_eq_true, List.all_eq_true, decide_eq_true_eq] at hs
  obtain ⟨⟨h1, h2⟩, h3⟩ := hs
  have hal : AllAlike ds := fun d hd d' hd' => h1 d hd d' hd'
  have hu' : ∀ d, d ∈ ds → A.units + d.depth < cLine := fun d hd => by have := h3 d hd; omega
  refine ⟨hal, ?_⟩
  rcases h2 with (h2 | h2) | h2
  · refine SortsAt.data e hal (.inl fun d hd => ?_) hu'
    have := h2 d hd
    unfold isTN at this
    split at this
    · exact ⟨_, _, rfl⟩
    · cases this
  · refine SortsAt.data e hal (.inr fun d hd => ?_) hu'
    have := h2 d hd
    unfold notTN at this
    split at this
    · cases this
    · cases this
    · rename_i n1 n2
      exact ⟨n2, n1⟩
  · exact sortsAt_empt e hal h2 hu'
/-- sorted(x, ..) is list.sort(..) on a new list of what x brings -/
theorem sorted_from {l : Value} {vs : List Value} {kw : List (Str × Value)} {Q : Value → Shared → Prop}
    (hc : ∀ {R : List Value → Shared → Prop}, (∀ h' tk, (∀ b o, s.heap.get? b = some o → h'.get? b = some o) → R vs { s with heap := h', toks := tk }) → wpAny (model prog w) A.in1 (collect l) R E s)
    (hL : vs.length ≤ sizeLine) (ha1 : argsOk "sorted" ⟨[l], kw⟩) (ha2 : ∀ x, argsOk "list.sort" ⟨[.ref x], kw⟩)
    (body : ∀ (h' : Heap) (tk : Nat), (∀ b o, s.heap.get? b = some o → h'.get? b = some o) → ∀ E' : Value → Shared → Prop,
      wpAny (model prog w) A.in1.in1 (Builtin.«list.sort» ⟨[.ref h'.objs.size], kw⟩) (fun f s' => f = .done (.ret .none) ∧ Q (.ref h'.objs.size) s') E' { s with heap := h'.push (seqObj "list" vs.toArray 0), toks := tk }) :
    wpAny (model prog w) A (call (.builtin "sorted") [l] kw) Q E s := by
  refine call_function_entry_kw kind_sorted plain_sorted entry_sorted ha1 ?_
  unfold Builtin.«sorted»
  refine wpAny_bind (m := checkCount "sorted" 1 1 _) (wpAny_pure ?_)
  refine wpAny_bind (hc fun h' tk keep => ?_)
  refine wpAny_bind (wpAny_newList ?_ hL)
  have hoL : (h'.push (seqObj "list" vs.toArray 0)).get? h'.objs.size = some (seqObj "list" vs.toArray 0) := Heap.get?_push_size _ rfl
  show wpAny _ _ _ _ _ { s with heap := h'.push (seqObj "list" vs.toArray 0), toks := tk }
  refine wpAny_bind (wpAny_holding (wpAny_call_entry_kw slot_list_sort ⟨_, hoL, rfl⟩ entry_list_sort ?_ (ha2 _)))
  refine wpAny_mono (body h' tk keep _) (fun f s' hq => ?_) fun _ _ h => h
  obtain ⟨rfl, hq⟩ := hq
  exact ⟨_, rfl, wpAny_pure ⟨_, rfl, hq⟩⟩
end
end SRT

namespace MI
open PySem PySem.Spec PyProof.Rows L2
open PySem.W (EachIs)
section
variable {k : Kx} {ρ : List Addr} {H : Hp}
/-- a value stands for a datum -/
def Stands (k : Kx) (ρ : List Addr) (H : Hp) (v : Value) (d : D) : Prop := ∃ x, RelV x v ∧ RelD k ρ H d x
theorem each_of : ∀ {ds : List D} {vs : List V} {us : List Value}, RelDs k ρ H ds vs → Vals vs us → EachIs (Stands k ρ H) us ds
  | [], _, _, r, e => by cases r; cases e; exact .nil
  | d :: ds, _, _, ⟨w, ws, h1, h2, h3⟩, e => by
    subst h1
    cases e with
    | cons r1 r2 => exact .cons ⟨w, r1, h2⟩ (each_of h3 r2)
theorem of_each : ∀ {us : List Value} {ds : List D}, EachIs (Stands k ρ H) us ds → ∃ vs, RelDs k ρ H ds vs ∧ Vals vs us
  | _, _, .nil => ⟨[], rfl, .nil⟩
  | _, _, .cons ⟨x, h1, h2⟩ t => by
    obtain ⟨vs, q1, q2⟩ := of_each t
    exact ⟨x :: vs, ⟨x, vs, rfl, h2, q1⟩, .cons h1 q2⟩
theorem pys_map {f : Nat → Option PyData} : ∀ {ds : List D} {ps : List PyData}, toPysA f ds = some ps → ps = ds.map fun d => (toPyA f d).getD .none
  | [], _, e => by cases e; rfl
  | d :: ds, _, e => by
    simp only [toPysA] at e
    split at e
    · rename_i x xs e1 e2
      cases e
      rw [List.map_cons, ← pys_map e2, e1]
      rfl
    · cases e
theorem keys_rel : ∀ {ks : List (List Int)} {vs : List V} {xs : List (List Key × Addr × Value)}, ks.length = vs.length →
    Paired (fun (p : List Key × V) (q : List Key × Addr × Value) => p.1 = q.1 ∧ H q.2.1 = some (.tup (p.1.map kV)) ∧ RelV p.2 q.2.2) ((ks.map fun z => z.map (Sum.inl : Int → Key)).zip vs) xs →
    RelDs k ρ H (ks.map fun z => .tup (z.map D.int)) ((xs.map fun x => x.2.1).map V.ref)
  | [], _, xs, _, r => by
    have : xs = [] := by
      cases xs with
      | nil => rfl
      | cons x xs => rw [List.map_nil, List.zip_nil_left] at r; cases r
    subst this
    exact rfl
  | z :: ks, [], _, h, _ => by simp at h
  | z :: ks, v :: vs, [], _, r => by rw [List.map_cons, List.zip_cons_cons] at r; cases r
  | z :: ks, v :: vs, x :: xs, h, r => by
    rw [List.map_cons, List.zip_cons_cons] at r
    cases r with
    | cons r1 r2 =>
      obtain ⟨a1, a2, a3⟩ := r1
      refine ⟨_, _, rfl, ⟨x.2.1, _, rfl, a2, ?_⟩, keys_rel (by simpa using h) r2⟩
      rw [List.map_map]
      exact RelDs.ints z
end
section
variable {X : Cx} {pins : List (Addr × Obj)} {σ : L2.St} {H : Hp} {s : Shared}
theorem itemsK_at {B ρ : List Addr} {S : Sto} (hcm : X.calm = true) (I : Inv X pins σ H s) (R : Rel (kx X B) ρ H S) {d : D} {v : V} {u : Value} {xs : List D} (r : RelD (kx X B) ρ H d v) (ru : RelV v u) (e : itemsK S d = some xs) :
    ∃ (vs : List V) (us : List Value), RelDs (kx X B) ρ H xs vs ∧ Vals vs us ∧ us.length ≤ sizeLine ∧
      ∀ {Q : List Value → Shared → Prop} {E : Value → Shared → Prop}, (∀ h' tk, (∀ b o, s.heap.get? b = some o → h'.get? b = some o) → Q us { s with heap := h', toks := tk }) → wpAny (model X.prog X.w) X.A.in1 (collect u) Q E s := by
  have gen : seqOf S d = some xs → _ := fun e => seq_at R r e
  cases d with
  | dtt ks ds =>
    clear gen
    have e : some (ks.map fun z => D.tup (z.map D.int)) = some xs := e
    cases e
    obtain ⟨a, o', vs, rfl, k1, k2, k3⟩ := r
    cases ru
    obtain ⟨_, hok⟩ := (show ObjOk X.prog X.w H s.heap a (.frz o' (.dT _)) from I.hok a _ k1)
    obtain ⟨z, hs, kx1, pr, o, es, ep, ho, hx, hdt, he, hn⟩ := (show ObjOk X.prog X.w H s.heap a (.dT _) from hok)
    have l1 : es.size = kx1.length := size_of_entries he
    have l2 := Paired.length pr
    refine ⟨(kx1.map fun x => x.2.1).map V.ref, (kx1.map fun x => x.2.1).map Value.ref, keys_rel k2 pr, vals_refs _, by rw [List.length_map, List.length_map, ← l2]; exact z, fun {Q E} hq => ?_⟩
    refine PySem.W.kdu_collect (A := X.A.in1) (kdl_raw hs hx hdt) (I.ok.hd hcm) ho (by rw [l1, ← l2]; exact z) fun h' tk acc hk it => ?_
    have ea : acc.toList = kx1.map fun x => Value.ref x.2.1 := by
      have hl : acc.toList.length = kx1.length := by rw [Array.length_toList, it.1]; exact l1
      apply List.ext_getElem?
      intro j
      rw [List.getElem?_map]
      cases hj : acc.toList[j]? with
      | none =>
        have h1 := List.getElem?_eq_none_iff.mp hj
        rw [List.getElem?_eq_none (by omega)]
        all_goals rfl
      | some v =>
        obtain ⟨en, hen, hv⟩ := it.2 j v (by rw [← Array.getElem?_toList]; exact hj)
        have qe := entry_at he j
        rw [hen] at qe
        cases hb : kx1[j]? with
        | none =>
          rw [hb] at qe
          exact nomatch (show some en = none from qe)
        | some b =>
          rw [hb] at qe
          have e2 : en = entryOfKey (tupleKind (mixKind X.prog X.w)) b := Option.some.inj qe
          rw [hv, e2]
          all_goals rfl
    have eb : acc.toList = (kx1.map fun x => x.2.1).map Value.ref := by rw [ea, List.map_map]; all_goals rfl
    rw [eb]
    exact hq h' tk hk
  | _ =>
    obtain ⟨a, vs, rfl, h1, h2⟩ := gen e
    cases ru
    rcases h1 with h1 | h1
    · obtain ⟨its, rv, ⟨o, n, ho, hc, hod, hdat⟩, hz⟩ := I.list h1
      have hl := rv.length
      refine ⟨vs, its, h2, rv, by omega, fun {Q E} hq => ?_⟩
      refine wpAny_collect_seq a (.inl rfl) ho hc hdat (fun h' hk => ?_) (by simp; omega)
      rw [show its.toArray.toList = its from List.toList_toArray]
      exact hq h' s.toks hk
    · obtain ⟨its, rv, ⟨o, ho, hc, n, hdat⟩, hz⟩ := I.tuple h1
      have hl := rv.length
      refine ⟨vs, its, h2, rv, by omega, fun {Q E} hq => ?_⟩
      refine wpAny_collect_seq a (.inr rfl) ho hc hdat (fun h' hk => ?_) (by simp; omega)
      rw [show its.toArray.toList = its from List.toList_toArray]
      exact hq h' s.toks hk
/-- the new list is ours -/
theorem sorted_fin {B ρ : List Addr} {S S' : Sto} {m : Bool} {d : D} {ys : List D} {out : List Value} {Q : VK} {h1 h2 : Heap} {tk : Nat} {a : Addr} {c : Nat} (I : Inv X pins σ H { s with heap := h1, toks := tk }) (R : Rel (kx X B) ρ H S) (p : Post (kx X B) ρ H d S' Q)
    (e : mkList m ys S = .ok d S') (ho : EachIs (Stands (kx X B) ρ H) out ys) (k : ∀ b o, h1.get? b = some o → h2.get? b = some o) (ha : h1.objs.size ≤ a) (he : h2.get? a = some (seqObj "list" out.toArray c)) (tk2 : Nat) :
    EP X pins σ Q (.ref a) { s with heap := h2, toks := tk2 } := by
  obtain ⟨vs, q1, q2⟩ := of_each ho
  obtain ⟨hz, q⟩ := Post.list R e p q1
  exact ⟨.ref a, upd H a (.lst vs), I.laid (t' := tk2) k ha (show ObjOk X.prog X.w _ _ _ (.lst vs) from ⟨hz, out, c, q2, he⟩), rfl, q a (I.hok.fresh ha)⟩
theorem blt_sorted (hcm : X.calm = true) (hu : X.A.units + 66 < cLine) (hy : SysK X.base) (m : Bool) : CallR X (.builtin "sorted") (rB X (sortM m)) := by
  intro pins s σ H vs us0 Q I r h
  obtain ⟨B, ρ, S, ds, d, S', R, hd, e, p⟩ := h
  unfold sortM at e
  split at e
  · obtain ⟨xs, S1, e1, e2⟩ := bnd_ok e
    obtain ⟨e3, rfl⟩ := look_ok e1
    obtain ⟨ps, S2, e4, e5⟩ := bnd_ok e2
    obtain ⟨e6, rfl⟩ := ofO_ok e4
    obtain ⟨hs, e7⟩ := gd_ok e5
    obtain ⟨v, rfl, hv⟩ := one_of hd
    obtain ⟨u, rfl, ru⟩ := vals1 r
    obtain ⟨ws, us, q1, q2, q3, q4⟩ := itemsK_at hcm I R hv ru e3
    refine SRT.sorted_from (fun {_} hq => q4 hq) q3 (PyProof.Rows.args_sorted1 _) (fun _ => PyProof.Rows.args_list_sort _) fun h' tk keep E' => ?_
    have hoL : (h'.push (seqObj "list" us.toArray 0)).get? h'.objs.size = some (seqObj "list" us.toArray 0) := Heap.get?_push_size _ rfl
    have hps : ps = xs.map pyOf := pys_map e6
    have k2 : ∀ b o, s.heap.get? b = some o → (PySem.W.sortingHeap (h'.push (seqObj "list" us.toArray 0)) h'.objs.size us).get? b = some o := fun b o q =>
      PySem.W.sortingHeap_old (Nat.ne_of_lt (Heap.lt_size (keep b o q))) (Heap.get?_push_of_some _ (keep b o q))
    have er0 : EachIs (fun v d => ∃ as, Reads (PySem.W.sortingHeap (h'.push (seqObj "list" us.toArray 0)) h'.objs.size us) v d as) us ps := by
      obtain ⟨as, z, zz⟩ := rds_reads I hy (f := fun _ => none) (fun _ _ _ q => nomatch q) q1 e6 q2
      have gen : ∀ {us : List Value} {ps : List PyData} {as : List Addr}, ReadsAll s.heap us ps as → EachIs (fun v d => ∃ as, Reads (PySem.W.sortingHeap (h'.push (seqObj "list" us.toArray 0)) h'.objs.size us) v d as) us ps → True := fun _ _ => trivial
      clear gen
      generalize PySem.W.sortingHeap (h'.push (seqObj "list" us.toArray 0)) h'.objs.size us = h3 at k2
      clear hoL q4 q3 q2 hps e6 hs e4 e5 zz
      induction ps generalizing us as with
      | nil => cases z; exact .nil
      | cons p0 ps ih =>
        cases z with
        | cons z1 z2 => exact .cons ⟨_, PyProof.Rows.Reads.keeps k2 z1⟩ (ih _ _ z2)
    have ok := SRT.sortsAt_ok (prog := X.prog) (w := X.w) (A := X.A.in1.in1) (s := { s with heap := PySem.W.sortingHeap (h'.push (seqObj "list" us.toArray 0)) h'.objs.size us, toks := tk }) er0 hs (by show X.A.units + 1 + 1 + 61 < cLine; omega)
    refine PySem.W.list_sort_vals (s := { s with heap := h'.push (seqObj "list" us.toArray 0), toks := tk }) hoL ok.2 q3 ⟨rfl, ?_⟩
    have ho : EachIs (Stands (kx X B) ρ H) (PySem.W.sortVals (PySem.W.dataKind (PySem.W.sortingHeap (h'.push (seqObj "list" us.toArray 0)) h'.objs.size us) ps) false us us) (xs.mergeSort (PySem.W.dataLe false pyOf)) := by
      rw [hps]
      refine PySem.W.sortVals_data false (each_of q1 q2) ?_ (by rw [← hps]; exact ok.1)
      rw [hps] at er0
      exact PySem.W.each_of_map pyOf er0
    obtain ⟨c, hc⟩ := PyProof.Rows.sortedHeap_at (vs := us) (out := (PySem.W.sortVals (PySem.W.dataKind (PySem.W.sortingHeap (h'.push (seqObj "list" us.toArray 0)) h'.objs.size us) ps) false us us).toArray) hoL
    refine sorted_fin (s := s) (I.kept (t' := tk) keep) R p e7 ho (fun b o q => ?_) (Nat.le_refl _) hc tk
    have hb := Heap.lt_size q
    rw [PyProof.Rows.sortedHeap_old (Nat.ne_of_lt hb) (by rw [size_push']; exact Nat.lt_succ_of_lt hb)]
    exact Heap.get?_push_of_some _ q
  · exact fail_ok e
theorem blt_sortedL (hcm : X.calm = true) (hu : X.A.units + 66 < cLine) (m : Bool) {vs : List V} {us0 : List Value} {Q : VK} (I : Inv X pins σ H s) (r : Vals vs us0) (h : rB X (sortLM m) vs H Q) :
    wpAny (model X.prog X.w) X.A (call (.builtin "sorted") us0 [(Str.ofString "key", .builtin "len"), (Str.ofString "reverse", .bool true)]) (EP X pins σ Q) X.xe s := by
  obtain ⟨B, ρ, S, ds, d, S', R, hd, e, p⟩ := h
  unfold sortLM at e
  split at e
  · obtain ⟨xs, S1, e1, e2⟩ := bnd_ok e
    obtain ⟨e3, rfl⟩ := look_ok e1
    obtain ⟨hs, e7⟩ := gd_ok e2
    obtain ⟨v, rfl, hv⟩ := one_of hd
    obtain ⟨u, rfl, ru⟩ := vals1 r
    obtain ⟨ws, us, q1, q2, q3, q4⟩ := itemsK_at hcm I R hv ru e3
    refine SRT.sorted_from (fun {_} hq => q4 hq) q3 (PyProof.Rows.ksk_s2 _ _ _) (fun _ => PyProof.Rows.ksk_l2 _ _ _) fun h' tk keep E' => ?_
    rw [PyProof.Rows.ksk_t5]
    have hoL : (h'.push (seqObj "list" us.toArray 0)).get? h'.objs.size = some (seqObj "list" us.toArray 0) := Heap.get?_push_size _ rfl
    have ho := each_of q1 q2
    have hint : ∀ x, ∃ i, tupLn x = .int i := fun x => by
      unfold tupLn
      split
      · exact ⟨_, rfl⟩
      · exact ⟨_, rfl⟩
    refine PySem.W.keyH_tree (kz := xs.map tupLn) (s := { s with heap := h'.push (seqObj "list" us.toArray 0), toks := tk }) hoL (by rw [List.length_map]; exact ho.length.symm) q3 (PySem.W.AllAlike.of fun b b' => ?_) (PySem.W.Sortable.others fun b => ?_)
      (PySem.W.bound_map (A := X.A.in1.in1) fun x hx => ?_) (PySem.W.keyH_turns (s := { s with heap := h'.push (seqObj "list" us.toArray 0), toks := tk }) ho fun v x hR hx h3 tk3 kp => ?_) fun h3 tk3 out c kp hD ko => ⟨rfl, ?_⟩
    · obtain ⟨i, e1⟩ := hint b
      obtain ⟨j, e2⟩ := hint b'
      rw [e1, e2]
      simp [PySem.W.alike]
    · obtain ⟨i, e1⟩ := hint b
      rw [e1]
      exact ⟨(fun z => nomatch z), (fun _ z => nomatch z)⟩
    · obtain ⟨i, e1⟩ := hint x
      rw [e1]
      show X.A.units + 1 + 1 + 0 < cLine
      omega
    · have hx2 := List.all_eq_true.mp hs x hx
      cases x <;> try (cases hx2; done)
      rename_i ys
      obtain ⟨v0, r1, a, vs2, rfl, r2, r3⟩ := hR
      cases r1
      obtain ⟨its, rv, ⟨o, ho', hc, n, hdat⟩, hz⟩ := I.tuple (.of r2)
      have hlen := rv.length
      have hq : h3.get? a = some o := kp a o (Nat.ne_of_lt (Heap.lt_size (keep a o ho'))) (Heap.get?_push_of_some _ (keep a o ho'))
      have hn := line63
      refine len_tuple (s := { s with heap := h3, toks := tk3 }) ⟨o, hq, hc, n, hdat⟩ (by simp only [List.size_toArray]; omega) ⟨h3, _, rfl, fun _ _ e => e, ?_⟩
      have e5 : tupLn (.tup ys) = .int its.toArray.size := by
        show PyData.int _ = _
        rw [r3.length, hlen, List.size_toArray]
      rw [e5]
      exact .int _ _
    · refine sorted_fin (s := s) (I.kept (t' := tk) keep) R p e7 (PySem.W.keyedOut_each tupLn ko ho) (fun b o q => ?_) (Nat.le_refl _) hD tk3
      exact kp b o (Nat.ne_of_lt (Heap.lt_size q)) (Heap.get?_push_of_some _ q)
  · exact fail_ok e
end
end MI
set_option Elab.async false
set_option linter.all false
set_option maxRecDepth 100000
set_option maxHeartbeats 2000000
/-! t[::-1] of a tuple -/
namespace RVT
open PySem PySem.Calls PySem.Spec PyProof.Rows L2
section
variable {prog : Program} {w : World} {A : Around} {E : Value → Shared → Prop} {s : Shared}
theorem places_back (n : Nat) : Builtin.Slice.slicePlaces ((n : Int) - 1) (-1) (-1) = n := by
  unfold Builtin.Slice.slicePlaces
  rw [if_neg (by decide)]
  split
  · rename_i h
    rw [show -(-1 : Int) = 1 by rfl, Int.ediv_one]
    omega
  · rename_i h
    have : n = 0 := by omega
    subst this
    rfl
theorem sliceApplied_back {sl : Addr} {vl vu vs : Value} {n : Nat} {Q : Int × Int × Nat → Shared → Prop} (hs : s.heap.IsSliceOf sl vl vu vs) (pl : IsPart vl none) (pu : IsPart vu none) (ps : IsPart vs (some (-1)))
    (h : Q ((n : Int) - 1, -1, n) s) : wpAny (model prog w) A (Builtin.Slice.sliceApplied (.ref sl) (pure (n : Int))) Q E s := by
  obtain ⟨os, hos, hcs, hds⟩ := id hs
  unfold Builtin.Slice.sliceApplied Builtin.Slice.sliceFields
  refine wpAny_bind (wpAny_bind (wpAny_field hos hds (x := vl) rfl (wpAny_bind (wpAny_field hos hds (x := vu) rfl (wpAny_bind (wpAny_field hos hds (x := vs) rfl (wpAny_pure ?_)))))))
  refine wpAny_bind (HT.slicePart_ ps ?_)
  show wpAny _ _ (if ((-1 : Int) == 0) = true then _ else _) _ _ s
  rw [if_neg (by decide)]
  refine wpAny_bind (HT.slicePart_ pl (wpAny_bind (HT.slicePart_ pu (wpAny_bind (wpAny_pure ?_)))))
  show wpAny _ _ (pure ((n : Int) - 1, (-1 : Int), Builtin.Slice.slicePlaces ((n : Int) - 1) (-1) (-1))) _ _ s
  rw [places_back]
  exact wpAny_pure h
theorem fmap_congr {α β : Type} {f g : α → Option β} : ∀ {l : List α}, (∀ x ∈ l, f x = g x) → l.filterMap f = l.filterMap g
  | [], _ => rfl
  | x :: l, h => by
    rw [List.filterMap_cons, List.filterMap_cons, h x List.mem_cons_self, fmap_congr fun y hy => h y (List.mem_cons_of_mem _ hy)]
theorem pick_back : ∀ (l : List Value) (r : List Value), (List.range l.length).filterMap (fun (m : Nat) => (l ++ r)[(((l.length : Int) - 1) + (m : Int) * (-1)).toNat]?) = l.reverse
  | [], r => rfl
  | x :: l, r => by
    rw [List.length_cons, List.range_succ, List.filterMap_append]
    have hlast : List.filterMap (fun (m : Nat) => ((x :: l) ++ r)[((((l.length + 1 : Nat) : Int) - 1) + (m : Int) * (-1)).toNat]?) [l.length] = [x] := by
      have e : ((((l.length + 1 : Nat) : Int) - 1) + ((l.length : Nat) : Int) * (-1)).toNat = 0 := by omega
      unfold List.filterMap
      rw [e]
      rfl
    rw [hlast]
    have hrest : (List.range l.length).filterMap (fun (m : Nat) => ((x :: l) ++ r)[((((l.length + 1 : Nat) : Int) - 1) + (m : Int) * (-1)).toNat]?) = l.reverse := by
      rw [← pick_back l r]
      refine fmap_congr fun m hm => ?_
      have hm := List.mem_range.mp hm
      have e : ((((l.length + 1 : Nat) : Int) - 1) + (m : Int) * (-1)).toNat = ((((l.length : Nat) : Int) - 1) + (m : Int) * (-1)).toNat + 1 := by omega
      rw [e]
      rfl
    rw [hrest, List.reverse_cons]
theorem getItem_tuple_back {t sl : Addr} {items : Array Value} {vl vu vs : Value} {Q : Value → Shared → Prop} (ht : IsTup s.heap t items) (hs : s.heap.IsSliceOf sl vl vu vs) (pl : IsPart vl none) (pu : IsPart vu none) (ps : IsPart vs (some (-1)))
    (h : Q (.ref s.heap.objs.size) { s with heap := s.heap.push { cls := .type "tuple", data := .seq items.toList.reverse.toArray } })
    (hsz : items.size ≤ sizeLine) : wpAny (model prog w) A (getItem (.ref t) (.ref sl)) Q E s := by
  have htake : sizeOk (.seq items.toList.reverse.toArray) := by
    show items.toList.reverse.toArray.size ≤ sizeLine
    rw [List.size_toArray, List.length_reverse, Array.length_toList]
    exact hsz
  obtain ⟨os, hos, hcs, hds⟩ := id hs
  have hTs : s.TypeIs (.ref sl) "slice" := ⟨os, hos, hcs⟩
  unfold getItem
  try with_reducible refine wpAny_holding ?_
  first | refine wpAny_bind (wpAny_pure ?_) | skip
  refine wpAny_bind (wpAny_sequenceKey ht.typeIs (by decide) ?_)
  refine wpAny_bind (wpAny_callSpecial?_slot (name := Str.ofString "__getitem__") ht.typeIs PyProof.Rows.slot_tuple_getitem
    (wpAny_call_entry PyProof.Rows.slot_tuple_getitem ht.typeIs entry_tuple_getitem ?_ (args_tuple_getitem _ _)))
  show wpAny _ _ (Builtin.Tuple.tupleItemsOf (.ref t) >>= _) _ _ s
  refine wpAny_bind (tupleItemsOf_ ht ?_)
  refine wpAny_bind (wpAny_typeOf hTs ?_)
  rw [if_pos (by decide)]
  refine wpAny_bind (sliceApplied_back hs pl pu ps ?_)
  have hno : ¬ ((((items.size : Int) - 1) == 0 && (-1 : Int) == 1 && items.size == items.size) = true) := by
    intro q
    rw [Bool.and_eq_true, Bool.and_eq_true] at q
    exact absurd q.1.2 (by decide)
  have hp : ((List.range items.size).filterMap fun (m : Nat) => items[(((items.size : Int) - 1) + (m : Int) * (-1)).toNat]?).toArray = items.toList.reverse.toArray := by
    congr 1
    rw [← pick_back items.toList []]
    rw [Array.length_toList]
    refine fmap_congr fun m hm => ?_
    rw [List.append_nil, Array.getElem?_toList]
  show wpAny _ _ (if (((items.size : Int) - 1) == 0 && (-1 : Int) == 1 && items.size == items.size) = true then _ else _) _ _ s
  rw [if_neg hno, hp]
  first
    | exact wpAny_bind (m := Builtin.Tuple.tupleExact _) (wpAny_newObj_type (wpAny_pure ⟨_, rfl, wpAny_pure h⟩) htake)
    | exact wpAny_bind (m := Builtin.Tuple.tupleExact _) (wpAny_newObj_type (wpAny_bind (wpAny_pure (wpAny_pure ⟨_, rfl, wpAny_pure h⟩))) htake)
end
end RVT
namespace MI
open PySem PySem.Spec PyProof.Rows L2
def tRevA (K : PySem.W.Frag) (te : TE) : TE := fun σ H Q => te σ H fun x H1 => (∃ a xs, x = .ref a ∧ SqL K H1 a xs ∧ ∀ p, H1 p = none → Q (.ref p) (upd H1 p (.lst xs.reverse))) ∨ (∃ a xs, x = .ref a ∧ SqT K H1 a xs ∧ ∀ p, H1 p = none → Q (.ref p) (upd H1 p (.tup xs.reverse)))
section
variable {X : Cx}
theorem pe_revA {e : Expr} {te : TE} {k : Nat} {p1 p2 p3 pos : Pos} (he : PE X e te) : PE X (.Subscript e (.Slice none none (some (.UnaryOp .USub (.Constant (.int 1) k p1) p2)) p3) pos) (tRevA X.K te) := by
  refine ⟨fun pins s σ H Q I h => ?_⟩
  refine Subscript_ (thn (he.run pins s σ H _ I h) fun v s1 ⟨x, H1, I1, r1, q1⟩ => ?_)
  have hst : PO X (some (.UnaryOp .USub (.Constant (.int 1) k p1) p2)) (tPart (tUn (rU fun i => .int (-i)) (tC (.int 1)))) := po_some (pe_un un_neg pe_int)
  refine wpAny_Slice (thn (po_none.run pins s1 σ H1 (fun o H2 => o = none ∧ H2 = H1) I1 ⟨rfl, rfl⟩) fun vl s2 ⟨l, H2, I2, pl, el, e2⟩ => ?_)
  subst el e2
  refine thn (po_none.run pins s2 σ H2 (fun o H3 => o = none ∧ H3 = H2) I2 ⟨rfl, rfl⟩) fun vu s3 ⟨u, H3, I3, pu, eu, e3⟩ => ?_
  subst eu e3
  refine thn (hst.run pins s3 σ H3 (fun o H4 => o = some (-1) ∧ H4 = H3) I3 ⟨1, rfl, -1, rfl, rfl, rfl⟩) fun vs s4 ⟨o, H4, I4, ps, eo, e4⟩ => ?_
  subst eo e4
  have I5 : Inv X pins σ H4 { s4 with heap := s4.heap.push { cls := .type "slice", data := .fields #[vl, vu, vs] } } := I4.kept (t' := s4.toks) fun b ob q => Heap.get?_push_of_some _ q
  rcases q1 with ⟨a, xs, ex, hx, q⟩ | ⟨a, xs, ex, hx, q⟩
  · subst ex
    cases r1
    obtain ⟨its, r, ht, hz⟩ := I5.list hx
    have hlen := r.length
    show wpAny (model X.prog X.w) X.A (subscriptTail e (.Slice none none (some (.UnaryOp .USub (.Constant (.int 1) k p1) p2)) p3) (.ref a) (.ref s4.heap.objs.size)) (EP X pins σ Q) X.xe { s4 with heap := s4.heap.push { cls := .type "slice", data := .fields #[vl, vu, vs] } }
    refine tail_any (ops := [.ref a, .ref s4.heap.objs.size]) ht.isList.typeIs (PySem.slot_list_getitem.lookup) ?_ (by with_unfolding_all rfl)
    refine wpAny_getItem_list_slice ht.isList (Heap.IsSliceOf.new _ vl vu vs) pl pu ps (by decide) ?_ (by rw [List.size_toArray]; omega)
    rw [PySem.W.krv_pick]
    refine ⟨.ref _, _, I5.laid (t' := s4.toks) (o := .lst xs.reverse) (fun b ob q => Heap.get?_push_of_some _ q) (Nat.le_refl _) ?_, rfl, q _ (I5.hok.fresh (Nat.le_refl _))⟩
    exact ⟨by rw [List.length_reverse]; exact hz, _, 0, r.reverse, Heap.get?_push_size _ rfl⟩
  · subst ex
    cases r1
    obtain ⟨its, r, ht, hz⟩ := I5.tuple hx
    have hlen := r.length
    show wpAny (model X.prog X.w) X.A (subscriptTail e (.Slice none none (some (.UnaryOp .USub (.Constant (.int 1) k p1) p2)) p3) (.ref a) (.ref s4.heap.objs.size)) (EP X pins σ Q) X.xe { s4 with heap := s4.heap.push { cls := .type "slice", data := .fields #[vl, vu, vs] } }
    refine tail_any (ops := [.ref a, .ref s4.heap.objs.size]) ht.typeIs PyProof.Rows.slot_tuple_getitem.lookup ?_ (by with_unfolding_all rfl)
    refine RVT.getItem_tuple_back ht (Heap.IsSliceOf.new _ vl vu vs) pl pu ps ?_ (by rw [List.size_toArray]; omega)
    refine ⟨.ref _, _, I5.laid (t' := s4.toks) (o := .tup xs.reverse) (fun b ob q => Heap.get?_push_of_some _ q) (Nat.le_refl _) ?_, rfl, q _ (I5.hok.fresh (Nat.le_refl _))⟩
    exact ⟨by rw [List.length_reverse]; exact hz, _, r.reverse, IsTup.new _ _⟩
end
end MI
set_option Elab.async false
set_option linter.all false
set_option maxRecDepth 100000
set_option maxHeartbeats 2000000
namespace MI
open PySem PySem.Spec PyProof.Rows L2
section
variable {X : Cx} {cf : Cf} {gl : Str → Option D} {a b c e : Expr} {es : List Expr} {ma mb mc : ME} {ms : List ME} {pos p : Pos}
theorem k_cmp2 {op op' : CmpOp} (hu : X.A.units + 64 < cLine) (hm : lastMarks [op, op'] [b, c] = false) (ha : PE X a (tE X cf gl ma)) (hb : PE X b (tE X cf gl mb)) (hc : PE X c (tE X cf gl mc)) : PE X (.Compare a [op, op'] [b, c] pos) (tE X cf gl (.cmp2 ma op mb op' mc)) := by
  refine (pe_chain (op_cmp hu op) (op_cmp hu op') ha hb hc hm).imp fun σ H Q ⟨B, ρ, S, σd, d, S', R, r, e, p⟩ => ?_
  unfold evE at e
  obtain ⟨x, S1, e1, e2⟩ := bnd_ok e
  obtain ⟨y, S2, e3, e4⟩ := bnd_ok e2
  obtain ⟨k, S3, e5, e6⟩ := bnd_ok e4
  refine ⟨B, ρ, S, σd, x, S1, R, r, e1, fun ρ1 H1 v x1 R1 r1 => ⟨B, ρ1, S1, σd, y, S2, R1, r.ext x1, e3, fun ρ2 H2 u x2 R2 r2 => ⟨B, ρ2, S2, x, y, k, S3, R2, r1.ext x2, r2, e5, fun ee => ⟨k, rfl, ?_⟩⟩⟩⟩
  subst ee
  cases k with
  | true =>
    obtain ⟨z, S4, e7, e8⟩ := bnd_ok e6
    exact ⟨B, ρ2, _, σd, z, S4, R2, (r.ext x1).ext x2, e7, fun ρ3 H3 w x3 R3 r3 => cB_of R3 (r2.ext x3) r3 e8 fun k ek R4 => by
      subst ek
      exact (((p.ext x1).ext x2).ext x3).now R4 rfl⟩
  | false =>
    obtain ⟨rfl, rfl⟩ := ret_ok e6
    exact ((p.ext x1).ext x2).now R2 rfl
theorem k_cmp2T {op op' : CmpOp} (hu : X.A.units + 64 < cLine) (hm : lastMarks [op, op'] [b, c] = false) (ha : PE X a (tE X cf gl ma)) (hb : PE X b (tE X cf gl mb)) (hc : PE X c (tE X cf gl mc)) : PT X (.Compare a [op, op'] [b, c] pos) (tT X cf gl (.val (.cmp2 ma op mb op' mc))) := by
  refine (pt_chain (op_cmp hu op) (op_cmp hu op') ha hb hc hm).imp fun σ H Q ⟨B, ρ, S, σd, d, S', R, r, e, p⟩ => ?_
  unfold evT evE at e
  obtain ⟨z, S0, e0, e9⟩ := bnd_ok e
  obtain ⟨e10, rfl⟩ := look_ok e9
  obtain ⟨x, S1, e1, e2⟩ := bnd_ok e0
  obtain ⟨y, S2, e3, e4⟩ := bnd_ok e2
  obtain ⟨k, S3, e5, e6⟩ := bnd_ok e4
  refine ⟨B, ρ, S, σd, x, S1, R, r, e1, fun ρ1 H1 v x1 R1 r1 => ⟨B, ρ1, S1, σd, y, S2, R1, r.ext x1, e3, fun ρ2 H2 u x2 R2 r2 => ⟨B, ρ2, S2, x, y, k, S3, R2, r1.ext x2, r2, e5, fun ee => ⟨k, rfl, ?_⟩⟩⟩⟩
  subst ee
  cases k with
  | true =>
    obtain ⟨w, S4, e7, e8⟩ := bnd_ok e6
    exact ⟨B, ρ2, _, σd, w, S4, R2, (r.ext x1).ext x2, e7, fun ρ3 H3 w x3 R3 r3 => cB_of R3 (r2.ext x3) r3 e8 fun k ek R4 => by
      subst ek
      unfold truthOf at e10
      cases e10
      exact ⟨_, rfl, p ρ3 H3 ((x1.trans x2).trans x3) R4⟩⟩
  | false =>
    obtain ⟨rfl, rfl⟩ := ret_ok e6
    unfold truthOf at e10
    cases e10
    exact ⟨_, rfl, p ρ2 H2 (x1.trans x2) R2⟩
/-- a test that is a value's truth -/
theorem k_truth (ha : PE X a (tE X cf gl ma)) (he : ∀ whole, isTrue a X.env whole = (do let v ← whole; standAt a.pos; holding [v] (truthy v))) : PT X a (tT X cf gl (.val ma)) := by
  refine (pt_truth ha he).imp fun σ H Q ⟨B, ρ, S, σd, d, S', R, r, e, p⟩ => ?_
  unfold evT at e
  obtain ⟨z, S0, e0, e9⟩ := bnd_ok e
  obtain ⟨e10, rfl⟩ := look_ok e9
  exact ⟨B, ρ, S, σd, z, _, R, r, e0, fun ρ1 H1 v x1 R1 r1 => ⟨d, tru_at R1 r1 e10, p ρ1 H1 x1 R1⟩⟩
theorem k_notT {m : MC} (ha : PT X a (tT X cf gl m)) : PT X (.UnaryOp .Not a pos) (tT X cf gl (.not m)) := by
  refine (pt_not ha).imp fun σ H Q ⟨B, ρ, S, σd, d, S', R, r, e, p⟩ => ?_
  unfold evT at e
  obtain ⟨k, S0, e0, e9⟩ := bnd_ok e
  obtain ⟨rfl, rfl⟩ := ret_ok e9
  exact ⟨B, ρ, S, σd, k, _, R, r, e0, p⟩
theorem k_andT {rest : List Expr} {m n : MC} (ha : PT X a (tT X cf gl m)) (hb : PW X (.BoolOp .And (b :: rest) pos) (tT X cf gl n)) : PW X (.BoolOp .And (a :: b :: rest) pos) (tT X cf gl (.and m n)) := by
  refine (pw_and ha hb).imp fun σ H Q ⟨B, ρ, S, σd, d, S', R, r, e, p⟩ => ?_
  unfold evT at e
  obtain ⟨k, S1, e1, e2⟩ := bnd_ok e
  refine ⟨B, ρ, S, σd, k, S1, R, r, e1, fun ρ1 H1 x1 R1 => ?_⟩
  cases k with
  | true => exact ⟨B, ρ1, S1, σd, d, S', R1, r.ext x1, e2, fun ρ' H' x R => p ρ' H' (x1.trans x) R⟩
  | false =>
    obtain ⟨rfl, rfl⟩ := ret_ok e2
    exact p ρ1 H1 x1 R1
theorem k_orT {rest : List Expr} {m n : MC} (ha : PT X a (tT X cf gl m)) (hb : PW X (.BoolOp .Or (b :: rest) pos) (tT X cf gl n)) : PW X (.BoolOp .Or (a :: b :: rest) pos) (tT X cf gl (.or m n)) := by
  refine (pw_or ha hb).imp fun σ H Q ⟨B, ρ, S, σd, d, S', R, r, e, p⟩ => ?_
  unfold evT at e
  obtain ⟨k, S1, e1, e2⟩ := bnd_ok e
  refine ⟨B, ρ, S, σd, k, S1, R, r, e1, fun ρ1 H1 x1 R1 => ?_⟩
  cases k with
  | false => exact ⟨B, ρ1, S1, σd, d, S', R1, r.ext x1, e2, fun ρ' H' x R => p ρ' H' (x1.trans x) R⟩
  | true =>
    obtain ⟨rfl, rfl⟩ := ret_ok e2
    exact p ρ1 H1 x1 R1
/-! ### arguments, displays -/
theorem star_cons {e : Expr} {es : List Expr} (h : isStar e = false) (env : PySem.Env) : starEach (e :: es) env = (false, eval e env) :: starEach es env := by
  cases e <;> first | rfl | cases h
theorem star_any {pos : Pos} {env : PySem.Env} : ∀ {es : List Expr}, noStar es = true → (backTo pos (starEach es env)).any (·.1) = false
  | [], _ => rfl
  | e :: es, h => by
    unfold noStar at h
    rw [List.all_cons, Bool.and_eq_true, Bool.not_eq_true'] at h
    rw [star_cons (by simpa using h.1)]
    show (false || (backTo pos (starEach es env)).any (·.1)) = false
    rw [Bool.false_or]
    exact star_any h.2
theorem star_all {pos : Pos} {env : PySem.Env} : ∀ {es : List Expr}, noStar es = true → (backTo pos (starEach es env)).all (fun x => !x.1) = true
  | [], _ => rfl
  | e :: es, h => by
    unfold noStar at h
    rw [List.all_cons, Bool.and_eq_true, Bool.not_eq_true'] at h
    rw [star_cons (by simpa using h.1)]
    show (!false && (backTo pos (starEach es env)).all (fun x => !x.1)) = true
    rw [Bool.not_false, Bool.true_and]
    exact star_all h.2
theorem k_nil : PA X [] (tAs X cf gl []) := by
  refine pa_nil.imp fun σ H Q ⟨B, ρ, S, σd, ds, S', R, r, e, p⟩ => ?_
  unfold evEs at e
  obtain ⟨rfl, rfl⟩ := ret_ok e
  exact p ρ H [] Ext.refl R rfl
theorem k_cons (hs : isStar a = false) (ha : PE X a (tE X cf gl ma)) (hr : PA X es (tAs X cf gl ms)) : PA X (a :: es) (tAs X cf gl (ma :: ms)) := by
  refine (pa_cons ha hr (star_cons hs _)).imp fun σ H Q ⟨B, ρ, S, σd, ds, S', R, r, e, p⟩ => ?_
  unfold evEs at e
  obtain ⟨x, S1, e1, e2⟩ := bnd_ok e
  obtain ⟨xs, S2, e3, e4⟩ := bnd_ok e2
  obtain ⟨rfl, rfl⟩ := ret_ok e4
  exact ⟨B, ρ, S, σd, x, S1, R, r, e1, fun ρ1 H1 v x1 R1 r1 => ⟨B, ρ1, S1, σd, xs, _, R1, r.ext x1, e3, fun ρ2 H2 vs x2 R2 r2 => p ρ2 H2 _ (x1.trans x2) R2 ⟨v, vs, rfl, r1.ext x2, r2⟩⟩⟩
theorem k_tup {k : Nat} (h : PA X es (tAs X cf gl ms)) : PE X (.Tuple es k pos) (tE X cf gl (.tup ms)) := by
  refine (pe_tup h).imp fun σ H Q ⟨B, ρ, S, σd, d, S', R, r, e, p⟩ => ?_
  unfold evE at e
  obtain ⟨xs, S1, e1, e2⟩ := bnd_ok e
  exact ⟨B, ρ, S, σd, xs, S1, R, r, e1, fun ρ1 H1 vs x1 R1 r1 => by
    have z := Post.tup R1 e2 (p.ext x1) r1
    exact z⟩
theorem k_lst {m : Bool} (h : PA X es (tAs X cf gl ms)) : PE X (.List es pos) (tE X cf gl (.lst m ms)) := by
  refine (pe_lst h).imp fun σ H Q ⟨B, ρ, S, σd, d, S', R, r, e, p⟩ => ?_
  unfold evE at e
  obtain ⟨xs, S1, e1, e2⟩ := bnd_ok e
  exact ⟨B, ρ, S, σd, xs, S1, R, r, e1, fun ρ1 H1 vs x1 R1 r1 => by
    have z := Post.list R1 e2 (p.ext x1) r1
    exact z⟩
/-! ### subscripts -/
theorem plain_ix {b : Expr} (h : ∀ l u s q, b ≠ .Slice l u s q) : PlainIx b := fun o i => by
  cases b <;> first | rfl | exact absurd rfl (h _ _ _ _)
theorem val_rel {κ : Type} [DecidableEq κ] {k : Kx} {ρ : List Addr} {H : Hp} {key : κ} {d : D} : ∀ {ks : List κ} {ds : List D} {vs : List V}, RelDs k ρ H ds vs → valD (ks.zip ds) key = some d → ∃ v, valV (ks.zip vs) key = some v ∧ RelD k ρ H d v
  | [], _, _, _, e => by simp [valD] at e
  | _ :: _, [], _, _, e => by simp [valD] at e
  | z :: ks, y :: ds, _, ⟨w, ws, h1, h2, h3⟩, e => by
    subst h1
    unfold valD at e
    unfold valV
    simp only [List.zip_cons_cons, List.find?_cons] at e ⊢
    by_cases hz : z = key
    · simp only [hz, decide_true, Option.map_some, Option.some.injEq] at e ⊢
      subst e
      exact ⟨w, rfl, h2⟩
    · simp only [hz, decide_false] at e ⊢
      exact val_rel h3 e
theorem ints_rel {k : Kx} {ρ : List Addr} {H : Hp} : ∀ {ys : List D} {us : List V} {z : List Int}, RelDs k ρ H ys us → intsOf ys = some z → us = (z.map (Sum.inl : Int → Key)).map kV
  | [], _, _, r, e => by cases e; cases r; rfl
  | y :: ys, _, _, ⟨u, us, h1, r1, r2⟩, e => by
    cases y <;> try (simp [intsOf] at e; done)
    simp only [intsOf, Option.map_eq_some_iff] at e
    obtain ⟨k2, e1, rfl⟩ := e
    subst h1
    cases r1
    rw [ints_rel r2 e1]
    rfl
theorem zip_keys {ks : List (List Int)} {vs : List V} {k : List Int} : valV ((ks.map fun z => z.map (Sum.inl : Int → Key)).zip vs) (k.map Sum.inl) = valV (ks.zip vs) k := by
  have inj : ∀ {a b : List Int}, a.map (Sum.inl : Int → Key) = b.map Sum.inl ↔ a = b := fun {a b} => ⟨fun e => by
    have := congrArg (List.map fun z : Key => z.elim id fun _ => 0) e
    simpa [List.map_map] using this, fun e => by rw [e]⟩
  induction ks generalizing vs with
  | nil => rfl
  | cons z ks ih =>
    cases vs with
    | nil => rfl
    | cons v vs =>
      unfold valV at ih ⊢
      simp only [List.map_cons, List.zip_cons_cons, List.find?_cons]
      by_cases hz : z = k
      · simp [hz]
      · have hz2 : ¬ z.map (Sum.inl : Int → Key) = k.map Sum.inl := fun e => hz (inj.mp e)
        simp only [hz, hz2, decide_false]
        exact ih
theorem k_ix (hu : X.A.units + 66 < cLine) (hb : ∀ l u s q, b ≠ .Slice l u s q) (ha : PE X a (tE X cf gl ma)) (hi : PE X b (tE X cf gl mb)) : PE X (.Subscript a b pos) (tE X cf gl (.idx ma mb)) := by
  refine ⟨fun pins s σ H Q I h => ?_⟩
  obtain ⟨B, ρ, S, σd, d, S', R, r, e, p⟩ := h
  unfold evE at e
  obtain ⟨x, S1, e1, e2⟩ := bnd_ok e
  obtain ⟨y, S2, e3, e4⟩ := bnd_ok e2
  have ns : NoSl b := fun ov iv => by cases b <;> first | rfl | exact absurd rfl (hb _ _ _ _)
  have gen : (idxM x y = ix0M x y) → wpAny (model X.prog X.w) X.A (eval (.Subscript a b pos) X.env) (EP X pins σ Q) X.xe s := fun hx => by
    rw [hx] at e4
    exact (pe_ix ix_all ha hi (plain_ix hb)).run pins s σ H Q I ⟨B, ρ, S, σd, x, S1, R, r, e1, fun ρ1 H1 v x1 R1 r1 => ⟨B, ρ1, S1, σd, y, S2, R1, r.ext x1, e3, fun ρ2 H2 u x2 R2 r2 => ⟨B, ρ2, S2, x, y, d, S', R2, r1.ext x2, r2, e4, (p.ext x1).ext x2⟩⟩⟩
  cases x with
  | dct ks ds =>
    refine (pe_dget (by omega) ha hi ns).run pins s σ H Q I ⟨B, ρ, S, σd, _, S1, R, r, e1, fun ρ1 H1 v x1 R1 r1 => ⟨B, ρ1, S1, σd, y, S2, R1, r.ext x1, e3, fun ρ2 H2 u x2 R2 r2 => ?_⟩⟩
    obtain ⟨k, S3, e5, e6⟩ := bnd_ok (show dgetM ks ds y S2 = _ from e4)
    obtain ⟨e7, rfl⟩ := ofO_ok e5
    obtain ⟨e8, rfl⟩ := ofO_ok e6
    obtain ⟨c, vs, rfl, k1, k2, k3, k4⟩ := r1.ext x2
    obtain ⟨w, w1, w2⟩ := val_rel k4 e8
    have ku : u = kV k := by
      cases y <;> try (cases e7; done)
      all_goals (cases e7; cases r2; rfl)
    subst ku
    refine ⟨c, w, rfl, ?_, ((p.ext x1).ext x2).now R2 w2⟩
    rw [← w1]
    exact DGet.k k1
  | dtt ks ds =>
    refine (pe_dget (by omega) ha hi ns).run pins s σ H Q I ⟨B, ρ, S, σd, _, S1, R, r, e1, fun ρ1 H1 v x1 R1 r1 => ⟨B, ρ1, S1, σd, y, S2, R1, r.ext x1, e3, fun ρ2 H2 u x2 R2 r2 => ?_⟩⟩
    have e4 : tgetM ks ds y S2 = _ := e4
    unfold tgetM at e4
    split at e4
    · obtain ⟨k, S3, e5, e6⟩ := bnd_ok e4
      obtain ⟨e7, rfl⟩ := ofO_ok e5
      obtain ⟨e8, rfl⟩ := ofO_ok e6
      obtain ⟨c, o, vs, rfl, k1, k2, k4⟩ := r1.ext x2
      obtain ⟨w, w1, w2⟩ := val_rel k4 e8
      obtain ⟨q, us, rfl, q1, q2⟩ := r2
      rw [ints_rel q2 e7] at q1
      refine ⟨c, w, rfl, .inr ⟨_, k.map Sum.inl, q, .inr ⟨o, k1⟩, rfl, q1, ?_⟩, ((p.ext x1).ext x2).now R2 w2⟩
      rw [zip_keys, w1]
    · exact fail_ok (S := S2) e4
  | _ => exact gen rfl
theorem k_rev {m : Bool} {k : Nat} {p1 p2 p3 : Pos} (ha : PE X a (tE X cf gl ma)) : PE X (.Subscript a (.Slice none none (some (.UnaryOp .USub (.Constant (.int 1) k p1) p2)) p3) pos) (tE X cf gl (.rev m ma)) := by
  refine (pe_revA ha).imp fun σ H Q ⟨B, ρ, S, σd, d, S', R, r, e, p⟩ => ?_
  unfold evE at e
  obtain ⟨x, S1, e1, e2⟩ := bnd_ok e
  refine ⟨B, ρ, S, σd, x, S1, R, r, e1, fun ρ1 H1 v x1 R1 r1 => ?_⟩
  unfold revM at e2
  split at e2
  · rename_i xs
    obtain ⟨rfl, rfl⟩ := ret_ok e2
    obtain ⟨c, vs, rfl, k1, k2⟩ := r1
    exact .inr ⟨c, vs, rfl, .of k1, fun b n => (p.ext x1) _ _ _ (Ext.new n) (R1.new n) ⟨b, _, rfl, upd_same, k2.rev.ext (Ext.new n)⟩⟩
  · obtain ⟨xs, S2, e3, e4⟩ := bnd_ok e2
    obtain ⟨e5, rfl⟩ := look_ok e3
    obtain ⟨c, vs, rfl, k1, k2⟩ := list_at R1 r1 e5
    obtain ⟨_, q⟩ := Post.list R1 e4 (p.ext x1) k2.rev
    exact .inl ⟨c, vs, rfl, .of k1, q⟩
theorem k_no : PO X none (tOf X cf gl .no) := by
  refine po_none.imp fun σ H Q ⟨B, ρ, S, σd, d, S', R, r, e, p⟩ => ?_
  unfold evO at e
  obtain ⟨rfl, rfl⟩ := ret_ok e
  exact p ρ H Ext.refl R
theorem k_at (ha : PE X a (tE X cf gl ma)) : PO X (some a) (tOf X cf gl (.at ma)) := by
  refine (po_some ha).imp fun σ H Q ⟨B, ρ, S, σd, d, S', R, r, e, p⟩ => ?_
  unfold evO at e
  obtain ⟨x, S1, e1, e2⟩ := bnd_ok e
  cases x with
  | int i =>
    obtain ⟨rfl, rfl⟩ := ret_ok e2
    exact ⟨B, ρ, S, σd, _, _, R, r, e1, fun ρ1 H1 v x1 R1 r1 => ⟨i, r1, p ρ1 H1 x1 R1⟩⟩
  | _ => exact fail_ok e2
theorem k_slc {m : Bool} {lo hi : Option Expr} {ml mh : MO} {q : Pos} (ha : PE X a (tE X cf gl ma)) (hl : PO X lo (tOf X cf gl ml)) (hh : PO X hi (tOf X cf gl mh)) : PE X (.Subscript a (.Slice lo hi none q) pos) (tE X cf gl (.slc m ma ml mh)) := by
  refine (pe_slice (sl_all m) ha hl hh).imp fun σ H Q ⟨B, ρ, S, σd, d, S', R, r, e, p⟩ => ?_
  unfold evE at e
  obtain ⟨x, S1, e1, e2⟩ := bnd_ok e
  obtain ⟨l, S2, e3, e4⟩ := bnd_ok e2
  obtain ⟨h, S3, e5, e6⟩ := bnd_ok e4
  exact ⟨B, ρ, S, σd, x, S1, R, r, e1, fun ρ1 H1 v x1 R1 r1 => ⟨B, ρ1, S1, σd, l, S2, R1, r.ext x1, e3, fun ρ2 H2 x2 R2 => ⟨B, ρ2, S2, σd, h, S3, R2, (r.ext x1).ext x2, e5, fun ρ3 H3 x3 R3 => ⟨B, ρ3, S3, x, d, S', R3, (r1.ext x2).ext x3, e6, ((p.ext x1).ext x2).ext x3⟩⟩⟩⟩
/-! ### built-ins, methods -/
theorem k_callR {m : Bool} {x : Str} {r : List V → Hp → VK → Prop} {g : List D → M D} (h : PE X e (tCB (rB X g) (tAs X cf gl ms))) (hg : ∀ vs, bltM m x vs = g vs) : PE X e (tE X cf gl (.blt m x ms)) := by
  refine h.imp fun σ H Q ⟨B, ρ, S, σd, d, S', R, r, e, p⟩ => ?_
  unfold evE at e
  obtain ⟨xs, S1, e1, e2⟩ := bnd_ok e
  rw [hg] at e2
  exact ⟨B, ρ, S, σd, xs, S1, R, r, e1, fun ρ1 H1 vs x1 R1 r1 => ⟨B, ρ1, S1, xs, d, S', R1, r1, e2, p.ext x1⟩⟩
theorem k_blt {m : Bool} {x : Str} (hcm : X.calm = true) (hgu : X.A.guards = some []) (hu : X.A.units + 66 < cLine) (hy : SysK X.base) (hx : bltNames.contains x = true) (hg : Gl X x) (hm : X.mg x = none) (hs : noStar (a :: es) = true) (ha : PA X (a :: es) (tAs X cf gl ms)) : PE X (.Call (.Name x p) (a :: es) [] pos) (tE X cf gl (.blt m x ms)) := by
  have hst : isStar a = false ∧ noStar es = true := by
    unfold noStar at hs
    rw [List.all_cons, Bool.and_eq_true, Bool.not_eq_true'] at hs
    exact hs
  have h1 := star_cons (es := es) hst.1 X.env
  have h2 := star_any (pos := pos) (env := X.env) hst.2
  have hx : x ∈ bltNames := by simpa using hx
  have never : (∀ vs, bltM m x vs = fail) → PE X (.Call (.Name x p) (a :: es) [] pos) (tE X cf gl (.blt m x ms)) := fun hf => ⟨fun _ _ _ _ _ _ h => by
    obtain ⟨B, ρ, S, σd, d', S', R, _, e, p⟩ := h
    unfold evE at e
    obtain ⟨xs, S1, e1, e2⟩ := bnd_ok e
    rw [hf] at e2
    exact fail_ok e2⟩
  unfold bltNames at hx
  simp only [List.mem_cons, List.not_mem_nil, or_false] at hx
  rcases hx with rfl | rfl | rfl | rfl | rfl | rfl | rfl | rfl | rfl | rfl | rfl | rfl | rfl | rfl | rfl
  · exact k_callR (r := rB X lenM) (g := lenM) (pe_callB blt_len hg hm (by rfl) ha (by decide) (by decide) h1 h2) fun vs => by unfold bltM; rw [if_pos rfl]
  · exact k_callR (r := rB X intM) (g := intM) (pe_callTy blt_int hg hm (by rfl) ha (by decide) (by decide) h1 h2) fun vs => by unfold bltM; rw [if_neg (by decide), if_pos rfl]
  · exact k_callR (r := rB X allM) (g := allM) (pe_callB (blt_all hcm) hg hm (by rfl) ha (by decide) (by decide) h1 h2) fun vs => by unfold bltM; rw [if_neg (by decide), if_neg (by decide), if_pos rfl]
  · exact k_callR (r := rB X anyM) (g := anyM) (pe_callB (blt_any hcm) hg hm (by rfl) ha (by decide) (by decide) h1 h2) fun vs => by unfold bltM; rw [if_neg (by decide), if_neg (by decide), if_neg (by decide), if_pos rfl]
  · exact k_callR (r := rB X reprM) (g := reprM) (pe_callB (blt_repr hgu hu hy) hg hm (by rfl) ha (by decide) (by decide) h1 h2) fun vs => by unfold bltM; rw [if_neg (by decide), if_neg (by decide), if_neg (by decide), if_neg (by decide), if_pos rfl]
  · exact k_callR (r := rB X tupM) (g := tupM) (pe_callTy blt_tuple hg hm (by rfl) ha (by decide) (by decide) h1 h2) fun vs => by unfold bltM; rw [if_neg (by decide), if_neg (by decide), if_neg (by decide), if_neg (by decide), if_neg (by decide), if_pos rfl]
  · exact k_callR (r := rB X (lstM m)) (g := lstM m) (pe_callTy (blt_list m) hg hm (by rfl) ha (by decide) (by decide) h1 h2) fun vs => by unfold bltM; rw [if_neg (by decide), if_neg (by decide), if_neg (by decide), if_neg (by decide), if_neg (by decide), if_neg (by decide), if_pos rfl]
  · exact k_callR (r := rB X isiM) (g := isiM) (pe_callB blt_isi hg hm (by rfl) ha (by decide) (by decide) h1 h2) fun vs => by unfold bltM; rw [if_neg (by decide), if_neg (by decide), if_neg (by decide), if_neg (by decide), if_neg (by decide), if_neg (by decide), if_neg (by decide), if_pos rfl]
  · exact k_callR (r := rB X minM) (g := minM) (pe_callB (blt_min hcm) hg hm (by rfl) ha (by decide) (by decide) h1 h2) fun vs => by unfold bltM; rw [if_neg (by decide), if_neg (by decide), if_neg (by decide), if_neg (by decide), if_neg (by decide), if_neg (by decide), if_neg (by decide), if_neg (by decide), if_pos rfl]
  · exact k_callR (r := rB X maxM) (g := maxM) (pe_callB (blt_max hcm) hg hm (by rfl) ha (by decide) (by decide) h1 h2) fun vs => by unfold bltM; rw [if_neg (by decide), if_neg (by decide), if_neg (by decide), if_neg (by decide), if_neg (by decide), if_neg (by decide), if_neg (by decide), if_neg (by decide), if_neg (by decide), if_pos rfl]
  · exact never fun vs => by unfold bltM; rw [if_neg (by decide), if_neg (by decide), if_neg (by decide), if_neg (by decide), if_neg (by decide), if_neg (by decide), if_neg (by decide), if_neg (by decide), if_neg (by decide), if_neg (by decide), if_neg (by decide), if_neg (by decide), if_neg (by decide), if_neg (by decide), if_neg (by decide), if_neg (by decide)]
  · exact never fun vs => by unfold bltM; rw [if_neg (by decide), if_neg (by decide), if_neg (by decide), if_neg (by decide), if_neg (by decide), if_neg (by decide), if_neg (by decide), if_neg (by decide), if_neg (by decide), if_neg (by decide), if_neg (by decide), if_neg (by decide), if_neg (by decide), if_neg (by decide), if_neg (by decide), if_neg (by decide)]
  · exact k_callR (r := rB X dicM) (g := dicM) (pe_callTy (blt_dict hcm hu) hg hm (by rfl) ha (by decide) (by decide) h1 h2) fun vs => by unfold bltM; rw [if_neg (by decide), if_neg (by decide), if_neg (by decide), if_neg (by decide), if_neg (by decide), if_neg (by decide), if_neg (by decide), if_neg (by decide), if_neg (by decide), if_neg (by decide), if_pos rfl]
  · exact never fun vs => by unfold bltM; rw [if_neg (by decide), if_neg (by decide), if_neg (by decide), if_neg (by decide), if_neg (by decide), if_neg (by decide), if_neg (by decide), if_neg (by decide), if_neg (by decide), if_neg (by decide), if_neg (by decide), if_neg (by decide), if_neg (by decide), if_neg (by decide), if_neg (by decide), if_neg (by decide)]
  · exact k_callR (r := rB X (sortM m)) (g := sortM m) (pe_callB (blt_sorted hcm hu hy m) hg hm (by rfl) ha (by decide) (by decide) h1 h2) fun vs => by unfold bltM; rw [if_neg (by decide), if_neg (by decide), if_neg (by decide), if_neg (by decide), if_neg (by decide), if_neg (by decide), if_neg (by decide), if_neg (by decide), if_neg (by decide), if_neg (by decide), if_neg (by decide), if_pos rfl]
theorem k_sortL {m : Bool} {x ln : Str} {kp lp rp : Pos} {c1 : Nat} {c2 : Pos} (hcm : X.calm = true) (hu : X.A.units + 66 < cLine) (hx : x = ("sorted" : Str)) (hl : ln = ("len" : Str)) (hg : Gl X x) (hm : X.mg x = none) (hg' : Gl X ln) (hm' : X.mg ln = none) (hs : isStar e = false) (ha : PA X [e] (tAs X cf gl [ma])) :
    PE X (.Call (.Name x p) [e] [⟨some ("key" : Str), .Name ln lp, kp⟩, ⟨some ("reverse" : Str), .Constant (.bool true) c1 c2, rp⟩] pos) (tE X cf gl (.ite (.val (.bl true)) (.blt m ("sorted len" : Str) [ma]) .non)) := by
  subst hx hl
  refine ⟨fun pins s σ H Q I h => ?_⟩
  obtain ⟨B, ρ, S, σd, d, S', R, r, e0, p0⟩ := h
  have e1 : evE cf gl σd (.blt m ("sorted len" : Str) [ma]) S = .ok d S' := by
    unfold evE at e0
    obtain ⟨k, S1, q1, q2⟩ := bnd_ok e0
    unfold evT at q1
    obtain ⟨y, S2, q3, q4⟩ := bnd_ok q1
    unfold evE at q3
    obtain ⟨rfl, rfl⟩ := ret_ok q3
    obtain ⟨q5, rfl⟩ := look_ok q4
    cases q5
    rw [if_pos rfl] at q2
    exact q2
  unfold evE at e1
  obtain ⟨xs, S1, e2, e3⟩ := bnd_ok e1
  have e3 : sortLM m xs S1 = .ok d S' := by
    unfold bltM at e3
    rw [if_neg (by decide), if_neg (by decide), if_neg (by decide), if_neg (by decide), if_neg (by decide), if_neg (by decide), if_neg (by decide), if_neg (by decide), if_neg (by decide), if_neg (by decide), if_neg (by decide), if_neg (by decide), if_pos rfl] at e3
    exact e3
  have h1 := star_cons (es := []) hs X.env
  have h2 := star_any (pos := pos) (env := X.env) (es := [e]) (by unfold noStar; simp [hs])
  refine wpAny_Call_Name_kw (ld_blt I hg hm (by rfl) ?_)
  refine PyProof.Rows.callWith_kw (thn (ha.run pos pins s σ H (fun vs H1 => rB X (sortLM m) vs H1 Q) I ⟨B, ρ, S, σd, xs, S1, R, r, e2, fun ρ1 H1 vs x1 R1 r1 => ⟨B, ρ1, S1, xs, d, S', R1, r1, e3, p0.ext x1⟩⟩) fun us s1 ⟨vs, H1, I1, r1, q1⟩ => ?_) (by exact congrArg (backTo pos) h1) (by exact h2) (by rfl) (by rfl)
  show wpAny _ _ (evalAll [(do let v ← eval (.Name ("len" : Str) lp) X.env; standAt pos; pure v), (do let v ← eval (.Constant (.bool true) c1 c2) X.env; standAt pos; pure v)]) _ _ s1
  refine wpAny_evalAll_cons (wpAny_bind (ld_blt I1 hg' hm' (by rfl) (wpAny_bind (wpAny_standAt (wpAny_pure ?_)))))
  refine wpAny_evalAll_cons (wpAny_bind (thn ((pe_bl (X := X) (b := true)).run pins s1 σ H1 (fun v H2 => v = .bl true ∧ H2 = H1) I1 ⟨rfl, rfl⟩) fun u s2 ⟨v, H2, I2, r2, q2, q3⟩ => wpAny_bind (wpAny_standAt (wpAny_pure ?_))))
  subst q2 q3
  cases r2
  refine wpAny_evalAll_nil ?_
  exact blt_sortedL hcm hu m I2 r1 q1
end
end MI
set_option Elab.async false
set_option linter.all false
set_option maxRecDepth 100000
set_option maxHeartbeats 2000000
namespace MI
open PySem PySem.Spec PyProof.Rows L2
section
variable {X : Cx} {cf : Cf} {gl : Str → Option D} {a b c e : Expr} {es : List Expr} {ma mb mc : ME} {ms : List ME} {pos p : Pos}
/-! ### what is walked -/
theorem scr_seq {k : Kx} {ρ : List Addr} {H : Hp} {ns : List Int} {v : V} (r : RelD k ρ H (.scr ns) v) : ∃ a, v = .ref a ∧ SqL k.K H a (ns.map V.int) := by
  obtain ⟨a, h1, h2⟩ := r
  refine ⟨a, h1, ?_⟩
  rcases h2 with ⟨o, z⟩ | (z | ⟨o, z⟩) | z
  · exact .inl (.inr ⟨o, z⟩)
  · cases z
  · cases z
  · exact .inr z
theorem itl_ok {k : Kx} {B' ρ' : List Addr} {H' : Hp} {a : Addr} {ds : List D} {vs : List V} (h : SqL k.K H' a vs) (r : RelDs ⟨k.K, k.mg, B'⟩ ρ' H' ds vs) :
    (∀ (i : Nat) (d : D), ds[i]? = some d → (Itl k.K a).go i H' ∧ ∀ x H2, (Itl k.K a).yld i H' x H2 → (∀ a u, H' a = some u → H2 a = some u) ∧ RelD ⟨k.K, k.mg, B'⟩ ρ' H2 d x) ∧ (Itl k.K a).stop ds.length H' := by
  refine ⟨fun i d q => ?_, vs, h, by rw [r.length]; exact Nat.le_refl _⟩
  obtain ⟨w, w1, w2⟩ := r.get q
  refine ⟨⟨vs, w, h, w1⟩, fun x H2 ⟨e1, e2⟩ => ?_⟩
  subst e1
  have := e2 vs h
  rw [w1] at this
  cases this
  exact ⟨fun _ _ z => z, w2⟩
theorem itt_ok {k : Kx} {B' ρ' : List Addr} {H' : Hp} {a : Addr} {ds : List D} {vs : List V} (h : SqT k.K H' a vs) (r : RelDs ⟨k.K, k.mg, B'⟩ ρ' H' ds vs) :
    (∀ (i : Nat) (d : D), ds[i]? = some d → (Itt k.K a).go i H' ∧ ∀ x H2, (Itt k.K a).yld i H' x H2 → (∀ a u, H' a = some u → H2 a = some u) ∧ RelD ⟨k.K, k.mg, B'⟩ ρ' H2 d x) ∧ (Itt k.K a).stop ds.length H' := by
  refine ⟨fun i d q => ?_, vs, h, by rw [r.length]; exact Nat.le_refl _⟩
  obtain ⟨w, w1, w2⟩ := r.get q
  refine ⟨⟨vs, w, h, w1⟩, fun x H2 ⟨e1, e2⟩ => ?_⟩
  subst e1
  have := e2 vs h
  rw [w1] at this
  cases this
  exact ⟨fun _ _ z => z, w2⟩
theorem k_pi {tg : Expr} (hm : ∀ σd S, evI cf gl σd (.it ma) S = bnd (evE cf gl σd ma) itOf S) (ha : PE X a (tE X cf gl ma)) : PI X tg a (tIt X cf gl (.it ma)) := by
  refine ⟨fun pins s σ H W I h => ?_⟩
  obtain ⟨B, ρ, S, σd, t', S', R, r, e, p⟩ := h
  rw [hm] at e
  obtain ⟨d, S1, e1, e2⟩ := bnd_ok e
  have no : PI X tg a (fun _ _ _ => False) := ⟨fun _ _ _ _ _ _ z => z.elim⟩
  cases d with
  | tup xs =>
    obtain ⟨rfl, rfl⟩ := ret_ok e2
    refine (pi_tup (tg := tg) ha).run pins s σ H W I ⟨B, ρ, S, σd, _, _, R, r, e1, fun ρ1 H1 v x1 R1 r1 => ?_⟩
    obtain ⟨b, vs, rfl, h2, h3⟩ := id r1
    refine ⟨b, rfl, ⟨vs, .of h2⟩, p ρ1 H1 _ x1 R1 ⟨.tup xs, none, .ref b, ⟨r1, trivial⟩, fun B' ρ' H' q => ?_⟩⟩
    obtain ⟨_, ws, e, h2, h3⟩ := q.d
    cases e
    exact itt_ok (.of h2) h3
  | ktup xs =>
    obtain ⟨rfl, rfl⟩ := ret_ok e2
    refine (pi_tup (tg := tg) ha).run pins s σ H W I ⟨B, ρ, S, σd, _, _, R, r, e1, fun ρ1 H1 v x1 R1 r1 => ?_⟩
    obtain ⟨b, vs, rfl, h2, h3⟩ := id r1
    refine ⟨b, rfl, ⟨vs, h2⟩, p ρ1 H1 _ x1 R1 ⟨.ktup xs, none, .ref b, ⟨r1, trivial⟩, fun B' ρ' H' q => ?_⟩⟩
    obtain ⟨_, ws, e, h2, h3⟩ := q.d
    cases e
    exact itt_ok h2 h3
  | dtt ks ds =>
    obtain ⟨rfl, rfl⟩ := ret_ok e2
    refine (pi_keys (tg := tg) ha).run pins s σ H W I ⟨B, ρ, S, σd, _, _, R, r, e1, fun ρ1 H1 v x1 R1 r1 => ?_⟩
    obtain ⟨b, o, vs, rfl, h2, h3, h4⟩ := id r1
    refine ⟨b, o, rfl, .inr ⟨_, h2, p ρ1 H1 _ x1 R1 ⟨.non, some (b, o, .dT ((ks.map fun z => z.map (Sum.inl : Int → Key)).zip vs)), .non, ⟨rfl, show H1 b = _ from h2⟩, fun B' ρ' H' q => ?_⟩⟩⟩
    have q2 : H' b = some (.frz o (.dT ((ks.map fun z => z.map Sum.inl).zip vs))) := q.z
    have hl : ((ks.map fun z => z.map (Sum.inl : Int → Key)).zip vs).length = ks.length := by rw [List.length_zip, List.length_map, ← h3, Nat.min_self]
    refine ⟨fun i d q => ?_, q2, by rw [hl, List.length_map]; exact Nat.le_refl _⟩
    rw [List.getElem?_map] at q
    cases hk : ks[i]? with
    | none => rw [hk] at q; cases q
    | some kk =>
      rw [hk] at q
      cases q
      refine ⟨⟨q2, by rw [hl]; exact (List.getElem?_eq_some_iff.mp hk).1⟩, fun x H2 hx => ?_⟩
      obtain ⟨rfl, k, v, a, k1, rfl, k2⟩ := hx
      refine ⟨fun _ _ z => z, a, k.map kV, rfl, k2, ?_⟩
      have e : k = kk.map Sum.inl := by
        obtain ⟨k3, k4⟩ := List.getElem?_zip_eq_some.mp k1
        rw [List.getElem?_map, hk] at k3
        exact (Option.some.inj k3).symm
      subst e
      rw [List.map_map]
      exact RelDs.ints kk
  | lst xs =>
    obtain ⟨rfl, rfl⟩ := ret_ok e2
    refine (pi_list (tg := tg) ha).run pins s σ H W I ⟨B, ρ, S, σd, _, _, R, r, e1, fun ρ1 H1 v x1 R1 r1 => ?_⟩
    obtain ⟨b, vs, rfl, h2, h3, h4⟩ := id r1
    refine ⟨b, rfl, ⟨vs, .of h2⟩, p ρ1 H1 _ x1 R1 ⟨.lst xs, none, .ref b, ⟨r1, trivial⟩, fun B' ρ' H' q => ?_⟩⟩
    obtain ⟨_, ws, e, h2, _, h3⟩ := q.d
    cases e
    exact itl_ok (.of h2) h3
  | scr ns =>
    obtain ⟨rfl, rfl⟩ := ret_ok e2
    refine (pi_list (tg := tg) ha).run pins s σ H W I ⟨B, ρ, S, σd, _, _, R, r, e1, fun ρ1 H1 v x1 R1 r1 => ?_⟩
    obtain ⟨b, rfl, h2⟩ := scr_seq r1
    refine ⟨b, rfl, ⟨_, h2⟩, p ρ1 H1 _ x1 R1 ⟨.scr ns, none, .ref b, ⟨r1, trivial⟩, fun B' ρ' H' q => ?_⟩⟩
    obtain ⟨_, e, h2⟩ := scr_seq q.d
    cases e
    exact itl_ok h2 (RelDs.ints ns)
  | str x =>
    obtain ⟨rfl, rfl⟩ := ret_ok e2
    refine (pi_str (tg := tg) ha).run pins s σ H W I ⟨B, ρ, S, σd, _, _, R, r, e1, fun ρ1 H1 v x1 R1 r1 => ?_⟩
    cases r1
    refine ⟨toStr x, rfl, p ρ1 H1 _ x1 R1 ⟨.non, none, .non, ⟨rfl, trivial⟩, fun B' ρ' H' q => ⟨fun i d h => ?_, by show (toStr x).cps.size ≤ _; simp [toStr]⟩⟩⟩
    rw [List.getElem?_map] at h
    cases hx : x[i]? with
    | none => rw [hx] at h; cases h
    | some c =>
      rw [hx] at h
      cases h
      refine ⟨by show i < (toStr x).cps.size; simpa [toStr] using (List.getElem?_eq_some_iff.mp hx).1, fun v H2 hv => ?_⟩
      obtain ⟨e1, c', h1, h2⟩ := hv
      subst e1
      refine ⟨fun _ _ z => z, ?_⟩
      have e : c' = c := by
        have : (toStr x).cps[i]? = some c := by simpa [toStr] using hx
        rw [this] at h1
        exact (Option.some.inj h1).symm
      subst e
      exact h2
  | loc l =>
    obtain ⟨xs, S2, e3, e4⟩ := bnd_ok e2
    obtain ⟨e5, rfl⟩ := look_ok e3
    obtain ⟨rfl, rfl⟩ := ret_ok e4
    refine (pi_list (tg := tg) ha).run pins s σ H W I ⟨B, ρ, S, σd, _, _, R, r, e1, fun ρ1 H1 v x1 R1 r1 => ?_⟩
    obtain ⟨b', vs, eb, k2, _⟩ := list_at R1 r1 e5
    obtain ⟨b, hb, rfl⟩ := r1
    obtain rfl : b = b' := by cases eb; rfl
    exact ⟨b, rfl, ⟨vs, .of k2⟩, p ρ1 H1 _ x1 R1 ⟨b, hb, rfl⟩⟩
  | _ => exact fail_ok (S := S1) e2
theorem ups_get : ∀ {n i : Nat} {lo : Int} {d : D}, (intsUp lo n)[i]? = some d → i < n ∧ d = .int (lo + i)
  | 0, i, lo, d, h => by simp [intsUp] at h
  | n + 1, 0, lo, d, h => by simp [intsUp] at h; exact ⟨by omega, by rw [← h]; simp⟩
  | n + 1, i + 1, lo, d, h => by
    simp only [intsUp, List.getElem?_cons_succ] at h
    obtain ⟨h1, h2⟩ := ups_get h
    exact ⟨by omega, by rw [h2]; congr 1; omega⟩
theorem ups_len : ∀ {n : Nat} {lo : Int}, (intsUp lo n).length = n
  | 0, _ => rfl
  | n + 1, lo => by simp [intsUp, ups_len]
theorem rng_it {k : Kx} {ρ : List Addr} {H : Hp} {lo : Int} {n : Nat} : ItOk k ρ H (Itr lo n) (.items (intsUp lo n)) := by
  refine ⟨.non, none, .non, ⟨rfl, trivial⟩, fun B' ρ' H' _ => ⟨fun i d h => ?_, by show n ≤ _; rw [ups_len]; exact Nat.le_refl _⟩⟩
  obtain ⟨h1, rfl⟩ := ups_get h
  refine ⟨h1, fun x H2 ⟨e1, e2⟩ => ?_⟩
  subst e1
  exact ⟨fun _ _ z => z, e2⟩
theorem by_get : ∀ {n i : Nat} {lo c : Int} {d : D}, (intsBy lo c n)[i]? = some d → i < n ∧ d = .int (lo + (i : Nat) * c)
  | 0, i, lo, c, d, h => by simp [intsBy] at h
  | n + 1, 0, lo, c, d, h => by simp [intsBy] at h; exact ⟨by omega, by rw [← h]; simp⟩
  | n + 1, i + 1, lo, c, d, h => by
    simp only [intsBy, List.getElem?_cons_succ] at h
    obtain ⟨h1, h2⟩ := by_get h
    exact ⟨by omega, by rw [h2]; congr 1; rw [Int.natCast_add, Int.add_mul]; omega⟩
theorem by_len : ∀ {n : Nat} {lo c : Int}, (intsBy lo c n).length = n
  | 0, _, _ => rfl
  | n + 1, lo, c => by simp [intsBy, by_len]
theorem enum_get : ∀ {ds : List D} {j i : Nat} {d : D}, (enumD j ds)[i]? = some d → ∃ y, ds[i]? = some y ∧ d = .tup [.int ((j + i : Nat) : Int), y]
  | [], _, _, _, h => by simp [enumD] at h
  | y :: ds, j, 0, d, h => by simp [enumD] at h; exact ⟨y, rfl, by rw [← h]; simp⟩
  | y :: ds, j, i + 1, d, h => by
    simp only [enumD, List.getElem?_cons_succ] at h
    obtain ⟨z, h1, h2⟩ := enum_get h
    exact ⟨z, by simpa using h1, by rw [h2, show j + 1 + i = j + (i + 1) by omega]⟩
theorem enum_len : ∀ {ds : List D} {j : Nat}, (enumD j ds).length = ds.length
  | [], _ => rfl
  | y :: ds, j => by simp [enumD, enum_len]
theorem k_pib {tg : Expr} {x : Str} {m : Bool} (hc : X.calm = true) (hen : x = ("enumerate" : Str) → isTupE tg = true) (hs : noStar (a :: es) = true) (hg : Gl X x) (hm : X.mg x = none) (hpe : PE X (.Call (.Name x p) (a :: es) [] pos) (tE X cf gl (.blt m x ms))) (ha : PA X (a :: es) (tAs X cf gl ms)) (hl : ms.length = (a :: es).length) (hpa : es = [] → ∃ ma, ms = [ma] ∧ PE X a (tE X cf gl ma)) :
    PI X tg (.Call (.Name x p) (a :: es) [] pos) (tIt X cf gl (.it (.blt m x ms))) := by
  have hst : isStar a = false ∧ noStar es = true := by
    unfold noStar at hs
    rw [List.all_cons, Bool.and_eq_true, Bool.not_eq_true'] at hs
    exact hs
  have evlen : ∀ {ms : List ME} {σd : Env} {S S' : Sto} {ds : List D}, evEs cf gl σd ms S = .ok ds S' → ds.length = ms.length := by
    intro ms
    induction ms with
    | nil => intro σd S S' ds e; unfold evEs at e; obtain ⟨rfl, _⟩ := ret_ok e; rfl
    | cons m ms ih =>
      intro σd S S' ds e
      unfold evEs at e
      obtain ⟨x, S1, e1, e2⟩ := bnd_ok e
      obtain ⟨xs, S2, e3, e4⟩ := bnd_ok e2
      obtain ⟨rfl, rfl⟩ := ret_ok e4
      simp [ih e3]
  by_cases h1 : x = ("range" : Str)
  · subst h1
    cases es with
    | nil =>
      refine (pi_range1 (pos := pos) hg hm ha (star_cons hst.1 _)).imp fun σ H W ⟨B, ρ, S, σd, t', S', R, r, e, p⟩ => ?_
      unfold evI at e
      obtain ⟨ds, S1, e1, e2⟩ := bnd_ok e
      unfold itBlt at e2
      rw [if_pos rfl] at e2
      have hl2 := evlen e1
      refine ⟨B, ρ, S, σd, ds, S1, R, r, e1, fun ρ1 H1 vs x1 R1 r1 => ?_⟩
      rw [hl] at hl2
      obtain ⟨d, rfl⟩ := List.length_eq_one_iff.mp hl2
      unfold rngM at e2
      cases d with
      | int j =>
        obtain ⟨hb, e3⟩ := gd_ok e2
        obtain ⟨rfl, rfl⟩ := ret_ok e3
        obtain ⟨_, _, _, b4⟩ := of_decide_eq_true hb
        obtain ⟨v, rfl, rv⟩ := one_of r1
        cases rv
        have hb' := of_decide_eq_true hb
        refine ⟨j, rfl, hb'.2.2.1, hb'.2.2.2, p ρ1 H1 _ x1 R1 ?_⟩
        rw [show (j - 0) = j by omega]
        exact rng_it
      | _ => exact fail_ok (S := S1) e2
    | cons b es =>
      cases es with
      | nil =>
        have hst2 : isStar b = false := by
          have := hst.2
          unfold noStar at this
          rw [List.all_cons, Bool.and_eq_true, Bool.not_eq_true'] at this
          exact this.1
        refine (pi_range2 (pos := pos) hg hm ha (by rw [star_cons hst.1, star_cons hst2]; rfl) (star_cons hst2 _)).imp fun σ H W ⟨B, ρ, S, σd, t', S', R, r, e, p⟩ => ?_
        unfold evI at e
        obtain ⟨ds, S1, e1, e2⟩ := bnd_ok e
        unfold itBlt at e2
        rw [if_pos rfl] at e2
        have hl2 := evlen e1
        refine ⟨B, ρ, S, σd, ds, S1, R, r, e1, fun ρ1 H1 vs x1 R1 r1 => ?_⟩
        rw [hl] at hl2
        obtain ⟨d, d2, rfl⟩ : ∃ d d2, ds = [d, d2] := by
          match ds, hl2 with
          | [d, d2], _ => exact ⟨d, d2, rfl⟩
        unfold rngM at e2
        cases d with
        | int i =>
          cases d2 with
          | int j =>
            obtain ⟨hb, e3⟩ := gd_ok e2
            obtain ⟨rfl, rfl⟩ := ret_ok e3
            obtain ⟨v, u, rfl, rv, ru⟩ := two_of r1
            cases rv
            cases ru
            have hb' := of_decide_eq_true hb
            exact ⟨i, j, rfl, hb', p ρ1 H1 _ x1 R1 rng_it⟩
          | _ => exact fail_ok (S := S1) e2
        | _ => exact fail_ok (S := S1) e2
      | cons c es =>
        have more : ∀ {σd : Env} {S S' : Sto} {t' : MI.It}, 3 < ms.length → evI cf gl σd (.it (.blt m "range" ms)) S = .ok t' S' → False := by
          intro σd S S' t' hlen e
          unfold evI at e
          obtain ⟨ds, S1, e1, e2⟩ := bnd_ok e
          have hl2 := evlen e1
          unfold itBlt at e2
          rw [if_pos rfl] at e2
          match ds, hl2 with
          | [], h => simp at h; omega
          | [_], h => simp at h; omega
          | [_, _], h => simp at h; omega
          | [_, _, _], h => simp at h; omega
          | _ :: _ :: _ :: _ :: _, _ => exact fail_ok (S := S1) e2
        cases es with
        | cons c2 es =>
          refine ⟨fun pins s σ H W I h => ?_⟩
          obtain ⟨B, ρ, S, σd, t', S', R, r, e, p⟩ := h
          exact (more (by rw [hl]; simp) e).elim
        | nil =>
          have hs3 : isStar b = false ∧ isStar c = false := by
            have h0 := hst.2
            unfold noStar at h0
            simp only [List.all_cons, List.all_nil, Bool.and_eq_true, Bool.not_eq_true', Bool.and_true] at h0
            exact h0
          refine (pi_range3 (pos := pos) hg hm ha (star_cons hst.1 _) (by rw [star_cons hs3.1, star_cons hs3.2]; rfl)).imp fun σ H W ⟨B, ρ, S, σd, t', S', R, r, e, p⟩ => ?_
          unfold evI at e
          obtain ⟨ds, S1, e1, e2⟩ := bnd_ok e
          unfold itBlt at e2
          rw [if_pos rfl] at e2
          have hl2 := evlen e1
          refine ⟨B, ρ, S, σd, ds, S1, R, r, e1, fun ρ1 H1 vs x1 R1 r1 => ?_⟩
          rw [hl] at hl2
          obtain ⟨d, d2, d3, rfl⟩ : ∃ d d2 d3, ds = [d, d2, d3] := by
            match ds, hl2 with
            | [d, d2, d3], _ => exact ⟨d, d2, d3, rfl⟩
          have e2 : rng3M d d2 d3 S1 = _ := e2
          unfold rng3M at e2
          split at e2
          · rename_i i j k _hm
            obtain ⟨hb, e3⟩ := gd_ok e2
            obtain ⟨rfl, rfl⟩ := ret_ok e3
            obtain ⟨v, ws, rfl, rv, rw2⟩ := r1
            obtain ⟨u, u2, rfl, ru, ru2⟩ := two_of rw2
            cases rv; cases ru; cases ru2
            simp only [Bool.and_eq_true, decide_eq_true_eq] at hb
            refine ⟨i, j, k, _, rfl, ⟨hb.1.1.1, hb.1.1.2, hb.1.2, (Int.toNat_of_nonneg hb.2).symm⟩, p ρ1 H1 _ x1 R1 ⟨.non, none, .non, ⟨rfl, trivial⟩, fun B' ρ' H' _ => ⟨fun i' d h => ?_, by show _ ≤ _; rw [by_len]; exact Nat.le_refl _⟩⟩⟩
            obtain ⟨h1, rfl⟩ := by_get h
            refine ⟨h1, fun x H2 ⟨e1, e2⟩ => ?_⟩
            subst e1
            exact ⟨fun _ _ z => z, e2⟩
          · exact fail_ok (S := S1) e2
  · by_cases h2 : x = ("enumerate" : Str)
    · subst h2
      cases tg with
      | Tuple elts kk tpos =>
        cases es with
        | nil =>
          refine ⟨fun pins s σ H W I h => ?_⟩
          obtain ⟨B, ρ, S, σd, t', S', R, r, e, p⟩ := h
          unfold evI at e
          obtain ⟨ds, S1, e1, e2⟩ := bnd_ok e
          unfold itBlt at e2
          rw [if_neg (by decide), if_pos rfl] at e2
          have hl2 := evlen e1
          rw [hl] at hl2
          obtain ⟨d, rfl⟩ := List.length_eq_one_iff.mp hl2
          cases d with
          | lst xs =>
            refine (pi_enum (pos := pos) hg hm ha (star_cons hst.1 _)).run pins s σ H W I ⟨B, ρ, S, σd, _, S1, R, r, e1, fun ρ1 H1 vs x1 R1 r1 => ?_⟩
            obtain ⟨rfl, rfl⟩ := ret_ok e2
            obtain ⟨v, rfl, rv⟩ := one_of r1
            obtain ⟨b, ws, rfl, k2, k3, k4⟩ := id rv
            refine ⟨b, ws, rfl, .of k2, p ρ1 H1 _ x1 R1 ⟨.lst xs, none, .ref b, ⟨rv, trivial⟩, fun B' ρ' H' q => ?_⟩⟩
            obtain ⟨_, us, e, q2, q3, q4⟩ := q.d
            cases e
            refine ⟨fun i d h => ?_, us, .of q2, by rw [enum_len, q4.length]; exact Nat.le_refl _⟩
            obtain ⟨y, y1, rfl⟩ := enum_get h
            obtain ⟨w, w1, w2⟩ := q4.get y1
            refine ⟨⟨us, w, .of q2, w1⟩, fun x H2 hx => ?_⟩
            obtain ⟨T, z, rfl, hT, rfl, hz⟩ := hx
            have ez : z = w := by
              have := hz us (.of q2)
              rw [w1] at this
              exact (Option.some.inj this).symm
            subst ez
            refine ⟨fun a u q => by rw [upd_ne (ne_of_none q hT)]; exact q, T, _, rfl, upd_same, .int ((i : Nat) : Int), [z], rfl, by rw [Nat.zero_add]; rfl, z, [], rfl, w2.ext (Ext.new hT), rfl⟩
          | tup xs =>
            refine (pi_enumT (pos := pos) hg hm ha (star_cons hst.1 _)).run pins s σ H W I ⟨B, ρ, S, σd, _, S1, R, r, e1, fun ρ1 H1 vs x1 R1 r1 => ?_⟩
            obtain ⟨rfl, rfl⟩ := ret_ok e2
            obtain ⟨v, rfl, rv⟩ := one_of r1
            obtain ⟨b, ws, rfl, k2, k4⟩ := id rv
            refine ⟨b, ws, rfl, .of k2, p ρ1 H1 _ x1 R1 ⟨.tup xs, none, .ref b, ⟨rv, trivial⟩, fun B' ρ' H' q => ?_⟩⟩
            obtain ⟨_, us, e, q2, q4⟩ := q.d
            cases e
            refine ⟨fun i d h => ?_, us, .of q2, by rw [enum_len, q4.length]⟩
            obtain ⟨y, y1, rfl⟩ := enum_get h
            obtain ⟨w, w1, w2⟩ := q4.get y1
            refine ⟨⟨us, w, .of q2, w1⟩, fun x H2 hx => ?_⟩
            obtain ⟨T, z, rfl, hT, rfl, hz⟩ := hx
            have ez : z = w := by
              have := hz us (.of q2)
              rw [w1] at this
              exact (Option.some.inj this).symm
            subst ez
            refine ⟨fun a u q => by rw [upd_ne (ne_of_none q hT)]; exact q, T, _, rfl, upd_same, .int ((i : Nat) : Int), [z], rfl, by rw [Nat.zero_add]; rfl, z, [], rfl, w2.ext (Ext.new hT), rfl⟩
          | _ => exact fail_ok (S := S1) e2
        | cons b es =>
          refine ⟨fun pins s σ H W I h => ?_⟩
          obtain ⟨B, ρ, S, σd, t', S', R, r, e, p⟩ := h
          unfold evI at e
          obtain ⟨ds, S1, e1, e2⟩ := bnd_ok e
          have hl2 := evlen e1
          unfold itBlt at e2
          rw [if_neg (by decide), if_pos rfl] at e2
          rw [hl] at hl2
          match ds, hl2 with
          | [], _ => exact fail_ok (S := S1) e2
          | d :: _ :: _, _ => cases d <;> exact fail_ok (S := S1) e2
      | _ => cases hen rfl
    · by_cases h3 : x = ("reversed" : Str)
      · subst h3
        cases es with
        | cons b es =>
          refine ⟨fun pins s σ H W I h => ?_⟩
          obtain ⟨B, ρ, S, σd, t', S', R, r, e, p⟩ := h
          unfold evI at e
          obtain ⟨ds, S1, e1, e2⟩ := bnd_ok e
          have hl2 := evlen e1
          unfold itBlt at e2
          rw [if_neg (by decide), if_neg (by decide), if_pos rfl] at e2
          rw [hl] at hl2
          match ds, hl2 with
          | [], _ => exact fail_ok (S := S1) e2
          | d :: _ :: _, _ => cases d <;> exact fail_ok (S := S1) e2
        | nil =>
          obtain ⟨ma, rfl, he⟩ := hpa rfl
          refine ⟨fun pins s σ H W I h => ?_⟩
          obtain ⟨B, ρ, S, σd, t', S', R, r, e, p⟩ := h
          unfold evI at e
          obtain ⟨ds, S1, e1, e2⟩ := bnd_ok e
          unfold evEs at e1
          obtain ⟨d, S0, e3, e4⟩ := bnd_ok e1
          obtain ⟨zs, S00, e5, e6⟩ := bnd_ok e4
          unfold evEs at e5
          obtain ⟨rfl, rfl⟩ := ret_ok e5
          obtain ⟨rfl, rfl⟩ := ret_ok e6
          unfold itBlt at e2
          rw [if_neg (by decide), if_neg (by decide), if_pos rfl] at e2
          refine (RT.pi_revA (pos := pos) hg hm he (star_cons hst.1 _)).run pins s σ H W I ⟨B, ρ, S, σd, d, _, R, r, e3, fun ρ1 H1 v x1 R1 r1 => ?_⟩
          have back : ∀ {vs : List V} {xs : List D} {i : Nat} {y : D}, xs.length = vs.length → xs.reverse[i]? = some y → i < vs.length ∧ xs[vs.length - 1 - i]? = some y := by
            intro vs xs i y hv h
            have hi := (List.getElem?_eq_some_iff.mp h).1
            rw [List.length_reverse] at hi
            rw [List.getElem?_reverse hi] at h
            exact ⟨by omega, by rw [← hv]; exact h⟩
          cases d with
          | lst xs =>
            obtain ⟨rfl, rfl⟩ := ret_ok e2
            obtain ⟨b, ws, rfl, k2, k3, k4⟩ := id r1
            refine ⟨b, ws, rfl, .inl ⟨.of k2, p ρ1 H1 _ x1 R1 ⟨.lst xs, none, .ref b, ⟨r1, trivial⟩, fun B' ρ' H' q => ?_⟩⟩⟩
            obtain ⟨_, us, e, q2, q3, q4⟩ := q.d
            cases e
            have l1 := k4.length
            have l2 := q4.length
            refine ⟨fun i d h => ?_, by show ws.length ≤ _; simp; omega⟩
            obtain ⟨b1, b2⟩ := back l1 h
            obtain ⟨w, w1, w2⟩ := q4.get b2
            refine ⟨⟨b1, us, w, .of q2, w1⟩, fun x H2 ⟨e1, hx⟩ => ?_⟩
            subst e1
            have ez := hx us (.of q2)
            rw [w1] at ez
            cases ez
            exact ⟨fun _ _ z => z, w2⟩
          | tup xs =>
            obtain ⟨rfl, rfl⟩ := ret_ok e2
            obtain ⟨b, ws, rfl, k2, k4⟩ := id r1
            refine ⟨b, ws, rfl, .inr ⟨.of k2, p ρ1 H1 _ x1 R1 ⟨.tup xs, none, .ref b, ⟨r1, trivial⟩, fun B' ρ' H' q => ?_⟩⟩⟩
            obtain ⟨_, us, e, q2, q4⟩ := q.d
            cases e
            have l1 := k4.length
            have l2 := q4.length
            refine ⟨fun i d h => ?_, by show ws.length ≤ _; simp; omega⟩
            obtain ⟨b1, b2⟩ := back l1 h
            obtain ⟨w, w1, w2⟩ := q4.get b2
            refine ⟨⟨b1, us, w, .of q2, w1⟩, fun x H2 ⟨e1, hx⟩ => ?_⟩
            subst e1
            have ez := hx us (.of q2)
            rw [w1] at ez
            cases ez
            exact ⟨fun _ _ z => z, w2⟩
          | _ => exact fail_ok (S := _) e2
      · refine k_pi (fun σd S => ?_) hpe
        unfold evI itBlt
        rw [evE]
        unfold bnd
        cases evEs cf gl σd ms S with
        | err => rfl
        | ok ds S1 =>
          show (if x = ("range" : Str) then _ else _ : M MI.It) S1 = _
          rw [if_neg h1, if_neg h2, if_neg h3]
          rfl
end
end MI
set_option Elab.async false
set_option linter.all false
set_option maxRecDepth 100000
set_option maxHeartbeats 2000000
namespace MI
open PySem PySem.Spec PyProof.Rows L2
section
variable {X : Cx} {cf : Cf} {gl : Str → Option D} {a b c e : Expr} {es : List Expr} {ma mb mc : ME} {ms : List ME} {pos p : Pos}
/-! ### methods -/
theorem sup_base {o : Expr} {x : Str} (h : isSup o = false) (env : PySem.Env) (w : Sem Value) : attributeBase o x env w = w := by
  unfold attributeBase
  cases o <;> try rfl
  rename_i f es ks q
  cases f <;> try rfl
  cases es <;> cases ks <;> first | rfl | cases h
theorem ty_tyV {B ρ : List Addr} {H : Hp} {S : Sto} {d : D} {v : V} {t : String} (R : Rel (kx X B) ρ H S) (r : RelD (kx X B) ρ H d v) (e : tyOf S d = some t) (ht : t = "list" ∨ t = "str" ∨ t = "dict") : tyV X.K t v H := by
  cases d with
  | dct ks vs =>
    obtain ⟨a, ws, rfl, h, _⟩ := r
    cases e
    exact .inr (.inr (.inl ⟨rfl, .inl ⟨_, h⟩⟩))
  | str x => cases r; cases e; rfl
  | lst xs =>
    obtain ⟨a, vs, rfl, h, _⟩ := r
    cases e
    exact .inl ⟨rfl, vs, .of h⟩
  | loc l =>
    unfold tyOf at e
    cases hl : S[l]? with
    | none => simp only [hl] at e; cases e
    | some o =>
      simp only [hl] at e
      cases o with
      | lst xs =>
        cases e
        obtain ⟨b, vs, rfl, k2, _⟩ := list_at (d := .loc l) R r (xs := xs) (by simp only [listOf, hl])
        exact .inl ⟨rfl, vs, .of k2⟩
      | dK ks vs =>
        cases e
        obtain ⟨a, h1, rfl⟩ := r
        obtain ⟨ws, h2, _⟩ := R.obj l a _ h1 hl
        exact .inr (.inr (.inl ⟨rfl, .inl ⟨_, h2⟩⟩))
  | _ => first | (cases e; done) | (cases e; rcases ht with z | z | z <;> exact absurd z (by decide))
theorem k_meth {x : Str} {apos : Pos} {T id : String} {g : D → List D → M D} (pa : PlainAttrs T) (slot : Slot T x id) (hty : typeOf (.builtin id) = pure (.type "method_descriptor")) (hm : MtR X id (rM X g)) (hT : T = "list" ∨ T = "str" ∨ T = "dict")
    (hsup : isSup a = false) (hline : (apos.endLine == pos.line) = true) (hs : noStar es = true) (hlen : es.length < 30) (ho : PE X a (tE X cf gl ma)) (ha : PA X es (tAs X cf gl ms)) (hms : es = [] → ms = []) :
    PE X (.Call (.Attribute a x apos) es [] pos) (fun σ H Q => ∃ B ρ S σd d S' v S1 ds S2, Rel (kx X B) ρ H S ∧ RelSt (kx X B) ρ H σd σ ∧ evE cf gl σd ma S = .ok v S1 ∧ tyOf S1 v = some T ∧ evEs cf gl σd ms S1 = .ok ds S2 ∧ g v ds S2 = .ok d S' ∧ Post (kx X B) ρ H d S' Q) := by
  have hb := sup_base (x := x) hsup X.env (eval a X.env)
  cases es with
  | nil =>
    refine (pe_bm0 pa slot hty hm ho hb hline).imp fun σ H Q ⟨B, ρ, S, σd, d, S', v, S1, ds, S2, R, r, e1, e2, e3, e4, p⟩ => ?_
    refine ⟨B, ρ, S, σd, v, S1, R, r, e1, fun ρ1 H1 w x1 R1 r1 => ⟨ty_tyV R1 r1 e2 hT, ?_⟩⟩
    have hz : ds = [] ∧ S2 = S1 := by
      rw [hms rfl] at e3
      unfold evEs at e3
      exact ret_ok e3
    obtain ⟨rfl, rfl⟩ := hz
    exact ⟨B, ρ1, _, v, [], d, S', R1, r1, rfl, e4, p.ext x1⟩
  | cons e es =>
    have hst : isStar e = false ∧ noStar es = true := by
      unfold noStar at hs
      rw [List.all_cons, Bool.and_eq_true, Bool.not_eq_true'] at hs
      exact hs
    have hf := star_all (pos := pos) (env := X.env) hs
    refine (pe_bm pa slot hty hm ho ha hb (by rw [hf]; simpa [backToKw, keywordEach] using hlen) hline (star_cons hst.1 _) (star_any hst.2)).imp fun σ H Q ⟨B, ρ, S, σd, d, S', v, S1, ds, S2, R, r, e1, e2, e3, e4, p⟩ => ?_
    exact ⟨B, ρ, S, σd, v, S1, R, r, e1, fun ρ1 H1 w x1 R1 r1 => ⟨ty_tyV R1 r1 e2 hT, B, ρ1, S1, σd, ds, S2, R1, r.ext x1, e3, fun ρ2 H2 vs x2 R2 r2 => ⟨B, ρ2, S2, v, ds, d, S', R2, r1.ext x2, r2, e4, (p.ext x1).ext x2⟩⟩⟩
theorem valV_none {κ : Type} [DecidableEq κ] {key : κ} : ∀ {ks : List κ} {ds : List D} {vs : List V}, ds.length = vs.length → valD (ks.zip ds) key = none → valV (ks.zip vs) key = none
  | [], _, _, _, _ => by simp [valV]
  | _ :: _, [], vs, h, _ => by
    cases vs with
    | nil => simp [valV]
    | cons _ _ => cases h
  | z :: ks, y :: ds, [], h, _ => by cases h
  | z :: ks, y :: ds, v :: vs, h, e => by
    unfold valD at e
    unfold valV
    simp only [List.zip_cons_cons, List.find?_cons] at e ⊢
    by_cases hz : z = key
    · simp only [hz, decide_true, Option.map_some] at e
      cases e
    · simp only [hz, decide_false] at e ⊢
      exact valV_none (ks := ks) (ds := ds) (vs := vs) (by simpa using h) e
theorem mt_get (hu : X.A.units + 66 < cLine) : MtR X "dict.get" (rM X getM) := by
  intro pins s σ H x vs v us Q I rx rv h
  obtain ⟨B, ρ, S, dx, ds, d, S', R, hx, hd, e, p⟩ := h
  unfold getM at e
  split at e
  · rename_i ks zs y
    obtain ⟨k, S3, e5, e6⟩ := bnd_ok e
    obtain ⟨e7, rfl⟩ := ofO_ok e5
    obtain ⟨rfl, rfl⟩ := ret_ok e6
    obtain ⟨c, ws, rfl, k1, k2, k3, k4⟩ := hx
    obtain ⟨u, rfl, r2⟩ := one_of hd
    obtain ⟨u', rfl, ru⟩ := vals1 rv
    have hv : v = Value.ref c := rx
    subst hv
    have ku : u = kV k := by
      cases y <;> try (cases e7; done)
      all_goals (cases e7; cases r2; rfl)
    subst ku
    refine d_get1 (by omega) I (DGet.k (k := k) k1) ru fun w' s' I' rw' => ?_
    cases hq : valD (ks.zip zs) k with
    | none =>
      rw [valV_none k4.length hq] at rw'
      rw [hq] at p
      exact ⟨_, H, I', rw', p.now R rfl⟩
    | some z =>
      obtain ⟨w, w1, w2⟩ := val_rel k4 hq
      rw [w1] at rw'
      rw [hq] at p
      exact ⟨_, H, I', rw', p.now R w2⟩
  · rename_i ks zs y z0
    obtain ⟨k, S3, e5, e6⟩ := bnd_ok e
    obtain ⟨e7, rfl⟩ := ofO_ok e5
    obtain ⟨rfl, rfl⟩ := ret_ok e6
    obtain ⟨c, ws, rfl, k1, k2, k3, k4⟩ := hx
    obtain ⟨u, u2, rfl, r2, r3⟩ := two_of hd
    obtain ⟨u', u2', rfl, ru, ru2⟩ := vals2 rv
    have hv : v = Value.ref c := rx
    subst hv
    have ku : u = kV k := by
      cases y <;> try (cases e7; done)
      all_goals (cases e7; cases r2; rfl)
    subst ku
    refine d_get2 (by omega) I (DGet.k (k := k) k1) ru ru2 fun w' s' I' rw' => ?_
    cases hq : valD (ks.zip zs) k with
    | none =>
      rw [valV_none k4.length hq] at rw'
      rw [hq] at p
      exact ⟨_, H, I', rw', p.now R r3⟩
    | some z =>
      obtain ⟨w, w1, w2⟩ := val_rel k4 hq
      rw [w1] at rw'
      rw [hq] at p
      exact ⟨_, H, I', rw', p.now R w2⟩
  · exact fail_ok e
theorem k_mth {m : Bool} {x : Str} {apos : Pos} (hu : X.A.units + 66 < cLine) (hsup : isSup a = false) (hline : (apos.endLine == pos.line) = true) (hs : noStar es = true) (hlen : es.length < 30) (ho : PE X a (tE X cf gl ma)) (ha : PA X es (tAs X cf gl ms)) (hms : es = [] → ms = []) :
    PE X (.Call (.Attribute a x apos) es [] pos) (tE X cf gl (.mth m ma x ms)) := by
  refine ⟨fun pins s σ H Q I h => ?_⟩
  obtain ⟨B, ρ, S, σd, d, S', R, r, e, p⟩ := h
  unfold evE at e
  obtain ⟨v, S1, e1, e2⟩ := bnd_ok e
  obtain ⟨t, S2, e3, e4⟩ := bnd_ok e2
  obtain ⟨e5, rfl⟩ := look_ok e3
  obtain ⟨ds, S3, e6, e7⟩ := bnd_ok e4
  unfold mthM at e7
  split at e7
  · rename_i ht
    subst ht
    split at e7
    · rename_i hx
      subst hx
      exact (k_meth (g := appM) PySem.F.plainAttrs_list PySem.F.slot_list_append PySem.F.type_list_append mt_app (.inl rfl) hsup hline hs hlen ho ha hms).run pins s σ H Q I ⟨B, ρ, S, σd, d, S', v, _, ds, S3, R, r, e1, e5, e6, e7, p⟩
    · split at e7
      · rename_i hx
        subst hx
        exact (k_meth (g := extM) PySem.F.plainAttrs_list PySem.F.slot_list_extend PySem.F.type_list_extend mt_ext (.inl rfl) hsup hline hs hlen ho ha hms).run pins s σ H Q I ⟨B, ρ, S, σd, d, S', v, _, ds, S3, R, r, e1, e5, e6, e7, p⟩
      · split at e7
        · rename_i hx
          subst hx
          exact (k_meth (g := popM) PySem.F.plainAttrs_list PySem.F.slot_list_pop PySem.F.type_list_pop mt_pops (.inl rfl) hsup hline hs hlen ho ha hms).run pins s σ H Q I ⟨B, ρ, S, σd, d, S', v, _, ds, S3, R, r, e1, e5, e6, e7, p⟩
        · exact fail_ok (S := S3) e7
  · split at e7
    · rename_i ht
      subst ht
      split at e7
      · rename_i hx
        subst hx
        exact (k_meth (g := uppM) PySem.F.plainAttrs_str PySem.F.slot_str_upper PySem.F.type_str_upper mt_upp (.inr (.inl rfl)) hsup hline hs hlen ho ha hms).run pins s σ H Q I ⟨B, ρ, S, σd, d, S', v, _, ds, S3, R, r, e1, e5, e6, e7, p⟩
      · split at e7
        · rename_i hx
          subst hx
          exact (k_meth (g := lowM) PySem.F.plainAttrs_str PySem.F.slot_str_lower PySem.F.type_str_lower mt_low (.inr (.inl rfl)) hsup hline hs hlen ho ha hms).run pins s σ H Q I ⟨B, ρ, S, σd, d, S', v, _, ds, S3, R, r, e1, e5, e6, e7, p⟩
        · split at e7
          · rename_i hx
            subst hx
            exact (k_meth (g := joiM) PySem.F.plainAttrs_str PySem.F.slot_str_join PySem.F.type_str_join mt_joi (.inr (.inl rfl)) hsup hline hs hlen ho ha hms).run pins s σ H Q I ⟨B, ρ, S, σd, d, S', v, _, ds, S3, R, r, e1, e5, e6, e7, p⟩
          · split at e7
            · rename_i hx
              subst hx
              exact (k_meth (g := splM m) PySem.F.plainAttrs_str PySem.F.slot_str_split PySem.F.type_str_split (mt_spl m) (.inr (.inl rfl)) hsup hline hs hlen ho ha hms).run pins s σ H Q I ⟨B, ρ, S, σd, d, S', v, _, ds, S3, R, r, e1, e5, e6, e7, p⟩
            · split at e7
              · rename_i hx
                subst hx
                exact (k_meth (g := sinM) PySem.F.plainAttrs_str PySem.F.slot_str_index PySem.F.type_str_index mt_sin (.inr (.inl rfl)) hsup hline hs hlen ho ha hms).run pins s σ H Q I ⟨B, ρ, S, σd, d, S', v, _, ds, S3, R, r, e1, e5, e6, e7, p⟩
              · exact fail_ok (S := S3) e7
    · split at e7
      · rename_i ht
        subst ht
        split at e7
        · rename_i hx
          subst hx
          exact (k_meth (g := getM) PySem.F.plainAttrs_dict PySem.F.slot_dict_get PySem.F.type_dict_get (mt_get hu) (.inr (.inr rfl)) hsup hline hs hlen ho ha hms).run pins s σ H Q I ⟨B, ρ, S, σd, d, S', v, _, ds, S3, R, r, e1, e5, e6, e7, p⟩
        · exact fail_ok (S := S3) e7
      · exact fail_ok (S := S3) e7
end
end MI
set_option Elab.async false
set_option linter.all false
set_option maxRecDepth 100000
set_option maxHeartbeats 2000000
namespace MI
open PySem PySem.Spec PyProof.Rows L2
section
variable {X : Cx} {cf : Cf} {gl : Str → Option D} {a b c e : Expr} {es : List Expr} {ma mb mc : ME} {ms : List ME} {pos p : Pos}
/-! ### targets -/
theorem k_gbad : PG X e (tGt X cf gl .bad) := ⟨fun _ _ _ _ _ _ _ _ _ h => by
  obtain ⟨B, ρ, S, σd, d, σd', S', R, r, rd, e, p⟩ := h
  unfold evG at e
  exact fail_ok (S := S) e⟩
theorem k_gname {i : Nat} {x : Str} {g : MG} (hg : g = .name i ∨ ∃ m, g = .stn m i) (hN : X.N.Nodup) (hi : X.N[i]? = some x) (hx : Loc X.env.scope x) (hf : X.fn x = true ∨ X.env.scope.names.lookup x = some .local) : PG X (.Name x p) (tGt X cf gl g) := by
  refine (pg_name hN hi hx hf).imp fun v σ H Q ⟨B, ρ, S, σd, d, σd', S', R, r, rd, e, p⟩ => ?_
  have e2 : evG cf gl σd g d S = .ok (σd.set i (some d)) S := by
    rcases hg with rfl | ⟨m, rfl⟩ <;> (unfold evG; rfl)
  rw [e2] at e
  cases e
  have hs : gSlots g = [i] := by rcases hg with rfl | ⟨m, rfl⟩ <;> (unfold gSlots; rfl)
  exact p ρ H _ Ext.refl R (r.set rd) fun vs hvs => wipe_set (hvs i (by rw [hs]; exact List.mem_singleton.mpr rfl))
theorem k_gsub (hns : ∀ l u s q, b ≠ .Slice l u s q) (ho : PE X a (tE X cf gl ma)) (hi : PE X b (tE X cf gl mb)) : PG X (.Subscript a b p) (tGt X cf gl (.sub ma mb)) := by
  refine (pg_sub ho hi set_ok (by intro v; cases b <;> first | rfl | exact absurd rfl (hns _ _ _ _))).imp fun v σ H Q ⟨B, ρ, S, σd, d, σd', S', R, r, rd, e, p⟩ => ?_
  unfold evG at e
  obtain ⟨x, S1, e1, e2⟩ := bnd_ok e
  obtain ⟨y, S2, e3, e4⟩ := bnd_ok e2
  obtain ⟨u, S3, e5, e6⟩ := bnd_ok e4
  obtain ⟨rfl, rfl⟩ := ret_ok e6
  exact ⟨B, ρ, S, _, x, S1, R, r, e1, fun ρ1 H1 o x1 R1 r1 => ⟨B, ρ1, S1, _, y, S2, R1, r.ext x1, e3, fun ρ2 H2 i x2 R2 r2 => ⟨B, ρ2, S2, x, y, d, _, R2, r1.ext x2, r2, (rd.ext x1).ext x2, e5, fun ρ3 H3 x3 R3 => p ρ3 H3 σ ((x1.trans x2).trans x3) R3 (((r.ext x1).ext x2).ext x3) fun vs _ => rfl⟩⟩⟩
theorem k_gnil : PGs X [] (tGts X cf gl []) := by
  refine ⟨fun pins s σ H vs us Q I r h => ?_⟩
  obtain ⟨B, ρ, S, σd, ds, σd', S', R, rσ, rd, e, p⟩ := h
  cases ds with
  | nil =>
    cases rd
    cases r
    unfold evGs at e
    obtain ⟨rfl, rfl⟩ := ret_ok e
    exact pgs_nil.run pins s σ H [] [] Q I .nil ⟨rfl, p ρ H σ Ext.refl R rσ fun vs _ => rfl⟩
  | cons d ds => unfold evGs at e; exact fail_ok (S := S) e
theorem k_gcons {gs : List MG} {g : MG} (ht : (assignEach (e :: es) X.env).map (·.2) = assign a X.env :: (assignEach es X.env).map (·.2)) (h1 : PG X a (tGt X cf gl g)) (h2 : PGs X es (tGts X cf gl gs)) : PGs X (e :: es) (tGts X cf gl (g :: gs)) := by
  refine ⟨fun pins s σ H vs us Q I r h => ?_⟩
  obtain ⟨B, ρ, S, σd, ds, σd', S', R, rσ, rd, e, p⟩ := h
  cases ds with
  | nil => unfold evGs at e; exact fail_ok (S := S) e
  | cons d ds =>
    obtain ⟨w, ws, rfl, k1, k2⟩ := rd
    cases r with
    | cons r rr =>
      unfold evGs at e
      obtain ⟨σ2, S1, e1, e2⟩ := bnd_ok e
      rw [ht]
      refine assignInOrder_cons (thn (h1.run pins s σ H w _ (fun σ' H' => tGts X cf gl gs ws σ' H' Q) I r ⟨B, ρ, S, σd, d, σ2, S1, R, rσ, k1, e1, fun ρ1 H1 σ1 x1 R1 r1 w1 => ⟨B, ρ1, S1, σ2, ds, σd', S', R1, r1, k2.ext x1, e2, fun ρ2 H2 σ3 x2 R2 r2 w2 => p ρ2 H2 σ3 (x1.trans x2) R2 r2 fun vs hvs => ?_⟩⟩) fun _ s1 ⟨σ1, H1, I1, q1⟩ => h2.run pins s1 σ1 H1 ws _ Q I1 rr q1)
      have hvs : ∀ i ∈ gSlots g ++ gsSlots gs, i ∈ vs := by intro i hi; exact hvs i (by unfold gsSlots; exact hi)
      rw [w2 vs fun i hi => hvs i (List.mem_append_right _ hi), w1 vs fun i hi => hvs i (List.mem_append_left _ hi)]
theorem k_gtup {gs : List MG} {k : Nat} (hc : X.calm = true) (hst : (assignEach es X.env).findIdx? (·.1) = (starAt gs).map (·.1)) (hln : (assignEach es X.env).length = gs.length) (hkl : ∀ q, starAt gs = some q → q.1 < gs.length) (h : PGs X es (tGts X cf gl gs)) : PG X (.Tuple es k p) (tGt X cf gl (.tup gs)) := by
  refine ⟨fun pins s σ H v u Q I r hw => ?_⟩
  obtain ⟨B, ρ, S, σd, d, σd', S', R, rσ, rd, e, p⟩ := hw
  unfold evG at e
  obtain ⟨xs, S1, e1, e2⟩ := bnd_ok e
  obtain ⟨e3, rfl⟩ := look_ok e1
  obtain ⟨hz, e4⟩ := gd_ok e2
  have hz := of_decide_eq_true hz
  rw [assign_Tuple]
  refine wpAny_bind (wpAny_standAt ?_)
  unfold unpack
  rw [hln, hst]
  refine wpAny_bind (wpAny_holding ?_)
  cases hs : starAt gs with
  | none =>
    simp only [hs] at e4
    split at e4
    · rename_i hl
      refine unp_ok (st := none) hc I R rd r e3 hz hl fun vs us rv ru s' I' => ?_
      exact h.run pins s' σ H vs us Q I' ru ⟨B, ρ, _, σd, xs, σd', S', R, rσ, rv, e4, fun ρ' H' σ' x R' r' w => p ρ' H' σ' x R' r' fun vs hvs => w vs (by intro i hi; exact hvs i (by unfold gSlots; exact hi))⟩
    · exact fail_ok (S := S1) e4
  | some q =>
    obtain ⟨i, m⟩ := q
    simp only [hs] at e4
    split at e4
    · rename_i hl
      obtain ⟨rr, S2, e5, e6⟩ := bnd_ok e4
      refine unp_ok (st := some i) hc I R rd r e3 hz ⟨hkl _ hs, hl⟩ fun vs us rv ru a s' hn I' => ?_
      obtain ⟨_, q⟩ := Post.list (Q := fun w H1 => ∃ ρ1, Ext ρ H ρ1 H1 ∧ Rel (kx X B) ρ1 H1 S2 ∧ RelD (kx X B) ρ1 H1 rr w) R e5 (fun ρ' H' v x R r => ⟨ρ', x, R, r⟩) ((rv.drop i).take (xs.length + 1 - gs.length))
      obtain ⟨ρ1, x1, R1, r1⟩ := q a hn
      refine h.run pins s' σ _ (vs.take i ++ .ref a :: vs.drop (i + (xs.length + 1 - gs.length))) _ Q I' (Vals.append (ru.take _) (.cons rfl (ru.drop _))) ⟨B, ρ1, S2, σd, _, σd', S', R1, rσ.ext x1, ?_, e6, fun ρ' H' σ' x R' r' w => p ρ' H' σ' (x1.trans x) R' r' fun vs hvs => w vs (by intro i hi; exact hvs i (by unfold gSlots; exact hi))⟩
      exact ((rv.take i).ext x1).app ⟨_, _, rfl, r1, (rv.drop _).ext x1⟩
    · exact fail_ok (S := S1) e4
/-! ### comprehensions -/
theorem k_yes : PTs X [] (tT X cf gl (.val (.bl true))) := by
  refine pts_nil.imp fun σ H Q ⟨B, ρ, S, σd, d, S', R, r, e, p⟩ => ?_
  unfold evT evE at e
  obtain ⟨z, S1, e1, e2⟩ := bnd_ok e
  obtain ⟨rfl, rfl⟩ := ret_ok e1
  obtain ⟨e3, rfl⟩ := look_ok e2
  cases e3
  exact p ρ H Ext.refl R
theorem comp_imp {m : Bool} {own : List Nat} {tg : MG} {it : MT} {cond : MC} {elt : ME} (ho : ∀ i ∈ gSlots tg, i ∈ own) : ∀ σ H Q, tE X cf gl (.comp m own tg it cond elt) σ H Q → tLc (tIt X cf gl it) (tGt X cf gl tg) (tT X cf gl cond) (tE X cf gl elt) own σ H Q := by
  rintro σ H Q ⟨B, ρ, S, σd, d, S', R, r, e, p⟩
  unfold evE at e
  obtain ⟨t, S1, e1, e2⟩ := bnd_ok e
  refine ⟨B, ρ, S, σd, t, S1, R, r, e1, fun ρ1 H1 J x1 R1 j1 P hP => ?_⟩
  cases t with
  | items ds =>
    obtain ⟨xs, S2, e3, e4⟩ := bnd_ok e2
    exact comp_items ho R1 (r.ext x1) j1 hP e3 e4 (p.ext x1)
  | live l =>
    obtain ⟨xs, S2, e3, e4⟩ := bnd_ok e2
    exact comp_live ho R1 (r.ext x1) j1 hP e3 e4 (p.ext x1)
theorem set_fold {it : Expr} (h : isSetD it = false) (env : PySem.Env) : ∀ x, foldedSetIterable it env x = pure x := by
  intro x
  cases it <;> first | rfl | cases h
end
end MI
set_option Elab.async false
set_option linter.all false
set_option maxRecDepth 100000
set_option maxHeartbeats 2000000
namespace MI
open PySem PySem.Spec PyProof.Rows L2
section
variable {X : Cx} {cf : Cf} {gl : Str → Option D} {pos : Pos}
/-! ### dict displays -/
def trsOf (X : Cx) (cf : Cf) (gl : Str → Option D) : List MK → List (TE × TE)
  | [] => []
  | .mk k v :: r => (tE X cf gl k, tE X cf gl v) :: trsOf X cf gl r
def pairV (ks : List Key) (vs : List V) : List (V × V) := (ks.zip vs).map fun kv => (kV kv.1, kv.2)
theorem k_pairs : ∀ {mks : List MK} {B ρ : List Addr} {H : Hp} {S S' : Sto} {σd : Env} {σ : L2.St} {r : List (Key × D)} {Q : List (V × V) → Hp → Prop}, Rel (kx X B) ρ H S → RelSt (kx X B) ρ H σd σ → evKs cf gl σd mks S = .ok r S' →
    (∀ ρ' H' vs, Ext ρ H ρ' H' → Rel (kx X B) ρ' H' S' → RelDs (kx X B) ρ' H' (r.map (·.2)) vs → Q (pairV (r.map (·.1)) vs) H') → tPairs (trsOf X cf gl mks) σ H Q
  | [], B, ρ, H, S, S', σd, σ, r, Q, R, rσ, e, q => by
    unfold evKs at e
    obtain ⟨rfl, rfl⟩ := ret_ok e
    exact q ρ H [] Ext.refl R rfl
  | .mk k v :: mks, B, ρ, H, S, S', σd, σ, r, Q, R, rσ, e, q => by
    unfold evKs at e
    obtain ⟨x, S1, e1, e2⟩ := bnd_ok e
    obtain ⟨y, S2, e3, e4⟩ := bnd_ok e2
    obtain ⟨r2, S3, e5, e6⟩ := bnd_ok e4
    show tE X cf gl k σ H fun x1 H1 => tE X cf gl v σ H1 fun y1 H2 => tPairs (trsOf X cf gl mks) σ H2 fun ps H3 => Q ((x1, y1) :: ps) H3
    refine ⟨B, ρ, S, σd, x, S1, R, rσ, e1, fun ρ1 H1 x1 y1 R1 r1 => ⟨B, ρ1, S1, σd, y, S2, R1, rσ.ext y1, e3, fun ρ2 H2 x2 y2 R2 q2 => ?_⟩⟩
    refine k_pairs R2 ((rσ.ext y1).ext y2) e5 fun ρ3 H3 vs y3 R3 r3 => ?_
    cases x with
    | int i =>
      obtain ⟨rfl, rfl⟩ := ret_ok e6
      cases r1
      exact q ρ3 H3 (x2 :: vs) ((y1.trans y2).trans y3) R3 ⟨x2, vs, rfl, q2.ext y3, r3⟩
    | str z =>
      obtain ⟨rfl, rfl⟩ := ret_ok e6
      cases r1
      exact q ρ3 H3 (x2 :: vs) ((y1.trans y2).trans y3) R3 ⟨x2, vs, rfl, q2.ext y3, r3⟩
    | _ => exact fail_ok (S := S3) e6
theorem merge_nodup : ∀ {more acc : List (Key × V)}, ((acc ++ more).map (·.1)).Nodup → mergeK acc more = acc ++ more
  | [], acc, _ => by simp [mergeK]
  | kv :: more, acc, h => by
    have hn : valV acc kv.1 = none := by
      have h0 := valV_any kv.1 acc
      cases hv : valV acc kv.1 with
      | none => rfl
      | some v =>
        rw [hv] at h0
        obtain ⟨y, hy, e⟩ := List.any_eq_true.mp h0
        have e := of_decide_eq_true e
        rw [List.map_append, List.nodup_append] at h
        exact absurd e (h.2.2 _ (List.mem_map_of_mem hy) _ (by simp))
    show mergeK (putK acc kv.1 kv.2) more = _
    rw [putK_new _ hn, merge_nodup (by simpa using h)]
    simp
theorem k_dict {m : Bool} {keys : List (Option Expr)} {values : List Expr} {mks : List MK} (hP : PPs X pos keys values (trsOf X cf gl mks)) (hall : keys.all (·.isSome) = true) (hl : keys.length = values.length) (h15 : keys.length ≤ 15) (hkl : mks.length = keys.length) :
    PE X (.Dict keys values pos) (tE X cf gl (.dct m mks)) := by
  have kslen : ∀ {mks : List MK} {σd : Env} {S S' : Sto} {r : List (Key × D)}, evKs cf gl σd mks S = .ok r S' → r.length = mks.length := by
    intro mks
    induction mks with
    | nil => intro σd S S' ds e; unfold evKs at e; obtain ⟨rfl, _⟩ := ret_ok e; rfl
    | cons m ms ih =>
      intro σd S S' ds e
      cases m with
      | mk k v =>
        unfold evKs at e
        obtain ⟨x, S1, e1, e2⟩ := bnd_ok e
        obtain ⟨y, S2, e3, e4⟩ := bnd_ok e2
        obtain ⟨r2, S3, e5, e6⟩ := bnd_ok e4
        cases x with
        | int i => obtain ⟨rfl, rfl⟩ := ret_ok e6; simp [ih e5]
        | str z => obtain ⟨rfl, rfl⟩ := ret_ok e6; simp [ih e5]
        | _ => exact fail_ok (S := S3) e6
  have fin : ∀ {B ρ ρ1 : List Addr} {H H1 : Hp} {S1 S' : Sto} {P : Addr} {ks : List Key} {ds : List D} {vs : List V} {d : D} {Q : VK}, H P = none → P ∉ B → Ext ρ H ρ1 H1 → Rel (kx X (P :: B)) ρ1 H1 S1 → H1 P = some (.dK []) → P ∉ ρ1 → RelDs (kx X (P :: B)) ρ1 H1 ds vs → ks.length = ds.length →
      mkDict m ks ds S1 = .ok d S' → Post (kx X B) ρ H d S' Q → Q (.ref P) (upd H1 P (.dK (ks.zip vs))) := by
    intro B ρ ρ1 H H1 S1 S' P ks ds vs d Q hP hB x R h n q hk e p
    have F : Fil H1 P := .inr ⟨_, h⟩
    have q2 := RelDs.fill (.dK (ks.zip vs)) F q
    have R2 := R.fill n (.dK (ks.zip vs)) F
    have x2 : Ext ρ H ρ1 (upd H1 P (.dK (ks.zip vs))) := x.fill hP
    unfold mkDict at e
    split at e
    · cases e
      refine p (ρ1 ++ [P]) _ _ ⟨?_, x2.keep, x2.there⟩ (Rel.seal R2 n ⟨vs, upd_same, by rw [hk, q.length], RelDs.seal q2⟩) ⟨P, by simp [← R.len], rfl⟩
      obtain ⟨τ, h1, h2⟩ := x.pre
      refine ⟨τ ++ [P], by rw [h1, List.append_assoc], fun a ha => ?_⟩
      rcases List.mem_append.mp ha with z | z
      · exact h2 a z
      · rw [List.mem_singleton.mp z]; exact hP
    · cases e
      exact p ρ1 _ _ x2 (Rel.less R2) ⟨P, vs, rfl, upd_same, ⟨n, hB⟩, by rw [hk, q.length], RelDs.less q2⟩
  by_cases h0 : keys = []
  · subst h0
    obtain rfl : values = [] := List.length_eq_zero_iff.mp hl.symm
    obtain rfl : mks = [] := List.length_eq_zero_iff.mp hkl
    refine (pe_dnewK).imp fun σ H Q ⟨B, ρ, S, σd, d, S', R, r, e, p⟩ => ?_
    unfold evE at e
    obtain ⟨kvs, S1, e1, e2⟩ := bnd_ok e
    unfold evKs at e1
    obtain ⟨rfl, rfl⟩ := ret_ok e1
    obtain ⟨_, e3⟩ := gd_ok e2
    intro P hn
    have z := fin (ks := []) (ds := []) (vs := []) hn (R.fresh2 hn).2 (Ext.new hn) (R.start hn (.dK [])) upd_same (R.fresh hn) rfl rfl e3 p
    have ee : upd (upd H P (.dK [])) P (.dK (([] : List Key).zip ([] : List V))) = upd H P (.dK []) := by
      funext a
      by_cases h : a = P
      · subst h; rw [upd_same, upd_same]; rfl
      · rw [upd_ne h]
    rw [ee] at z
    exact z
  · refine (pe_disp hP hall hl h0 h15).imp fun σ H Q ⟨B, ρ, S, σd, d, S', R, r, e, p⟩ => ?_
    unfold evE at e
    obtain ⟨kvs, S1, e1, e2⟩ := bnd_ok e
    obtain ⟨hnd, e3⟩ := gd_ok e2
    have hnd := of_decide_eq_true hnd
    intro P hn
    refine k_pairs (R.start hn (.dK [])) (r.start hn (.dK [])) e1 fun ρ1 H1 vs x1 R1 r1 => ?_
    have hp1 : H1 P = some (.dK []) := x1.keep _ _ upd_same fun z => absurd z (R.fresh hn)
    have n1 : P ∉ ρ1 := x1.out upd_same (R.fresh hn)
    have lz : (kvs.map (·.1)).length = vs.length := by rw [List.length_map, ← r1.length, List.length_map]
    refine ⟨hp1, (kvs.map (·.1)).zip vs, rfl, by rw [List.length_zip, ← lz, Nat.min_self, List.length_map, kslen e1, hkl]; exact h15, ?_⟩
    rw [merge_nodup (acc := []) (by rw [List.nil_append, List.map_fst_zip (by rw [lz]; exact Nat.le_refl _)]; exact hnd), List.nil_append]
    exact fin hn (R.fresh2 hn).2 (Ext.trans (Ext.new hn) x1) R1 hp1 n1 r1 (by simp) e3 p
end
end MI
set_option Elab.async false
set_option linter.all false
set_option maxRecDepth 100000
set_option maxHeartbeats 2000000
namespace MI
open PySem PySem.Spec PyProof.Rows L2
/-! ### defs -/

/-- a law's exceptions: those that are raised, with the classes that each is of and its fields; the classes' names that are asked for -/
class XT where
  xs : List (Str × List Str × List Str)
  xn : List Str
  /-- the defs -/
  fs : List Str
def BangOk (T : Str → Option Fn) : Prop := ∀ x fn', T (bang x) = some fn' → ∃ fn, T x = some fn ∧ fn' = ⟨fn.ps, fn.n, [.xret fn.body]⟩
/-- a datum that says the same in every heap -/
def Flat (d : D) (v : V) : Prop := ∀ k ρ H, RelD k ρ H d v
theorem flat_of {k : Kx} {ρ : List Addr} {H : Hp} {d : D} {v : V} (h : flatD d = true) (r : RelD k ρ H d v) : Flat d v := by
  cases d <;> first | exact fun _ _ _ => r | cases h
/-- the exception d is of the class cls, its dict at dd -/
def XRel [XT] (K : PySem.W.Frag) (mg : Str → Option Value) (H : Hp) (d : D) (cls : Value) (dd : Option Addr) : Prop := ∃ c anc fs vs A, d = mkX c anc fs vs ∧ (c, anc, fs) ∈ XT.xs ∧ mg c = some (.ref A) ∧ cls = .ref A ∧ (dd = none ∨ ∃ a fsV, dd = some a ∧ H a = some (.xd fsV)) ∧
  ∀ f v, xFind f (fs.map .fn) vs = some v → f ∈ fs ∧ ∃ a fsV w, dd = some a ∧ H a = some (.xd fsV) ∧ fsV.lookup f = some w ∧ Flat v w
def PostX [XT] (k : Kx) (ρ : List Addr) (H : Hp) (d : D) (S : Sto) (E : XK) : Prop := ∀ ρ' H' cls dd, Ext ρ H ρ' H' → Rel k ρ' H' S → XRel k.K k.mg H' d cls dd → E cls dd H'
theorem PostX.ext [XT] {k : Kx} {ρ ρ' : List Addr} {H H' : Hp} {d : D} {S : Sto} {E : XK} (h : PostX k ρ H d S E) (x : Ext ρ H ρ' H') : PostX k ρ' H' d S E := fun ρ2 H2 cls dd y R q => h ρ2 H2 cls dd (x.trans y) R q
/-- what an exception's own __init__ does -/
def spInit (A : Addr) (fs : List Str) : Sp := fun vs H Q _ => ∃ a us, vs = .ref a :: us ∧ us.length = fs.length ∧ fs ≠ [] ∧ H a = some (exo a A none) ∧
  ∀ dx, H dx = none → dx ≠ a → ∀ H', H' a = some (exo a A (some dx)) → H' dx = some (exd dx ((fs.zip us).reverse)) → (∀ b, b ≠ a → b ≠ dx → H' b = H b) → Q .non H'
/-- a class's value by its name -/
def nmV (mg : Str → Option Value) (n : Str) : Option Value := match mg n with
  | some v => some v
  | none => bootBuiltins n
structure XFacts [XT] (P : Program) (w : World) (K : PySem.W.Frag) (mg : Str → Option Value) (base : Heap) : Prop where
  nm : ∀ n ∈ XT.xn, okName n = true ∧ ((∃ A, mg n = some (.ref A)) ∨ ∃ s, mg n = none ∧ bootBuiltins n = some (.type s))
  fact : ∀ p ∈ XT.xs, ∀ n ∈ XT.xn, ∀ A cv, mg p.1 = some (.ref A) → nmV mg n = some cv → PySem.W.exmOne K (.ref A) cv = some (p.2.1.contains n) ∧ PySem.W.kitOne K (.ref A) cv = some (p.2.1.contains n)
  cls : ∀ p ∈ XT.xs, ∀ A, mg p.1 = some (.ref A) → XfC K A ∧ ExcC K A ∧ ∀ f ∈ p.2.2, PySem.W.findIn K (.ref A) f = some none
  mak : ∀ c anc fs, (c, anc, fs) ∈ XT.xs → ∃ A fI fd ps, mg c = some (.ref A) ∧ OexC K A ∧ PySem.W.findIn K (.ref A) "__init__" = some (some (.ref fI)) ∧ PySem.W.typeIn K (.ref fI) = some (.type "function") ∧ Binds K fd ps [] ∧ FnOk P w K mg base (L2.CX P w) 1 fI fd ps (spInit A fs)

/-- a def's promise, no guard standing -/
structure FnG (P : Program) (w : World) (K : PySem.W.Frag) (mg : Str → Option Value) (base : Heap) (k : Nat) (f : Addr) (fd : FuncData) (ps : List Str) (sp : Sp) : Prop where
  len : ∀ vs H Q E, sp vs H Q E → vs.length = ps.length
  run : ∀ (A : Around) (outer : List PySem.Env) (s : Shared) (H : Hp) (args : Args) (us : List Value) (vs : List V) (Q : VK) (E : XK), Room k A → A.guards = some [] → Env0 P w K mg base A outer s H → BindsTo s fd args (ps.zip us) → Vals vs us → sp vs H Q E →
    codeAny (model P w) A (.call (.ref f) args) (CR (L2.CX P w) outer P w H s Q E) s
def spN (K : PySem.W.Frag) (mg : Str → Option Value) (T : Str → Option Fn) (gl : Str → Option D) (n : Nat) (x : Str) : Sp := fun vs H Q _ => ∃ B ρ S ds d S', Rel ⟨K, mg, B⟩ ρ H S ∧ RelDs ⟨K, mg, B⟩ ρ H ds vs ∧ callN T gl n x ds S = .ok d S' ∧ Post ⟨K, mg, B⟩ ρ H d S' Q
def spX [XT] (K : PySem.W.Frag) (mg : Str → Option Value) (T : Str → Option Fn) (gl : Str → Option D) (n : Nat) (x : Str) : Sp := fun vs H _ E => ∃ B ρ S ds d S', Rel ⟨K, mg, B⟩ ρ H S ∧ RelDs ⟨K, mg, B⟩ ρ H ds vs ∧ callN T gl n (bang x) ds S = .ok d S' ∧ PostX ⟨K, mg, B⟩ ρ H d S' E
/-- a def ends, or an exception leaves it -/
def spF [XT] (K : PySem.W.Frag) (mg : Str → Option Value) (T : Str → Option Fn) (gl : Str → Option D) (n : Nat) (x : Str) : Sp := fun vs H Q E => spN K mg T gl n x vs H Q E ∨ spX K mg T gl n x vs H Q E
section
variable {X : Cx} {k : Nat} {f : Addr} {fd : FuncData} {ps : List Str} {sp : Sp}
theorem cx_no {P : Program} {w : World} {outer : List PySem.Env} {H : Hp} {s s' : Shared} {e : Value} (h : L2.CX P w outer H s (fun _ _ _ => False) e s') : False := by
  obtain ⟨_, _, _, _, _, _, _, _, _, _, _, _, z⟩ := h
  exact z
theorem run_fnGX {pins : List (Addr × Obj)} {σ : L2.St} {H : Hp} {s : Shared} {Q : VK} {E : XK} {us : List Value} {vs : List V} (F : FnG X.prog X.w X.K X.mg X.base k f fd ps sp) (hr : Room k X.A) (hg : X.A.guards = some []) (hb : Binds X.K fd ps []) (hx : PassesAt (L2.CX X.prog X.w) X σ E)
    (I : L2.Inv X pins σ H s) (r : Vals vs us) (h : sp vs H Q E) : wpAny (model X.prog X.w) X.A (call (.ref f) us) (EP X pins σ Q) X.xe s := by
  have hl : us.length = ps.length := by rw [← r.length]; exact F.len _ _ _ _ h
  have hbb := hb s us I.kIn (by rw [List.append_nil]; exact hl)
  rw [List.append_nil] at hbb
  refine wpAny_call (codeAny_mono (F.run X.A X.stack s H ⟨us, []⟩ us vs Q E hr hg I.env0 hbb r h) fun r s' hq => ?_)
  cases r with
  | error e => exact hx pins H s e s' I hq
  | ok fl =>
    cases fl with
    | ret u => exact I.after hq
    | next => exact False.elim hq
    | brk => exact False.elim hq
    | cont => exact False.elim hq
theorem run_fnG {pins : List (Addr × Obj)} {σ : L2.St} {H : Hp} {s : Shared} {Q : VK} {us : List Value} {vs : List V} (F : FnG X.prog X.w X.K X.mg X.base k f fd ps sp) (hr : Room k X.A) (hg : X.A.guards = some []) (hb : Binds X.K fd ps [])
    (I : L2.Inv X pins σ H s) (r : Vals vs us) (h : sp vs H Q fun _ _ _ => False) : wpAny (model X.prog X.w) X.A (call (.ref f) us) (EP X pins σ Q) X.xe s := by
  have hl : us.length = ps.length := by rw [← r.length]; exact F.len _ _ _ _ h
  have hbb := hb s us I.kIn (by rw [List.append_nil]; exact hl)
  rw [List.append_nil] at hbb
  refine wpAny_call (codeAny_mono (F.run X.A X.stack s H ⟨us, []⟩ us vs Q (fun _ _ _ => False) hr hg I.env0 hbb r h) fun r s' hq => ?_)
  cases r with
  | error e => exact (cx_no hq).elim
  | ok fl =>
    cases fl with
    | ret u => exact I.after hq
    | next => exact False.elim hq
    | brk => exact False.elim hq
    | cont => exact False.elim hq
variable {cf : Cf} {gl : Str → Option D} {es : List Expr} {ms : List ME} {pos p : Pos} {x : Str}
theorem k_callF {pins : List (Addr × Obj)} {σ : L2.St} {H : Hp} {s : Shared} {Q : VK} {t : TE} {tA : TA} (F : FnG X.prog X.w X.K X.mg X.base k f fd ps sp) (hr : Room k X.A) (hg : X.A.guards = some []) (hk : PySem.W.keepIn X.K (.ref f) = true) (hb : Binds X.K fd ps []) (hs : noStar es = true)
    (hn : PE X (.Name x p) t) (ht : t σ H fun v H1 => v = .ref f ∧ H1 = H) (ha : PA X es tA) (h : tA σ H fun vs H1 => sp vs H1 Q fun _ _ _ => False) (I : L2.Inv X pins σ H s) (h0 : es = [] → sp [] H Q fun _ _ _ => False) :
    wpAny (model X.prog X.w) X.A (eval (.Call (.Name x p) es [] pos) X.env) (EP X pins σ Q) X.xe s := by
  refine wpAny_Call_Name_kw (thn (hn.run pins s σ H _ I ht) fun u s1 ⟨v, H1, I1, r1, q1⟩ => ?_)
  obtain ⟨rfl, rfl⟩ := q1
  cases r1
  cases es with
  | nil => exact PySem.W.callWith_K0 I1.kIn hk (run_fnG (us := []) F hr hg hb I1 .nil (h0 rfl))
  | cons e es =>
    unfold noStar at hs
    rw [List.all_cons, Bool.and_eq_true, Bool.not_eq_true'] at hs
    refine PySem.W.callWith_K (h₀ := X.base) I.ok.mod.kin hk (thn (ha.run pos pins s1 σ _ _ I1 h) fun us s2 ⟨vs, H2, I2, r, q⟩ => ⟨I2.kIn, ?_⟩) (star_cons hs.1 _) (star_any hs.2)
    exact run_fnG F hr hg hb I2 r q
theorem k_callFX {E : XK} {pins : List (Addr × Obj)} {σ : L2.St} {H : Hp} {s : Shared} {Q : VK} {t : TE} {tA : TA} (F : FnG X.prog X.w X.K X.mg X.base k f fd ps sp) (hr : Room k X.A) (hg : X.A.guards = some []) (hk : PySem.W.keepIn X.K (.ref f) = true) (hb : Binds X.K fd ps []) (hx : PassesAt (L2.CX X.prog X.w) X σ E) (hs : noStar es = true)
    (hn : PE X (.Name x p) t) (ht : t σ H fun v H1 => v = .ref f ∧ H1 = H) (ha : PA X es tA) (h : tA σ H fun vs H1 => sp vs H1 Q E) (I : L2.Inv X pins σ H s) (h0 : es = [] → sp [] H Q E) :
    wpAny (model X.prog X.w) X.A (eval (.Call (.Name x p) es [] pos) X.env) (EP X pins σ Q) X.xe s := by
  refine wpAny_Call_Name_kw (thn (hn.run pins s σ H _ I ht) fun u s1 ⟨v, H1, I1, r1, q1⟩ => ?_)
  obtain ⟨rfl, rfl⟩ := q1
  cases r1
  cases es with
  | nil => exact PySem.W.callWith_K0 I1.kIn hk (run_fnGX (us := []) F hr hg hb hx I1 .nil (h0 rfl))
  | cons e es =>
    unfold noStar at hs
    rw [List.all_cons, Bool.and_eq_true, Bool.not_eq_true'] at hs
    refine PySem.W.callWith_K (h₀ := X.base) I.ok.mod.kin hk (thn (ha.run pos pins s1 σ _ _ I1 h) fun us s2 ⟨vs, H2, I2, r, q⟩ => ⟨I2.kIn, ?_⟩) (star_cons hs.1 _) (star_any hs.2)
    exact run_fnGX F hr hg hb hx I2 r q
/-- an argument lets an exception out -/
theorem k_callA {pins : List (Addr × Obj)} {σ : L2.St} {H : Hp} {s : Shared} {Q : VK} {t : TE} {tA : TA} (hk : PySem.W.keepIn X.K (.ref f) = true) (hs : noStar es = true)
    (hn : PE X (.Name x p) t) (ht : t σ H fun v H1 => v = .ref f ∧ H1 = H) (ha : PA X es tA) (h : tA σ H fun _ _ => False) (I : L2.Inv X pins σ H s) (h0 : es ≠ []) :
    wpAny (model X.prog X.w) X.A (eval (.Call (.Name x p) es [] pos) X.env) (EP X pins σ Q) X.xe s := by
  refine wpAny_Call_Name_kw (thn (hn.run pins s σ H _ I ht) fun u s1 ⟨v, H1, I1, r1, q1⟩ => ?_)
  obtain ⟨rfl, rfl⟩ := q1
  cases r1
  cases es with
  | nil => exact absurd rfl h0
  | cons e es =>
    unfold noStar at hs
    rw [List.all_cons, Bool.and_eq_true, Bool.not_eq_true'] at hs
    exact PySem.W.callWith_K (h₀ := X.base) I.ok.mod.kin hk (thn (ha.run pos pins s1 σ _ _ I1 h) fun us s2 ⟨vs, H2, I2, r, q⟩ => q.elim) (star_cons hs.1 _) (star_any hs.2)
end
/-! ### the frame -/
/-- the scope as it is written, and as it stands in a block -/
structure ScOk (sc sc' : Scope) (fn : Str → Bool) : Prop where
  loc : ∀ x, sc.names.lookup x = some .local → sc'.names.lookup x = some .local
  cel : ∀ x, sc.names.lookup x = some .cell → sc'.names.lookup x = some .cell ∧ fn x = true
  fre : ∀ x, sc.names.lookup x = some .free → sc'.names.lookup x = some .cell ∨ sc'.names.lookup x = some .free
  gli : ∀ x, sc.names.lookup x = some .globalImplicit → sc'.names.lookup x = some .globalImplicit
structure Good [XT] (T : Str → Option Fn) (gl : Str → Option D) (n : Nat) (C : TC) (sc : Scope) (X : Cx) : Prop where
  N : X.N = C.N
  nd : X.N.Nodup
  scs : ScOk sc X.env.scope X.fn
  calm : X.calm = true
  room : Room (n + 2) X.A
  gu : X.A.guards = some []
  sys : SysK X.base
  xe : X.xe = fun _ _ => False
  glb : ∀ x d, gl x = some d → ∃ u v, X.mg x = some u ∧ RelV v u ∧ ∀ B ρ H, RelD ⟨X.K, X.mg, B⟩ ρ H d v
  unb : ∀ x, x ∈ C.U → X.mg x = none
  fnv : ∀ x, x ∈ C.F → ∃ f, X.mg x = some (.ref f)
  xc : C.xs = XT.xs ∧ C.xn = XT.xn
  xf : XFacts X.prog X.w X.K X.mg X.base
  fT : ∀ x ∈ C.F, T x ≠ none
  bg : BangOk T
  fns : ∀ x f, T x ≠ none → X.mg x = some (.ref f) → ∃ fd ps, PySem.W.keepIn X.K (.ref f) = true ∧ Binds X.K fd ps [] ∧ FnG X.prog X.w X.K X.mg X.base (n + 2) f fd ps (spF X.K X.mg T gl n x)
theorem lookup_relab {f : NameKind → Str → NameKind} : ∀ {names : List (Str × NameKind)} {x : Str}, (names.map fun (y, k) => (y, f k y)).lookup x = (names.lookup x).map fun k => f k x
  | [], x => rfl
  | (y, k) :: r, x => by
    simp only [List.map_cons, List.lookup_cons]
    cases h : x == y with
    | true => have e : x = y := eq_of_beq h; subst e; rfl
    | false => exact lookup_relab
theorem ScOk.blk {scope : Scope} (env : PySem.Env) : ScOk scope (relabel scope env) fun x => scope.names.lookup x == some .cell := by
  have key : ∀ x, (relabel scope env).names.lookup x = (scope.names.lookup x).map fun k => if (k == .free && env.scope.kind == .function && env.kindOf x == some .cell) = true then NameKind.cell else k := by
    intro x
    have h := lookup_relab (f := fun k y => if (k == .free && env.scope.kind == .function && env.kindOf y == some .cell) = true then NameKind.cell else k) (names := scope.names) (x := x)
    rw [← h]
    show List.lookup x (scope.names.map _) = _
    congr 1
    apply List.map_congr_left
    rintro ⟨y, k⟩ _
    dsimp only
    split <;> rfl
  refine ⟨fun x h => ?_, fun x h => ?_, fun x h => ?_, fun x h => ?_⟩
  · rw [key, h]; rfl
  · exact ⟨by rw [key, h]; rfl, by rw [h]; rfl⟩
  · rw [key, h]
    show some (if _ then NameKind.cell else NameKind.free) = _ ∨ some (if _ then NameKind.cell else NameKind.free) = _
    split
    · exact .inl rfl
    · exact .inr rfl
  · rw [key, h]; rfl
theorem Good.blk [XT] {T : Str → Option Fn} {gl : Str → Option D} {n : Nat} {C : TC} {sc scope : Scope} {X : Cx} (g : Good T gl n C sc X) (s : Shared) (H : Hp) (A : Addr) (cl : List (Str × Addr)) (fp : List Addr) : Good T gl n C scope (X.blk s H scope (compEnvC scope cl A X.env) fp) :=
  ⟨g.N, g.nd, ScOk.blk X.env, g.calm, g.room, g.gu, g.sys, rfl, g.glb, g.unb, g.fnv, g.xc, g.xf, g.fT, g.bg, g.fns⟩
section
variable [XT] {T : Str → Option Fn} {gl : Str → Option D} {n : Nat} {C : TC} {sc : Scope} {X : Cx} {x : Str} {i : Nat}
theorem findIdx_eq {N : List Str} {x : Str} {i : Nat} (h : N.findIdx? (fun y => y == x) = some i) : N[i]? = some x := by
  obtain ⟨h1, h2, _⟩ := List.findIdx?_eq_some_iff_getElem.mp h
  rw [List.getElem?_eq_getElem h1, eq_of_beq h2]
theorem Good.vis (g : Good T gl n C sc X) (h : slotV C sc x = some i) : X.N[i]? = some x ∧ Vis X.env.scope x := by
  unfold slotV at h
  split at h
  · rename_i q; exact ⟨by rw [g.N]; exact findIdx_eq h, .inl (g.scs.loc _ q)⟩
  · rename_i q; exact ⟨by rw [g.N]; exact findIdx_eq h, .inr (.inl (g.scs.cel _ q).1)⟩
  · rename_i q; exact ⟨by rw [g.N]; exact findIdx_eq h, (g.scs.fre _ q).elim (fun z => .inr (.inl z)) fun z => .inr (.inr z)⟩
  · cases h
theorem Good.lc (g : Good T gl n C sc X) (h : slotL C sc x = some i) : X.N[i]? = some x ∧ Loc X.env.scope x ∧ (X.fn x = true ∨ X.env.scope.names.lookup x = some .local) := by
  unfold slotL at h
  split at h
  · rename_i q; exact ⟨by rw [g.N]; exact findIdx_eq h, .inl (g.scs.loc _ q), .inr (g.scs.loc _ q)⟩
  · rename_i q; exact ⟨by rw [g.N]; exact findIdx_eq h, .inr (g.scs.cel _ q).1, .inl (g.scs.cel _ q).2⟩
  · cases h
theorem Good.gl' (g : Good T gl n C sc X) (h : isGl sc x = true) : Gl X x := by
  unfold isGl at h
  split at h
  · rename_i q; exact g.scs.gli _ q
  · cases h
end
end MI
set_option Elab.async false
set_option linter.all false
set_option maxRecDepth 100000
set_option maxHeartbeats 4000000
namespace MI
open PySem PySem.Spec PyProof.Rows L2
section
variable [XT] {T : Str → Option Fn} {gl : Str → Option D} {n : Nat} {C : TC} {sc : Scope} {X : Cx} {x : Str} {i : Nat} {es : List Expr} {ms : List ME} {pos p : Pos} {a : Expr}
theorem callN_some {x : Str} {vs : List D} {S S' : Sto} {d : D} (e : callN T gl n x vs S = .ok d S') : T x ≠ none := by
  intro h
  cases n with
  | zero => unfold callN at e; exact fail_ok (S := S) e
  | succ n => unfold callN at e; simp only [h] at e; exact fail_ok (S := S) e
theorem okN {x : Str} (h : okName x = true) : (x == ("__debug__" : Str)) = false ∧ (x == ("__classdict__" : Str)) = false ∧ x ≠ "__name__" := by
  unfold okName at h
  simp only [Bool.and_eq_true, Bool.not_eq_true'] at h
  refine ⟨h.1.1, h.1.2, fun e => ?_⟩
  have := h.2
  rw [e] at this
  revert this
  decide
theorem nil_evs {cf : Cf} {σd : Env} {S S' : Sto} {ds : List D} (e : evEs cf gl σd [] S = .ok ds S') : ds = [] ∧ S' = S := by unfold evEs at e; exact ret_ok e
theorem k_call (g : Good T gl n C sc X) (hok : okName x = true) (hg : Gl X x) (hF : x ∈ C.F) (hs : noStar es = true) (ha : PA X es (tAs X (callN T gl n) gl ms)) (hms : es = [] → ms = []) : PE X (.Call (.Name x p) es [] pos) (tE X (callN T gl n) gl (.call x ms)) := by
  refine ⟨fun pins s σ H Q I h => ?_⟩
  obtain ⟨B, ρ, S, σd, d, S', R, r, e, pp⟩ := h
  unfold evE at e
  obtain ⟨ds, S1, e1, e2⟩ := bnd_ok e
  obtain ⟨f, hf⟩ := g.fnv x hF
  obtain ⟨fd, ps, hk, hb, F⟩ := g.fns x f (callN_some e2) hf
  refine k_callF F g.room g.gu hk hb hs (pe_glob (pos := p) (v := .ref f) hg hf rfl (okN hok).1) ⟨rfl, rfl⟩ ha ⟨B, ρ, S, σd, ds, S1, R, r, e1, fun ρ1 H1 vs x1 R1 r1 => .inl ⟨B, ρ1, S1, ds, d, S', R1, r1, e2, pp.ext x1⟩⟩ I fun he => ?_
  rw [hms he] at e1
  obtain ⟨rfl, rfl⟩ := nil_evs e1
  exact .inl ⟨B, ρ, _, [], d, S', R, rfl, e2, pp⟩
theorem k_callv (g : Good T gl n C sc X) (hok : okName x = true) (hi : slotV C sc x = some i) (hs : noStar es = true) (ha : PA X es (tAs X (callN T gl n) gl ms)) (hms : es = [] → ms = []) : PE X (.Call (.Name x p) es [] pos) (tE X (callN T gl n) gl (.callv i ms)) := by
  refine ⟨fun pins s σ H Q I h => ?_⟩
  obtain ⟨B, ρ, S, σd, d, S', R, r, e, pp⟩ := h
  unfold evE at e
  obtain ⟨v, S0, e0, e00⟩ := bnd_ok e
  obtain ⟨e3, rfl⟩ := ofO_ok e0
  cases v with
  | fn y =>
    obtain ⟨ds, S1, e1, e2⟩ := bnd_ok e00
    obtain ⟨w, hw, f, hf, rfl⟩ := r.2 i _ e3
    obtain ⟨fd, ps, hk, hb, F⟩ := g.fns y f (callN_some e2) hf
    obtain ⟨hN, hv⟩ := g.vis hi
    refine k_callF F g.room g.gu hk hb hs (pe_var (pos := p) hN hv (okN hok).1 (okN hok).2.1) ⟨.ref f, hw, rfl, rfl⟩ ha ⟨B, ρ, _, σd, ds, S1, R, r, e1, fun ρ1 H1 vs x1 R1 r1 => .inl ⟨B, ρ1, S1, ds, d, S', R1, r1, e2, pp.ext x1⟩⟩ I fun he => ?_
    rw [hms he] at e1
    obtain ⟨rfl, rfl⟩ := nil_evs e1
    exact .inl ⟨B, ρ, _, [], d, S', R, rfl, e2, pp⟩
  | _ => exact fail_ok (S := S0) e00
end
/-! ### an expression -/
structure OkE (X : Cx) (C : TC) (cf : Cf) (gl : Str → Option D) (sc : Scope) (e : Expr) : Prop where
  pe : PE X e (tE X cf gl (trE C e sc).1)
  pt : PT X e (tT X cf gl (trE C e sc).2)
  pi : ∀ tg, (isEnum e = true → isTupE tg = true) → PI X tg e (tIt X cf gl (.it (trE C e sc).1))
  ps : isComp e = true → ∀ (i : Nat) (y : Str) (py spos : Pos), X.N[i]? = some y → X.env.scope.names.lookup y = some .local → swapsWith e (some (.Name y py)) spos.line X.env = pure true → PS X (.Assign [.Name y py] e spos) (tAsg (tE X cf gl (trE C e sc).1) (gName i))
def notBlt : ME → Bool
  | .blt .. => false
  | _ => true
theorem it_gen {m : ME} (h : notBlt m = true) {cf : Cf} {gl : Str → Option D} (σd : Env) (S : Sto) : evI cf gl σd (.it m) S = bnd (evE cf gl σd m) itOf S := by
  cases m <;> first | (unfold evI; rfl) | cases h
section
variable {cf : Cf} {gl : Str → Option D} {C : TC} {sc : Scope} {X : Cx} {e : Expr}
theorem ok_bad (h : trE C e sc = bad) : OkE X C cf gl sc e := by
  refine ⟨?_, ?_, fun tg _ => ?_, fun _ i y py spos _ _ _ => ?_⟩ <;> rw [h]
  · exact k_bad
  · exact k_badT
  · exact k_pi (ma := .bad) (it_gen rfl) k_bad
  · refine ⟨fun _ _ _ _ _ _ h => ?_⟩
    obtain ⟨B, ρ, S, σd, d', S', R, _, e, p⟩ := h
    unfold bad evE at e
    exact fail_ok (S := S) e
theorem ok_val {m : ME} (h : trE C e sc = val m) (hp : PE X e (tE X cf gl m)) (ht : ∀ whole, isTrue e X.env whole = (do let v ← whole; standAt e.pos; holding [v] (truthy v))) (hb : notBlt m = true) (hc : isComp e = false) : OkE X C cf gl sc e := by
  refine ⟨?_, ?_, fun tg _ => ?_, fun z => ?_⟩
  · rw [h]; exact hp
  · rw [h]; exact k_truth hp ht
  · rw [h]; exact k_pi (it_gen hb) hp
  · rw [hc] at z; cases z
theorem ok_two {m : ME} {mc : MC} (h : trE C e sc = (m, mc)) (hp : PE X e (tE X cf gl m)) (ht : PT X e (tT X cf gl mc)) (hb : notBlt m = true) (hc : isComp e = false) : OkE X C cf gl sc e := by
  refine ⟨?_, ?_, fun tg _ => ?_, fun z => ?_⟩
  · rw [h]; exact hp
  · rw [h]; exact ht
  · rw [h]; exact k_pi (it_gen hb) hp
  · rw [hc] at z; cases z
end
section
variable [XT] (T : Str → Option Fn) (gl : Str → Option D) (n : Nat) (C : TC)
def Ok (e : Expr) : Prop := ∀ (sc : Scope) (X : Cx), Good T gl n C sc X → OkE X C (callN T gl n) gl sc e ∧ PG X e (tGt X (callN T gl n) gl (trG C e sc))
end
section
variable [XT] {T : Str → Option Fn} {gl : Str → Option D} {n : Nat} {C : TC}
theorem ok_list {es : List Expr} {sc : Scope} {X : Cx} (g : Good T gl n C sc X) : (∀ e ∈ es, Ok T gl n C e) → noStar es = true → PA X es (tAs X (callN T gl n) gl (trEs C es sc)) := by
  induction es with
  | nil => intro _ _; rw [trEs]; exact k_nil
  | cons e es ih =>
    intro h hs
    unfold noStar at hs
    rw [List.all_cons, Bool.and_eq_true, Bool.not_eq_true'] at hs
    rw [trEs]
    exact k_cons hs.1 (h e List.mem_cons_self sc X g).1.pe (ih (fun e he => h e (List.mem_cons_of_mem _ he)) hs.2)
theorem trEs_len {es : List Expr} {sc : Scope} : (trEs C es sc).length = es.length := by
  induction es with
  | nil => rw [trEs]; rfl
  | cons e es ih => rw [trEs]; simp [ih]
theorem ok_pairs {keys : List (Option Expr)} {sc : Scope} {X : Cx} {pos : Pos} (g : Good T gl n C sc X) : ∀ {vs : List Expr}, (∀ k ∈ keys, ∀ e, k = some e → Ok T gl n C e) → (∀ e ∈ vs, Ok T gl n C e) → keys.length = vs.length → keys.all (·.isSome) = true →
    PPs X pos keys vs (trsOf X (callN T gl n) gl (trKs C keys (trEs C vs sc) sc)) ∧ (trKs C keys (trEs C vs sc) sc).length = keys.length := by
  induction keys with
  | nil =>
    intro vs _ _ hl _
    obtain rfl : vs = [] := List.length_eq_zero_iff.mp hl.symm
    rw [trEs, trKs]
    exact ⟨pps_nil, rfl⟩
    all_goals (intros; simp_all)
  | cons k keys ih =>
    intro vs hk hv hl ha
    cases vs with
    | nil => cases hl
    | cons v vs =>
      rw [List.all_cons, Bool.and_eq_true] at ha
      cases k with
      | none => cases ha.1
      | some k =>
        rw [trEs, trKs]
        obtain ⟨i1, i2⟩ := ih (vs := vs) (fun k h => hk k (List.mem_cons_of_mem _ h)) (fun e h => hv e (List.mem_cons_of_mem _ h)) (by simpa using hl) ha.2
        exact ⟨pps_cons (hk _ List.mem_cons_self k rfl sc X g).1.pe (hv v List.mem_cons_self sc X g).1.pe i1, by simp [i2]⟩
theorem ok_bool {op : BoolOp} {sc : Scope} {X : Cx} {pos : Pos} (g : Good T gl n C sc X) : ∀ {vs : List Expr}, (∀ e ∈ vs, Ok T gl n C e) → vs ≠ [] → PE X (.BoolOp op vs pos) (tE X (callN T gl n) gl (trB C op vs sc).1) ∧ PW X (.BoolOp op vs pos) (tT X (callN T gl n) gl (trB C op vs sc).2)
  | [], _, h => absurd rfl h
  | [a], h, _ => by
    have o := (h a List.mem_cons_self sc X g).1
    rw [trB]
    cases op with
    | And => exact ⟨pe_one o.pe, pw_and1 o.pt⟩
    | Or => exact ⟨pe_one o.pe, pw_or1 o.pt⟩
  | a :: b :: r, h, _ => by
    have o := (h a List.mem_cons_self sc X g).1
    obtain ⟨i1, i2⟩ := ok_bool (op := op) (pos := pos) g (vs := b :: r) (fun e he => h e (List.mem_cons_of_mem _ he)) (by simp)
    cases op with
    | And =>
      have e : trB C .And (a :: b :: r) sc = (.and (trE C a sc).1 (trB C .And (b :: r) sc).1, .and (trE C a sc).2 (trB C .And (b :: r) sc).2) := by rw [trB.eq_def]
      rw [e]
      exact ⟨k_and o.pe i1, k_andT o.pt i2⟩
    | Or =>
      have e : trB C .Or (a :: b :: r) sc = (.or (trE C a sc).1 (trB C .Or (b :: r) sc).1, .or (trE C a sc).2 (trB C .Or (b :: r) sc).2) := by rw [trB.eq_def]
      rw [e]
      exact ⟨k_or o.pe i1, k_orT o.pt i2⟩
theorem ok_part {o : Option Expr} {sc : Scope} {X : Cx} (g : Good T gl n C sc X) (h : ∀ e, o = some e → Ok T gl n C e) : PO X o (tOf X (callN T gl n) gl (trO C o sc)) := by
  cases o with
  | none => rw [trO]; exact k_no
  | some e => rw [trO]; exact k_at (h e rfl sc X g).1.pe
end
end MI
set_option Elab.async false
set_option linter.all false
set_option maxRecDepth 100000
set_option maxHeartbeats 4000000
/-! comprehensions with two clauses -/
namespace MI
open PySem PySem.Spec PyProof.Rows L2
section
variable {X : Cx} {cf : Cf} {gl : Str → Option D}
/-- an outer turn -/
def turn2 (cf : Cf) (gl : Str → Option D) (σ : Env) (own : List Nat) (tg : MG) (cond : MC) (tg1 : MG) (it1 : MT) (cond1 : MC) (elt : ME) : D → List D → M (List D) := fun d acc => bnd (evG cf gl (wipeD σ own) tg d) fun σ2 => bnd (evT cf gl σ2 cond) fun k =>
  if k = true then bnd (evI cf gl σ2 it1) fun t1 => (match t1 with
    | .items ds1 => compL (turnM cf gl σ2 (gSlots tg1) tg1 cond1 elt) ds1 acc
    | .live _ => fail)
  else ret acc
theorem comp2_imp {m : Bool} {own : List Nat} {tg tg1 : MG} {it it1 : MT} {cond cond1 : MC} {elt : ME} (ho : ∀ i ∈ gSlots tg, i ∈ own) :
    ∀ σ H Q, tE X cf gl (.comp2 m own tg it cond tg1 it1 cond1 elt) σ H Q → tLc2 (tIt X cf gl it) (tGt X cf gl tg) (tT X cf gl cond) (tIt X cf gl it1) (tGt X cf gl tg1) (tT X cf gl cond1) (tE X cf gl elt) own (gSlots tg1) σ H Q := by
  rintro σ H Q ⟨B, ρ, S, σd, d, S', R, r, e, p⟩
  unfold evE at e
  obtain ⟨t, S1, e1, e2⟩ := bnd_ok e
  refine ⟨B, ρ, S, σd, t, S1, R, r, e1, fun ρ1 H1 J x1 R1 j1 P hP => ?_⟩
  cases t with
  | live l => exact fail_ok (S := S1) e2
  | items ds =>
    obtain ⟨rr, S2, e3, e4⟩ := bnd_ok e2
    have e3 : compF (turn2 cf gl σd own tg cond tg1 it1 cond1 elt) ds [] S1 = .ok rr S2 := e3
    have rσ := r.ext x1
    have p := p.ext x1
    clear e e1 e2 r R x1
    obtain ⟨c, cz, cv, hc, hJ⟩ := j1
    have hB : P ∉ B := (R1.fresh2 hP).2
    refine ⟨fun i n Hc => n = ds.length - i ∧ i ≤ ds.length ∧ ∃ ρc Sc acc accV, Ext ρ1 H1 ρc Hc ∧ Rel (kx X (P :: B)) ρc Hc Sc ∧ RelSt (kx X (P :: B)) ρc Hc σd σ ∧ RelC (kx X (P :: B)) ρc Hc c cz cv ∧ Hc P = some (.lst accV) ∧ P ∉ ρc ∧
      RelDs (kx X (P :: B)) ρc Hc acc accV ∧ compF (turn2 cf gl σd own tg cond tg1 it1 cond1 elt) (ds.drop i) acc Sc = .ok rr S2, ⟨ds.length, by simp, by omega, ρ1, S1, [], [], Ext.new hP, R1.start hP _, rσ.start hP _, RelC.start hP _ hc, upd_same, R1.fresh hP, rfl, by simpa using e3⟩, ?_⟩
    rintro i n Hc ⟨rfl, hi, ρc, Sc, acc, accV, x, Rc, rc, hcc, hPc, nc, hacc, ec⟩
    obtain ⟨j1, j2⟩ := hJ (P :: B) ρc Hc hcc
    by_cases hlt : i < ds.length
    · refine .inr ⟨(j1 i ds[i] (by simp [hlt])).1, fun H' => ∃ ρc Sc acc accV, Ext ρ1 H1 ρc H' ∧ Rel (kx X (P :: B)) ρc H' Sc ∧ RelSt (kx X (P :: B)) ρc H' σd σ ∧ RelC (kx X (P :: B)) ρc H' c cz cv ∧ H' P = some (.lst accV) ∧ P ∉ ρc ∧
        RelDs (kx X (P :: B)) ρc H' acc accV ∧ compF (turn2 cf gl σd own tg cond tg1 it1 cond1 elt) (ds.drop (i + 1)) acc Sc = .ok rr S2, fun H' h => ⟨ds.length - (i + 1), by omega, rfl, hlt, h⟩, fun y H' hy => ?_⟩
      obtain ⟨k1, k2⟩ := (j1 i ds[i] (by simp [hlt])).2 y H' hy
      have xs : Ext ρc Hc ρc H' := Ext.same k1
      have R' := Rc.keep xs k1
      have pP := k1 _ _ hPc
      rw [List.drop_eq_getElem_cons hlt] at ec
      unfold compF at ec
      obtain ⟨acc2, S3, e5, e6⟩ := bnd_ok ec
      unfold turn2 at e5
      obtain ⟨σ2d, S4, e7, e8⟩ := bnd_ok e5
      obtain ⟨b, S5, e9, e10⟩ := bnd_ok e8
      refine ⟨P :: B, ρc, Sc, wipeD σd own, ds[i], σ2d, S4, R', (rc.ext xs).wipe own, k2, e7, fun ρ2 H2 σ2 x2 R2 r2 w2 => ⟨(w2 own ho).trans (wipe_idem own), P :: B, ρ2, S4, σ2d, b, S5, R2, r2, e9, fun ρ3 H3 x3 R3 => ?_⟩⟩
      have p2 : H2 P = some (.lst accV) := x2.keep _ _ pP fun z => absurd z nc
      have n2 : P ∉ ρ2 := x2.out pP nc
      have p3 : H3 P = some (.lst accV) := x3.keep _ _ p2 fun z => absurd z n2
      have n3 : P ∉ ρ3 := x3.out p2 n2
      have x03 : Ext ρc Hc ρ3 H3 := (xs.trans x2).trans x3
      cases b with
      | false =>
        obtain ⟨rfl, rfl⟩ := ret_ok e10
        exact ⟨ρ3, _, _, accV, x.trans x03, R3, rc.ext x03, hcc.ext x03, p3, n3, hacc.ext x03, e6⟩
      | true =>
        obtain ⟨t1, S6, e11, e12⟩ := bnd_ok e10
        refine ⟨P :: B, ρ3, S5, σ2d, t1, S6, R3, r2.ext x3, e11, fun ρ4 H4 J1 x4 R4 it4 => ?_⟩
        have x04 : Ext ρc Hc ρ4 H4 := x03.trans x4
        have p4 : H4 P = some (.lst accV) := x4.keep _ _ p3 fun z => absurd z n3
        have n4 : P ∉ ρ4 := x4.out p3 n3
        cases t1 with
        | live l => exact fail_ok (S := S6) e12
        | items ds1 =>
          have e12 : compL (turnM cf gl σ2d (gSlots tg1) tg1 cond1 elt) ds1 acc S6 = .ok acc2 S3 := e12
          obtain ⟨c1, z1, v1, hc1, hJ1⟩ := it4
          refine ⟨fun j k H5 => k = ds1.length - j ∧ j ≤ ds1.length ∧ ∃ ρ5 S7 a5 aV, Ext ρ1 H1 ρ5 H5 ∧ Rel (kx X (P :: B)) ρ5 H5 S7 ∧ RelSt (kx X (P :: B)) ρ5 H5 σd σ ∧ RelSt (kx X (P :: B)) ρ5 H5 σ2d σ2 ∧ RelC (kx X (P :: B)) ρ5 H5 c cz cv ∧ RelC (kx X (P :: B)) ρ5 H5 c1 z1 v1 ∧ H5 P = some (.lst aV) ∧ P ∉ ρ5 ∧
            RelDs (kx X (P :: B)) ρ5 H5 a5 aV ∧ compL (turnM cf gl σ2d (gSlots tg1) tg1 cond1 elt) (ds1.drop j) a5 S7 = .ok acc2 S3,
            ⟨ds1.length, by simp, by omega, ρ4, S6, acc, accV, x.trans x04, R4, rc.ext x04, (r2.ext x3).ext x4, hcc.ext x04, hc1, p4, n4, hacc.ext x04, by simpa using e12⟩, ?_⟩
          rintro j k H5 ⟨rfl, hj, ρ5, S7, a5, aV, x5, R5, r5, r6, h5, h6, p5, n5, ha5, e13⟩
          obtain ⟨q1, q2⟩ := hJ1 (P :: B) ρ5 H5 h6
          by_cases hjl : j < ds1.length
          · refine .inr ⟨(q1 j ds1[j] (by simp [hjl])).1, fun H' => ∃ ρ5 S7 a5 aV, Ext ρ1 H1 ρ5 H' ∧ Rel (kx X (P :: B)) ρ5 H' S7 ∧ RelSt (kx X (P :: B)) ρ5 H' σd σ ∧ RelSt (kx X (P :: B)) ρ5 H' σ2d σ2 ∧ RelC (kx X (P :: B)) ρ5 H' c cz cv ∧ RelC (kx X (P :: B)) ρ5 H' c1 z1 v1 ∧ H' P = some (.lst aV) ∧ P ∉ ρ5 ∧
              RelDs (kx X (P :: B)) ρ5 H' a5 aV ∧ compL (turnM cf gl σ2d (gSlots tg1) tg1 cond1 elt) (ds1.drop (j + 1)) a5 S7 = .ok acc2 S3, fun H' h => ⟨ds1.length - (j + 1), by omega, rfl, hjl, h⟩, fun y1 H6 hy1 => ?_⟩
            obtain ⟨k3, k4⟩ := (q1 j ds1[j] (by simp [hjl])).2 y1 H6 hy1
            have xt : Ext ρ5 H5 ρ5 H6 := Ext.same k3
            rw [List.drop_eq_getElem_cons hjl] at e13
            unfold compL at e13
            obtain ⟨o, S8, e14, e15⟩ := bnd_ok e13
            have hz : aV.length < sizeLine ∨ o = none := by
              cases o with
              | none => exact .inr rfl
              | some y =>
                obtain ⟨z, _⟩ := gd_ok e15
                rw [← ha5.length]
                exact .inl (of_decide_eq_true z)
            refine turn_ok (fun i hi => hi) (R5.keep xt k3) (r6.ext xt) k4 (k3 _ _ p5) n5 hz e14 fun ρ7 H7 x7 R7 p7 n7 => ?_
            have x8 : Ext ρ5 H5 ρ7 H7 := xt.trans x7
            cases o with
            | none => exact ⟨ρ7, S8, a5, aV, x5.trans x8, R7, r5.ext x8, r6.ext x8, h5.ext x8, h6.ext x8, p7, n7, ha5.ext x8, e15⟩
            | some z =>
              obtain ⟨_, e16⟩ := gd_ok e15
              intro v hv
              have F : Fil H7 P := .inl ⟨aV, p7⟩
              have f := RelDs.fill (u := .lst (aV ++ [v])) F ((ha5.ext x8).app (RelDs.one hv))
              exact ⟨ρ7, S8, a5 ++ [z], aV ++ [v], (x5.trans x8).fill hP, R7.fill n7 _ F, (r5.ext x8).fill _ F, (r6.ext x8).fill _ F, RelC.fill _ F (h5.ext x8), RelC.fill _ F (h6.ext x8), upd_same, n7, f, e16⟩
          · have e : j = ds1.length := by omega
            subst e
            rw [List.drop_length] at e13
            obtain ⟨rfl, rfl⟩ := ret_ok e13
            exact .inl ⟨q2, ρ5, _, _, aV, x5, R5, r5, h5, p5, n5, ha5, e6⟩
    · have e : i = ds.length := by omega
      subst e
      rw [List.drop_length] at ec
      obtain ⟨rfl, rfl⟩ := ret_ok ec
      exact .inl ⟨j2, comp_end hP hB x Rc hPc nc hacc e4 p⟩
end
end MI
set_option Elab.async false
set_option linter.all false
set_option maxRecDepth 100000
set_option maxHeartbeats 8000000
namespace MI
open PySem PySem.Spec PyProof.Rows L2
section
variable [XT] {T : Str → Option Fn} {gl : Str → Option D} {n : Nat} {C : TC}
theorem each_plain {e : Expr} {es : List Expr} (h : isStar e = false) (env : PySem.Env) : assignEach (e :: es) env = (false, assign e env) :: assignEach es env := by
  cases e <;> first | rfl | cases h
theorem gs_plain {e : Expr} {es : List Expr} {sc : Scope} (h : isStar e = false) : trGs C (e :: es) sc = trG C e sc :: trGs C es sc := by
  cases e <;> first | (rw [trGs.eq_def]; done) | (rw [trGs.eq_def]; rfl) | cases h
theorem sok_plain {e : Expr} {es : List Expr} {sc : Scope} (h : isStar e = false) : starsOk C sc (e :: es) = starsOk C sc es := by
  cases e <;> first | (rw [starsOk]; done) | (rw [starsOk.eq_def]; done) | (exact absurd (show true = false from h) (by decide))
theorem notStn {e : Expr} {sc : Scope} : ∀ m i, trG C e sc ≠ .stn m i := by
  intro m i h
  cases e with
  | Name x p => rw [trG] at h; cases hs : slotL C sc x <;> rw [hs] at h <;> cases h
  | Tuple es k p => rw [trG] at h; split at h <;> cases h
  | Subscript o i p => cases i <;> (rw [trG.eq_def] at h; cases h)
  | _ => rw [trG.eq_def] at h; cases h
theorem starAt_cons {g : MG} {gs : List MG} (h : ∀ m i, g ≠ .stn m i) : starAt (g :: gs) = (starAt gs).map fun p => (p.1 + 1, p.2) := by
  cases g <;> first | rfl | exact absurd rfl (h _ _)
theorem findIdx_f {α : Type} {xs : List (Bool × α)} {y : α} : ((false, y) :: xs).findIdx? (·.1) = (xs.findIdx? (·.1)).map (· + 1) := by
  rw [List.findIdx?_cons]; rfl
theorem ok_targets {sc : Scope} {X : Cx} (g : Good T gl n C sc X) : ∀ {es : List Expr}, (∀ e ∈ es, Ok T gl n C e) → starsOk C sc es = true →
    PGs X es (tGts X (callN T gl n) gl (trGs C es sc)) ∧ (assignEach es X.env).findIdx? (·.1) = (starAt (trGs C es sc)).map (·.1) ∧ (assignEach es X.env).length = (trGs C es sc).length ∧ ∀ q, starAt (trGs C es sc) = some q → q.1 < (trGs C es sc).length
  | [], _, _ => by
    rw [trGs]
    exact ⟨k_gnil, rfl, rfl, fun q h => nomatch h⟩
  | e :: es, h, hs => by
    by_cases st : isStar e = true
    · cases e with
      | Starred t pos =>
        cases t with
        | Name x p =>
          rw [starsOk] at hs
          rw [Bool.and_eq_true] at hs
          obtain ⟨i1, i2, i3, i4⟩ := ok_targets g (es := es) (fun e he => h e (List.mem_cons_of_mem _ he)) hs.2
          obtain ⟨i, hi⟩ := Option.isSome_iff_exists.mp hs.1
          obtain ⟨l1, l2, l3⟩ := g.lc hi
          have eg : trGs C (.Starred (.Name x p) pos :: es) sc = .stn (C.m pos) i :: trGs C es sc := by rw [trGs, hi]; rfl
          rw [eg]
          refine ⟨k_gcons (a := .Name x p) rfl (k_gname (.inr ⟨_, rfl⟩) g.nd l1 l2 l3) i1, ?_, by simp [assignEach, i3], fun q hq => ?_⟩
          · show List.findIdx? _ ((true, assign (.Name x p) X.env) :: assignEach es X.env) = _
            rw [List.findIdx?_cons]
            rfl
          · have : q = (0, C.m pos) := by
              unfold starAt at hq
              exact (Option.some.inj hq).symm
            rw [this]
            simp
        | _ => rw [starsOk.eq_def] at hs; cases hs
      | _ => cases st
    · have st : isStar e = false := by simpa using st
      rw [sok_plain st] at hs
      obtain ⟨i1, i2, i3, i4⟩ := ok_targets g (es := es) (fun e he => h e (List.mem_cons_of_mem _ he)) hs
      rw [gs_plain st, each_plain st]
      refine ⟨k_gcons (by rw [each_plain st]; rfl) (h e List.mem_cons_self sc X g).2 i1, ?_, by simp [i3], fun q hq => ?_⟩
      · rw [findIdx_f, i2, starAt_cons notStn]
        cases starAt (trGs C es sc) <;> rfl
      · rw [starAt_cons notStn] at hq
        cases hz : starAt (trGs C es sc) with
        | none => rw [hz] at hq; cases hq
        | some r =>
          rw [hz] at hq
          cases hq
          have := i4 _ hz
          simp
          exact this
theorem blkOk_sc {N : List Str} {sc sc' scope : Scope} {fn : Str → Bool} {own : List (Str × Nat)} (h : BlkOk N sc scope own) (q : ScOk sc sc' fn) : BlkOk N sc' scope own :=
  ⟨h.kind, h.uniq, h.ix, fun y hy e => (h.free y hy e).elim (fun z => .inl (q.cel _ z).1) fun z => q.fre _ z, h.own⟩
/-- a comprehension -/
theorem ok_comp {sc : Scope} {X : Cx} (g : Good T gl n C sc X) {elt tg it : Expr} {ifs : List Expr} {cond : MC} {scope : Scope} {pos : Pos} (htg : Ok T gl n C tg) (hit : Ok T gl n C it) (helt : Ok T gl n C elt)
    (hif : ∀ X', Good T gl n C scope X' → PTs X' ifs (tT X' (callN T gl n) gl cond))
    (heq : trE C (.ListComp elt [⟨tg, it, ifs, 0⟩] scope pos) sc = if (blkC C.N sc scope (ownOf C scope) && tgOk tg it && (gSlots (trG C tg scope)).all fun i => (ownOf C scope).any fun p => p.2 == i) = true then
      val (.comp (C.m pos) ((ownOf C scope).map (·.2)) (trG C tg scope) (.it (trE C it sc).1) cond (trE C elt scope).1) else bad) : OkE X C (callN T gl n) gl sc (.ListComp elt [⟨tg, it, ifs, 0⟩] scope pos) := by
  split at heq
  · rename_i hc
    simp only [Bool.and_eq_true] at hc
    obtain ⟨⟨h1, h2⟩, h3⟩ := hc
    unfold tgOk at h2
    simp only [Bool.and_eq_true, Bool.not_eq_true', Bool.or_eq_true] at h2
    have hset := h2.1
    have hpi := (hit sc X g).1.pi tg fun z => h2.2.elim (fun q => by rw [q] at z; cases z) id
    have ho : ∀ i ∈ gSlots (trG C tg scope), i ∈ (ownOf C scope).map (·.2) := fun i hi => by
      have := List.all_eq_true.mp h3 i hi
      obtain ⟨q, hq, e⟩ := List.any_eq_true.mp this
      exact List.mem_map.mpr ⟨q, hq, eq_of_beq e⟩
    have hb : BlkOk X.N X.env.scope scope (ownOf C scope) := by rw [g.N]; exact blkOk_sc (blkOk_by h1) g.scs
    have hg := fun (s : Shared) (H : Hp) (A : Addr) (cl : List (Str × Addr)) (fp : List Addr) => (htg scope _ (g.blk (scope := scope) s H A cl fp)).2
    have he := fun (s : Shared) (H : Hp) (A : Addr) (cl : List (Str × Addr)) (fp : List Addr) => (helt scope _ (g.blk (scope := scope) s H A cl fp)).1.pe
    have ht := fun (s : Shared) (H : Hp) (A : Addr) (cl : List (Str × Addr)) (fp : List Addr) => hif _ (g.blk (scope := scope) s H A cl fp)
    have pe : PE X (.ListComp elt [⟨tg, it, ifs, 0⟩] scope pos) (tE X (callN T gl n) gl (.comp (C.m pos) ((ownOf C scope).map (·.2)) (trG C tg scope) (.it (trE C it sc).1) cond (trE C elt scope).1)) :=
      (pe_lc g.calm g.nd hpi hb hg ht he (set_fold hset _)).imp (comp_imp ho)
    refine ⟨?_, ?_, fun t _ => ?_, fun _ i y py spos hi hy hsw => ?_⟩ <;> rw [heq]
    · exact pe
    · exact k_truth pe (by intro _; rfl)
    · exact k_pi (it_gen rfl) pe
    · exact (ps_setLc g.calm g.nd hi hy hsw hpi hb hg ht he (set_fold hset _)).imp fun D σ H h => comp_imp ho _ _ _ h
  · exact ok_bad heq
/-- two clauses -/
theorem ok_comp2 {sc : Scope} {X : Cx} (g : Good T gl n C sc X) {elt tg it tg1 it1 : Expr} {ifs1 : List Expr} {cond1 : MC} {scope : Scope} {pos : Pos} (htg : Ok T gl n C tg) (hit : Ok T gl n C it) (htg1 : Ok T gl n C tg1) (hit1 : Ok T gl n C it1) (helt : Ok T gl n C elt)
    (hif1 : ∀ X', Good T gl n C scope X' → PTs X' ifs1 (tT X' (callN T gl n) gl cond1))
    (heq : trE C (.ListComp elt [⟨tg, it, [], 0⟩, ⟨tg1, it1, ifs1, 0⟩] scope pos) sc = if (blkC C.N sc scope (ownOf C scope) && tgOk tg it && tgOk tg1 it1 && ((gSlots (trG C tg scope)).all fun i => (ownOf C scope).any fun p => p.2 == i) && ((gSlots (trG C tg1 scope)).all fun i => (ownOf C scope).any fun p => p.2 == i)) = true then
      val (.comp2 (C.m pos) ((ownOf C scope).map (·.2)) (trG C tg scope) (.it (trE C it sc).1) (.val (.bl true)) (trG C tg1 scope) (.it (trE C it1 scope).1) cond1 (trE C elt scope).1) else bad) : OkE X C (callN T gl n) gl sc (.ListComp elt [⟨tg, it, [], 0⟩, ⟨tg1, it1, ifs1, 0⟩] scope pos) := by
  split at heq
  · rename_i hc
    simp only [Bool.and_eq_true] at hc
    obtain ⟨⟨⟨⟨h1, h2⟩, h4⟩, h3⟩, h5⟩ := hc
    unfold tgOk at h2 h4
    simp only [Bool.and_eq_true, Bool.not_eq_true', Bool.or_eq_true] at h2 h4
    have hpi := (hit sc X g).1.pi tg fun z => h2.2.elim (fun q => by rw [q] at z; cases z) id
    have sub : ∀ {G : MG}, ((gSlots G).all fun i => (ownOf C scope).any fun p => p.2 == i) = true → ∀ i ∈ gSlots G, i ∈ (ownOf C scope).map (·.2) := fun {G} h i hi => by
      obtain ⟨q, hq, e⟩ := List.any_eq_true.mp (List.all_eq_true.mp h i hi)
      exact List.mem_map.mpr ⟨q, hq, eq_of_beq e⟩
    have ho := sub h3
    have hv := sub h5
    have hb : BlkOk X.N X.env.scope scope (ownOf C scope) := by rw [g.N]; exact blkOk_sc (blkOk_by h1) g.scs
    have hg := fun (s : Shared) (H : Hp) (A : Addr) (cl : List (Str × Addr)) (fp : List Addr) => (htg scope _ (g.blk (scope := scope) s H A cl fp)).2
    have hg1 := fun (s : Shared) (H : Hp) (A : Addr) (cl : List (Str × Addr)) (fp : List Addr) => (htg1 scope _ (g.blk (scope := scope) s H A cl fp)).2
    have hi1 := fun (s : Shared) (H : Hp) (A : Addr) (cl : List (Str × Addr)) (fp : List Addr) => (hit1 scope _ (g.blk (scope := scope) s H A cl fp)).1.pi tg1 fun z => h4.2.elim (fun q => by rw [q] at z; cases z) id
    have he := fun (s : Shared) (H : Hp) (A : Addr) (cl : List (Str × Addr)) (fp : List Addr) => (helt scope _ (g.blk (scope := scope) s H A cl fp)).1.pe
    have ht := fun (s : Shared) (H : Hp) (A : Addr) (cl : List (Str × Addr)) (fp : List Addr) => k_yes (X := X.blk s H scope (compEnvC scope cl A X.env) fp) (cf := callN T gl n) (gl := gl)
    have ht1 := fun (s : Shared) (H : Hp) (A : Addr) (cl : List (Str × Addr)) (fp : List Addr) => hif1 _ (g.blk (scope := scope) s H A cl fp)
    have pe : PE X (.ListComp elt [⟨tg, it, [], 0⟩, ⟨tg1, it1, ifs1, 0⟩] scope pos) (tE X (callN T gl n) gl (.comp2 (C.m pos) ((ownOf C scope).map (·.2)) (trG C tg scope) (.it (trE C it sc).1) (.val (.bl true)) (trG C tg1 scope) (.it (trE C it1 scope).1) cond1 (trE C elt scope).1)) :=
      (pe_lc2 g.calm g.nd hpi hb hv hg ht hi1 hg1 ht1 he (set_fold h2.1 _) fun env => set_fold h4.1 env).imp (comp2_imp ho)
    refine ⟨?_, ?_, fun t _ => ?_, fun _ i y py spos hi hy hsw => ?_⟩ <;> rw [heq]
    · exact pe
    · exact k_truth pe (by intro _; rfl)
    · exact k_pi (it_gen rfl) pe
    · exact (ps_setLc2 g.calm g.nd hi hy hsw hpi hb hv hg ht hi1 hg1 ht1 he (set_fold h2.1 _) fun env => set_fold h4.1 env).imp fun D σ H h => comp2_imp ho _ _ _ h
  · exact ok_bad heq
end
end MI
set_option Elab.async false
set_option linter.all false
set_option maxRecDepth 100000
set_option maxHeartbeats 3200000
/-! sets of keys of any kind whose order can be told; sorted(set(texts)) -/
namespace STX
open PySem PySem.Spec PyProof.Rows L2
section
variable {P : Program} {w : World} {K : Type} [DecidableEq K] {knd : KeyKind P w K}
/-- no key twice -/
def Apart (knd : KeyKind P w K) (l : List (Int × Value)) : Prop := l.Pairwise fun e e' => ∀ k, knd.is k e.2 = true → knd.is k e'.2 = false
theorem Apart.perm {l m : List (Int × Value)} (h : Apart knd l) (p : l.Perm m) : Apart knd m := by
  refine (p.pairwise_iff fun {x y} q k hk => ?_).mp h
  cases e : knd.is k x.2 with
  | false => rfl
  | true => rw [q k e] at hk; cases hk
/-- what is known of the object: its members, in some order -/
structure Held (knd : KeyKind P w K) (es : Array (Int × Value)) (t : SetTable) (S : K → Bool) (n : Nat) : Prop where
  el : ElemsOf knd es.toList
  ap : Apart knd es.toList
  mem : ∀ k, S k = true ↔ ∃ e ∈ es.toList, knd.is k e.2 = true
  few : es.size < scanBound
  fit : t.fits es.size = true
  sz : es.size = n
  ris : Ris t.place.toList
  led : w.params.followText "set-order" = true ∨ t.led = true
def SetX (knd : KeyKind P w K) (h : Heap) (a : Addr) (S : K → Bool) (n : Nat) : Prop := ∃ o es ep t, h.get? a = some o ∧ o.ExactSet ∧ o.data = .set es ep t ∧ Held knd es t S n
theorem SetX.at {h h' : Heap} {a : Addr} {S : K → Bool} {n : Nat} (R : SetX knd h a S n) (k : ∀ o, h.get? a = some o → h'.get? a = some o) : SetX knd h' a S n := by
  obtain ⟨o, es, ep, t, ho, r⟩ := R
  exact ⟨o, es, ep, t, k o ho, r⟩
theorem SetX.congr {h : Heap} {a : Addr} {S S' : K → Bool} {n : Nat} (R : SetX knd h a S n) (e : ∀ k, S' k = S k) : SetX knd h a S' n := by
  rw [show S' = S from funext e]
  exact R
theorem Held.perm {es es' : Array (Int × Value)} {t t' : SetTable} {S : K → Bool} {n : Nat} (R : Held knd es t S n) (p : es'.toList.Perm es.toList) (hf : t'.fits es'.size = true) (hr : Ris t'.place.toList) (hl : w.params.followText "set-order" = true ∨ t'.led = true) : Held knd es' t' S n := by
  have e : es'.size = es.size := by rw [← Array.length_toList, p.length_eq, Array.length_toList]
  exact ⟨fun x hx => R.el x (p.mem_iff.mp hx), R.ap.perm p.symm, fun k => (R.mem k).trans ⟨fun ⟨x, hx, q⟩ => ⟨x, p.mem_iff.mpr hx, q⟩, fun ⟨x, hx, q⟩ => ⟨x, p.mem_iff.mp hx, q⟩⟩, by rw [e]; exact R.few, hf, by rw [e]; exact R.sz, hr, hl⟩
theorem Held.push {es es1 : Array (Int × Value)} {t t1 : SetTable} {S : K → Bool} {n : Nat} {k : K} {v : Value} (R : Held knd es t S n) (hk : knd.is k v = true) (hsc : v.scannable = true) (hS : S k = false) (room : n + 1 < scanBound)
    (p : es1.toList.Perm ((knd.hash k, v) :: es.toList)) (hf : t1.fits es1.size = true) (hr : Ris t1.place.toList) (hl : w.params.followText "set-order" = true ∨ t1.led = true) : Held knd es1 t1 (fun j => S j || decide (j = k)) (n + 1) := by
  have hno : ∀ e ∈ es.toList, knd.is k e.2 = false := fun e he => by
    cases q : knd.is k e.2 with
    | false => rfl
    | true =>
      have := (R.mem k).mpr ⟨e, he, q⟩
      rw [hS] at this
      cases this
  have hsz : es1.size = n + 1 := by rw [← Array.length_toList, p.length_eq, List.length_cons, Array.length_toList, R.sz]
  refine ⟨fun x hx => ?_, Apart.perm (l := (knd.hash k, v) :: es.toList) (List.pairwise_cons.mpr ⟨fun e he j hj => ?_, R.ap⟩) p.symm, fun j => ?_, by rw [hsz]; exact room, hf, hsz, hr, hl⟩
  · rcases List.mem_cons.mp (p.mem_iff.mp hx) with z | z
    · rw [z]; exact ⟨⟨k, hk, rfl⟩, hsc⟩
    · exact R.el x z
  · have hj' : knd.is j v = true := hj
    rw [knd.inj v j k hj' hk]
    exact hno e he
  · rw [Bool.or_eq_true, decide_eq_true_eq, R.mem j]
    constructor
    · rintro (⟨e, he, q⟩ | rfl)
      · exact ⟨e, p.mem_iff.mpr (List.mem_cons_of_mem _ he), q⟩
      · exact ⟨_, p.mem_iff.mpr List.mem_cons_self, hk⟩
    · rintro ⟨e, he, q⟩
      rcases List.mem_cons.mp (p.mem_iff.mp he) with z | z
      · rw [z] at q
        exact .inr (knd.inj v j k q hk)
      · exact .inl ⟨e, z, q⟩
variable {A : Around} {E : Value → Shared → Prop} {s : Shared} {a : Addr} {S : K → Bool} {n : Nat}
theorem put_at {h : Heap} {o : Obj} {es es' : Array (Int × Value)} {ep : Nat} {t t' : SetTable} (ho : h.get? a = some o) (hd : o.data = .set es ep t) : (h.update a (Obj.putSet es' t')).get? a = some { o with data := .set es' (ep + 1) t' } := L2.store_at ho hd
theorem add_end {g : Bool → Sem Unit} (hg : ∀ (b : Bool) (s₁ : Shared) (Q' : Unit → Shared → Prop), Q' () s₁ → wpAny (model P w) A (g b) Q' E s₁) {o : Obj} {es es1 : Array (Int × Value)} {ep : Nat} {t t2 : SetTable} (ho : s.heap.get? a = some o) (hex : o.ExactSet) (hd : o.data = .set es ep t)
    (R : Held knd es1 t2 S n) {wasDummy : Bool} {C : Option Bool → Shared → Prop} (hC : ∀ h', Heap.SameBut a s.heap h' → SetX knd h' a S n → C (some true) { s with heap := h' }) :
    wpAny (model P w) A (do
        storeSet a es1 t2
        if (!wasDummy && t2.tooFull) = true then do
            g (relayAll t2 es1 (SetTable.grown es1.size)).2.2
            storeSet a (relayAll t2 es1 (SetTable.grown es1.size)).1 (relayAll t2 es1 (SetTable.grown es1.size)).2.1
            pure (some true)
          else pure (some true)) C E s := by
  refine wpAny_bind (wpAny_storeSet_of ho hd ?_ (fits_of_scanBound R.few))
  have ho1 := put_at (es' := es1) (t' := t2) ho hd
  have sb1 := Heap.SameBut.update s.heap a (Obj.putSet es1 t2)
  split
  · have pm := relayAll_perm t2 es1 (SetTable.grown es1.size)
    have R2 := R.perm pm (relayAll_fits t2 es1 (SetTable.grown es1.size)) (relayAll_ris t2 es1 (SetTable.grown es1.size)) (R.led.imp id fun z => by rw [relayAll_led]; exact z)
    generalize relayAll t2 es1 (SetTable.grown es1.size) = Z at R2 ⊢
    obtain ⟨es2, t3, gave⟩ := Z
    refine wpAny_bind (hg _ _ _ ?_)
    refine wpAny_bind (wpAny_storeSet_of ho1 rfl ?_ (fits_of_scanBound R2.few))
    exact wpAny_pure (hC _ (sb1.trans (Heap.SameBut.update _ a _)) ⟨_, es2, _, t3, put_at (es' := es2) (t' := t3) ho1 rfl, hex, rfl, R2⟩)
  · exact wpAny_pure (hC _ sb1 ⟨_, es1, _, t2, ho1, hex, rfl, R⟩)
theorem add_key {k : K} {v : Value} {Q : Bool → Shared → Prop} (hkey : knd.is k v = true) (hsc : v.scannable = true) (R : SetX knd s.heap a S n) (room : n + 1 < scanBound)
    (hQ : ∀ h', Heap.SameBut a s.heap h' → SetX knd h' a (fun j => S j || decide (j = k)) (if S k = true then n else n + 1) → Q (!S k) { s with heap := h' }) :
    wpAny (model P w) A (setAddHashed a v (knd.hash k)) Q E s := by
  obtain ⟨o, es, ep, t, ho, hex, hd, R⟩ := R
  unfold setAddHashed setAddHashedIn
  refine wpAny_holding (wpAny_bind (wpAny_setState_of ho hd R.fit ?_))
  dsimp only
  rw [byScan_of hsc R.few R.el]
  simp only [↓reduceIte]
  unfold setAddByScan
  refine wpAny_bind ?_
  refine wpAny_bind (wpAny_rule ?_)
  refine wpAny_bind (wpAny_setScan_of hkey ho hd R.fit R.el ?_)
  cases hfi : List.findIdx? (fun e => knd.is k e.2) es.toList with
  | some j =>
    dsimp only
    obtain ⟨hj, pj, _⟩ := List.findIdx?_eq_some_iff_getElem.mp hfi
    have hSk : S k = true := (R.mem k).2 ⟨es.toList[j], List.getElem_mem hj, pj⟩
    refine wpAny_pure (wpAny_pure ?_)
    have q := hQ s.heap (Heap.SameBut.refl a s.heap) (SetX.congr (S := S) ⟨o, es, ep, t, ho, hex, hd, by rw [if_pos hSk]; exact R⟩ fun i => by
      by_cases e : i = k
      · rw [e, hSk]; rfl
      · rw [decide_eq_false e, Bool.or_false])
    rw [hSk] at q
    exact q
  | none =>
    dsimp only
    have hSk : S k = false := by
      cases q : S k with
      | false => rfl
      | true =>
        obtain ⟨e, he, z⟩ := (R.mem k).1 q
        have c := List.findIdx?_eq_none_iff.mp hfi e he
        rw [z] at c
        cases c
    have hgw : ∀ (b : Bool) {s₁ : Shared} {Q' : Unit → Shared → Prop}, Q' () s₁ → wpAny (model P w) A (match b with | true => rule "set.scan.the-table-gave-way" | false => pure ()) Q' E s₁ :=
      fun b s₁ Q' q => by cases b <;> first | exact wpAny_pure q | exact wpAny_rule q
    have pm := layNew_perm t es (knd.hash k) v
    have hf1 := layNew_fits t es (knd.hash k) v
    have hr1 := layNew_ris t es (knd.hash k) v R.ris
    have hl1 := layNew_led t es (knd.hash k) v
    generalize layNew t es (knd.hash k) v = Z at pm hf1 hr1 hl1 ⊢
    obtain ⟨es1, t1, wasDummy, gave⟩ := Z
    dsimp only at pm hf1 hr1 hl1 ⊢
    rw [Array.toList_push] at pm
    have pc : es1.toList.Perm ((knd.hash k, v) :: es.toList) := pm.trans (List.perm_append_singleton _ _)
    have hled : w.params.followText "set-order" = true ∨ t1.led = true := R.led.imp id fun z => by rw [hl1]; exact z
    have R1 : Held knd es1 t1 (fun j => S j || decide (j = k)) (n + 1) := R.push hkey hsc hSk room pc hf1 hr1 hled
    have R1' : Held knd es1 { t1 with plain := false } (fun j => S j || decide (j = k)) (n + 1) := R.push hkey hsc hSk room pc (SetTable.fits_plain_off hf1) hr1 hled
    have fin : ∀ h', Heap.SameBut a s.heap h' → SetX knd h' a (fun j => S j || decide (j = k)) (n + 1) → Q true { s with heap := h' } := fun h' sb r => by
      have q := hQ h' sb
      rw [hSk] at q
      exact q r
    refine wpAny_bind (hgw _ ?_)
    split
    · refine wpAny_bind ?_
      rw [hashByValue_scannable 8 hsc]
      refine wpAny_pure ?_
      refine add_end (knd := knd) (S := fun j => S j || decide (j = k)) (n := n + 1) ?_ ho hex hd ?_ ?_
      · intro b s₁ Q' q; cases b <;> first | exact wpAny_pure q | exact wpAny_rule q
      · first | exact R1 | exact R1' | (split <;> first | exact R1 | exact R1')
      · intro h' sb r; dsimp only; exact wpAny_pure (fin h' sb r)
    · refine wpAny_bind (wpAny_pure ?_)
      simp only [↓reduceIte]
      refine add_end (knd := knd) (S := fun j => S j || decide (j = k)) (n := n + 1) ?_ ho hex hd R1 ?_
      · intro b s₁ Q' q; cases b <;> first | exact wpAny_pure q | exact wpAny_rule q
      · intro h' sb r; dsimp only; exact wpAny_pure (fin h' sb r)
theorem new_at {h : Heap} (ho : h.get? a = some { cls := .type "set", dict := none, data := .set #[] 0 (.fresh 0 0 (!w.params.followText "set-order")) }) : SetX knd h a (fun _ => false) 0 :=
  ⟨_, #[], 0, _, ho, ⟨rfl, rfl, rfl⟩, rfl, (fun e he => by simp at he), List.Pairwise.nil, (fun k => by simp), (by decide), (by rfl), rfl, List.Pairwise.nil, by
    show _ ∨ (!w.params.followText "set-order") = true
    cases w.params.followText "set-order"
    · exact .inr rfl
    · exact .inl rfl⟩
/-- the items are put in, one by one -/
theorem put_all {I : Addr} {fp wr : List Addr} {G : Array GenState → Array GenState → Prop} {m : Nat} {Pv : Nat → Value → Prop} {St : Nat → Shared → Prop} {C : Result → Shared → Prop} (W : WalksS P w A.in1 I fp wr G m Pv St) (D : Addr) (hD : D ∉ fp)
    (ks : List K) (hm : m = ks.length) (hb : ks.length + 1 < scanBound) (hval : ∀ i v, Pv i v → ∃ k, ks[i]? = some k ∧ knd.is k v = true ∧ v.scannable = true) :
    ∀ (j i : Nat) (s : Shared), m - i = j → i ≤ m → St i s → (∃ c, c ≤ i ∧ SetX knd s.heap D (fun k => decide (k ∈ ks.take i)) c) →
      (∀ s' c, Moved (D :: wr) G s s' → c ≤ m → SetX knd s'.heap D (fun k => decide (k ∈ ks)) c → C (.ok (.ret .none)) s') →
      codeAny (model P w) A (.builtin "set.update.loop" ⟨[.ref D, .ref I], []⟩) C s := by
  have hDw : D ∉ wr := fun h => hD (W.sub _ h)
  have hsub : ∀ b ∈ wr, b ∈ D :: wr := fun b hb => List.mem_cons_of_mem _ hb
  intro j
  induction j with
  | zero =>
    intro i s hj hi hst ⟨c, hc, hS⟩ hC
    obtain rfl : i = m := by omega
    refine codeAny_builtin PyProof.Rows.F.entry_set_update_loop ?_
    rw [Around.under_plainId PyProof.Rows.F.plain_set_update_loop _]
    show wpAny _ A.in1 (pyNext (.ref I) >>= _) _ _ s
    refine wpAny_bind (W.done s _ _ hst fun s' hmv => ?_)
    show wpAny _ A.in1 (ret Value.none) _ _ s'
    rw [show ks.take i = ks from List.take_of_length_le (by omega)] at hS
    exact wpAny_pure (hC s' c (hmv.mono hsub) hc (hS.at fun o e => hmv.heap D o hDw e))
  | succ j ih =>
    intro i s hj hi hst ⟨c, hc, hS⟩ hC
    have hlt : i < m := by omega
    refine codeAny_builtin PyProof.Rows.F.entry_set_update_loop ?_
    rw [Around.under_plainId PyProof.Rows.F.plain_set_update_loop _]
    show wpAny _ A.in1 (pyNext (.ref I) >>= _) _ _ s
    refine wpAny_bind (W.item i s _ _ hlt hst fun v s' hP hst' hmv => ?_)
    obtain ⟨z, hz, hkz, hsz⟩ := hval i v hP
    have hS' : SetX knd s'.heap D (fun k => decide (k ∈ ks.take i)) c := hS.at fun o e => hmv.heap D o hDw e
    show wpAny _ A.in1 (holding [v] (setAdd D v) >>= _) _ _ s'
    refine wpAny_bind (wpAny_holding ?_)
    unfold setAdd
    refine wpAny_holding ?_
    refine wpAny_bind (knd.pyHash (k := z) hkz ?_)
    refine add_key (s := { s' with toks := s'.toks + 1 }) hkz hsz hS' (by omega) fun h' hsb hS2 => ?_
    have hS3 : SetX knd h' D (fun k => decide (k ∈ ks.take (i + 1))) (if decide (z ∈ ks.take i) = true then c else c + 1) := hS2.congr fun k => by
      rw [List.take_add_one, hz]
      simp [List.mem_append]
    have hc3 : (if decide (z ∈ ks.take i) = true then c else c + 1) ≤ i + 1 := by
      split <;> omega
    refine wpAny_pure ⟨plainId_quiet PyProof.Rows.F.plain_set_update_loop _, ih (i + 1) _ (by omega) hlt (W.frame _ s' _ _ hst' (Nat.le_succ _) fun b hb o e => ?_) ⟨_, hc3, hS3⟩ fun s'' c2 hm2 hc2 hS4 => ?_⟩
    · rw [hsb.2 b (fun h : b = D => hD (by rw [← h]; exact hb))]
      exact e
    · refine hC s'' c2 (Moved.trans W.gtrans ((hmv.mono hsub).then_heap (Nat.le_succ _) fun b o hb e => ?_) hm2) hc2 hS4
      rw [hsb.2 b (fun h : b = D => hb (by rw [h]; exact List.mem_cons_self))]
      exact e
/-- set(xs) of a list -/
theorem call_set {l : Addr} {items : Array Value} (ks : List K) {Q : Value → Shared → Prop} (hh : A.handled = none) (hl : s.heap.IsList l items) (hlen : items.size = ks.length) (hit : ∀ (i : Nat) (v : Value), items[i]? = some v → ∃ k, ks[i]? = some k ∧ knd.is k v = true ∧ v.scannable = true) (hb : ks.length + 1 < scanBound)
    (h : ∀ (h' : Heap) (tk c : Nat), SetX knd h' s.heap.objs.size (fun j => decide (j ∈ ks)) c → c ≤ ks.length → (∀ b o, s.heap.get? b = some o → h'.get? b = some o) → Q (.ref s.heap.objs.size) { s with heap := h', toks := tk }) :
    wpAny (model P w) A (call (.type "set") [.ref l]) Q E s := by
  obtain ⟨c, tl, hmro⟩ := PySem.F.called_set.mro
  have hmade := PySem.F.called_set.made
  have hsub := PySem.F.called_set.sub
  refine wpAny_call (codeAny_of_tree ?_)
  show wpAny _ _ (callAny (.type "set") _) _ _ _
  refine wpAny_pure ⟨Code.quiet_builtin _ (by decide +kernel), codeAny_builtin PySem.F.entry_type_call ?_⟩
  rw [Around.under_plain (weight_type_call_type "set" [.ref l] []) rfl]
  have h1 := PySem.F.called_set.notType
  have h2 := PySem.F.called_set.canCreate
  have hct := PySem.F.typeCall_set_1 (.ref l)
  repeat (any_goals (first | assumption | wp_step))
  refine codeAny_mono (code_set_led1 (.ref l) (E := E) (Q₁ := fun obj s₁ => obj = .ref s.heap.objs.size ∧ s₁ = { s with heap := s.heap.push { cls := .type "set", dict := none, data := .set #[] 0 (.fresh 0 0 (!w.params.followText "set-order")) } }) ⟨rfl, rfl⟩) fun r s₁ hr => ?_
  cases r with
  | error e => exact hr
  | ok fl =>
    cases fl with
    | ret obj =>
      obtain ⟨rfl, rfl⟩ := hr
      have hS : (s.heap.push { cls := .type "set", dict := none, data := .set #[] 0 (.fresh 0 0 (!w.params.followText "set-order")) }).get? s.heap.objs.size = some { cls := .type "set", dict := none, data := .set #[] 0 (.fresh 0 0 (!w.params.followText "set-order")) } := Heap.get?_push_size _ rfl
      have hT : Shared.TypeIs { s with heap := s.heap.push { cls := .type "set", dict := none, data := .set #[] 0 (.fresh 0 0 (!w.params.followText "set-order")) } } (.ref s.heap.objs.size) "set" := ⟨_, hS, rfl⟩
      have hli := PySem.F.called_set.init.lookup
      have hbi := PySem.F.called_set.init.bind (.ref s.heap.objs.size)
      repeat (any_goals (first | assumption | wp_step))
      refine codeAny_mono (codeAny_call_builtin (R := wants (fun r s₂ => r = .none ∧ ∃ h' tk c, s₂ = { s with heap := h', toks := tk } ∧ SetX knd h' s.heap.objs.size (fun j => decide (j ∈ ks)) c ∧ c ≤ ks.length ∧
          (∀ b o, s.heap.get? b = some o → h'.get? b = some o)) E) PySem.F.called_set.init.plain PySem.F.entry_set_init (check_set_init_1 hT ?_)) fun r₂ s₂ hr₂ => ?_
      · obtain ⟨ol, hol, hcl, nl, hdl⟩ := hl
        obtain ⟨ocls, odict, odata, oslots⟩ := ol
        simp only at hcl hdl
        subst hcl; subst hdl
        have hol' : (s.heap.push { cls := .type "set", dict := none, data := .set #[] 0 (.fresh 0 0 (!w.params.followText "set-order")) }).get? l = some { cls := .type "list", dict := odict, data := .seq items nl, slots := oslots } := Heap.get?_push_of_some _ hol
        have hsls := PySem.F.sub_list_set
        have hslf := PySem.F.sub_list_frozenset
        have hne : (Value.type "list" == Value.type "dict") = false := by decide
        have hl1 : (s.heap.push { cls := .type "set", dict := none, data := .set #[] 0 (.fresh 0 0 (!w.params.followText "set-order")) }).IsList l items := ⟨_, hol', rfl, nl, rfl⟩
        unfold Builtin.«set.__init__» noKeywords Builtin.Frozenset.updateFrom
        generalize hPI : pyIter = PI
        wp_walk
        subst hPI
        refine wpAny_pyIter_list hl1 ?_
        refine wpAny_bind (wpAny_runValue ?_)
        have hlS : l < s.heap.objs.size := Heap.lt_size hol
        have hh3 : A.in1.in1.in1.handled = none := by simp [hh]
        have hneI : l ≠ (s.heap.push { cls := .type "set", dict := none, data := .set #[] 0 (.fresh 0 0 (!w.params.followText "set-order")) }).objs.size := by
          rw [Heap.size_push]; exact Nat.ne_of_lt (Nat.lt_succ_of_lt hlS)
        have hSf : s.heap.objs.size ∉ [(s.heap.push { cls := .type "set", dict := none, data := .set #[] 0 (.fresh 0 0 (!w.params.followText "set-order")) }).objs.size, l] := by
          rw [Heap.size_push]; simp only [List.mem_cons, List.mem_singleton, List.not_mem_nil, or_false, not_or]
          exact ⟨Nat.ne_of_lt (Nat.lt_succ_self _), Nat.ne_of_gt hlS⟩
        refine put_all (knd := knd) ((Walks.list hh3 _ l hneI items).toS) s.heap.objs.size hSf ks hlen hb hit (items.size - 0) 0 _ (by omega) (Nat.zero_le _)
          ⟨⟨_, Heap.get?_push_size _ rfl, rfl, rfl⟩, (hl1.push _)⟩ ?hS0 ?hR
        case hS0 =>
          have hget : ((s.heap.push { cls := .type "set", dict := none, data := .set #[] 0 (.fresh 0 0 (!w.params.followText "set-order")) }).push { cls := .type "list_iterator", data := .fields #[.ref l, .int 0 0] }).get? s.heap.objs.size
              = some { cls := .type "set", dict := none, data := .set #[] 0 (.fresh 0 0 (!w.params.followText "set-order")) } := Heap.get?_push_of_some _ hS
          exact ⟨0, Nat.le_refl 0, (new_at (knd := knd) hget).congr fun k => by simp⟩
        case hR =>
          intro s' c' hm hc' hS'
          obtain ⟨h', g2, d', tk', os'⟩ := s'
          have eg : g2 = s.gens := hm.gens
          have ed : d' = s.drawn := hm.drawn
          have eo : os' = s.os := hm.os
          subst eg; subst ed; subst eo
          show wpAny _ _ _ _ _ _
          refine wpAny_pure ?_
          show wpAny _ _ (ret Value.none) _ _ _
          rw [hlen] at hc'
          refine wpAny_pure ⟨rfl, h', tk', c', rfl, hS', hc', fun b o e => ?_⟩
          have hb0 : b < s.heap.objs.size := Heap.lt_size e
          have hb1 : b ≠ s.heap.objs.size := Nat.ne_of_lt hb0
          have hb2 : b ≠ (s.heap.push { cls := .type "set", dict := none, data := .set #[] 0 (.fresh 0 0 (!w.params.followText "set-order")) }).objs.size := by
            rw [Heap.size_push]; exact Nat.ne_of_lt (Nat.lt_succ_of_lt hb0)
          exact hm.heap b o (by simp only [List.mem_cons, List.mem_singleton, List.not_mem_nil, or_false, not_or]; exact ⟨hb1, hb2⟩) (Heap.get?_push_of_some _ (Heap.get?_push_of_some _ e))
      · cases r₂ with
        | error e => exact hr₂
        | ok fl₂ =>
          cases fl₂ with
          | ret r =>
            obtain ⟨rfl, h', tk, c', rfl, hS', hc', hk'⟩ := hr₂
            repeat (any_goals (first | assumption | wp_step))
            exact h _ _ _ hS' hc' hk'
          | _ => exact hr₂.elim
    | _ => exact hr.elim
end
end STX

namespace STX
open PySem PySem.Spec PyProof.Rows L2
open PySem.W (EachIs)
open MI (leL dd ssort)
/-! texts in order -/
theorem leL_trans (a b c : List Nat) (h1 : leL a b = true) (h2 : leL b c = true) : leL a c = true := by
  unfold leL at *
  rw [decide_eq_true_eq] at *
  exact List.le_trans h1 h2
theorem leL_total (a b : List Nat) : (leL a b || leL b a) = true := by
  unfold leL
  rw [Bool.or_eq_true, decide_eq_true_eq, decide_eq_true_eq]
  exact List.le_total a b
theorem lt_of_le {a b : List Nat} (h : a ≤ b) (hne : a ≠ b) : a < b := by
  by_cases q : a < b
  · exact q
  · exact absurd (List.le_antisymm h (List.not_lt.mp q)) hne
theorem mem_dd : ∀ {xs : List (List Nat)} {a : List Nat}, a ∈ dd xs ↔ a ∈ xs
  | [], a => Iff.rfl
  | x :: xs, a => by
    unfold dd
    split
    · rename_i h
      rw [mem_dd, List.mem_cons]
      exact ⟨.inr, fun z => z.elim (fun e => e ▸ h) id⟩
    · rw [List.mem_cons, List.mem_cons, mem_dd]
theorem dd_nodup : ∀ xs : List (List Nat), (dd xs).Nodup
  | [] => List.nodup_nil
  | x :: xs => by
    unfold dd
    split
    · exact dd_nodup xs
    · rename_i h
      exact List.nodup_cons.mpr ⟨fun z => h (mem_dd.mp z), dd_nodup xs⟩
theorem dd_len : ∀ xs : List (List Nat), (dd xs).length ≤ xs.length
  | [] => Nat.le_refl _
  | x :: xs => by
    unfold dd
    have := dd_len xs
    split <;> simp only [List.length_cons] <;> omega
theorem mem_ssort {xs : List (List Nat)} {a : List Nat} : a ∈ ssort xs ↔ a ∈ xs := (List.mergeSort_perm _ _).mem_iff.trans mem_dd
theorem ssort_len (xs : List (List Nat)) : (ssort xs).length ≤ xs.length := by
  unfold ssort
  rw [(List.mergeSort_perm _ _).length_eq]
  exact dd_len xs
theorem strict_of {l : List (List Nat)} (h : l.Pairwise fun a b => leL a b = true) (d : l.Nodup) : l.Pairwise (· < ·) := by
  induction l with
  | nil => exact List.Pairwise.nil
  | cons a l ih =>
    obtain ⟨h1, h2⟩ := List.pairwise_cons.mp h
    obtain ⟨d1, d2⟩ := List.nodup_cons.mp d
    refine List.pairwise_cons.mpr ⟨fun b hb => lt_of_le (of_decide_eq_true (h1 b hb)) fun e => d1 (e ▸ hb), ih h2 d2⟩
theorem ssort_strict (xs : List (List Nat)) : (ssort xs).Pairwise (· < ·) :=
  strict_of (List.pairwise_mergeSort leL_trans leL_total _) ((List.mergeSort_perm _ _).nodup_iff.mpr (dd_nodup xs))
theorem eq_strict : ∀ {l m : List (List Nat)}, l.Pairwise (· < ·) → m.Pairwise (· < ·) → (∀ a, a ∈ l ↔ a ∈ m) → l = m
  | [], [], _, _, _ => rfl
  | [], b :: m, _, _, h => absurd ((h b).mpr List.mem_cons_self) (by simp)
  | a :: l, [], _, _, h => absurd ((h a).mp List.mem_cons_self) (by simp)
  | a :: l, b :: m, h1, h2, h => by
    obtain ⟨p1, p2⟩ := List.pairwise_cons.mp h1
    obtain ⟨q1, q2⟩ := List.pairwise_cons.mp h2
    have hab : a = b := by
      rcases List.mem_cons.mp ((h a).mp List.mem_cons_self) with e | e
      · exact e
      · rcases List.mem_cons.mp ((h b).mpr List.mem_cons_self) with e2 | e2
        · exact e2.symm
        · exact absurd (p1 b e2) (List.lt_asymm (q1 a e))
    subst hab
    refine congrArg (a :: ·) (eq_strict p2 q2 fun x => ⟨fun hx => ?_, fun hx => ?_⟩)
    · rcases List.mem_cons.mp ((h x).mp (List.mem_cons_of_mem _ hx)) with e | e
      · subst e; exact absurd (p1 x hx) (List.lt_irrefl _)
      · exact e
    · rcases List.mem_cons.mp ((h x).mpr (List.mem_cons_of_mem _ hx)) with e | e
      · subst e; exact absurd (q1 x hx) (List.lt_irrefl _)
      · exact e
section
variable {P : Program} {w : World} {A : Around} {E : Value → Shared → Prop} {s : Shared}
def txv : Value → Str
  | .str x _ => x
  | _ => ⟨#[]⟩
theorem sorted_texts {a : Addr} {S : Str → Bool} {n : Nat} {Q : Value → Shared → Prop} (R : SetX (PySem.strKind P w) s.heap a S n) (hh : A.handled = none) (hu : A.units + 64 < cLine)
    (hQ : ∀ s' p (out : List Value) (c : Nat) (ys : List Str), (∀ b o, s.heap.get? b = some o → s'.heap.get? b = some o) → s'.gens = s.gens → s'.os = s.os → s.heap.objs.size ≤ p → s'.heap.get? p = some (seqObj "list" out.toArray c) →
      EachIs (fun v y => ∃ t, v = Value.str y t) out ys → (ys.map fun y => y.cps.toList).Pairwise (· < ·) → (∀ k, k ∈ ys ↔ S k = true) → ys.length ≤ sizeLine → Q (.ref p) s') :
    wpAny (model P w) A (call (.builtin "sorted") [.ref a]) Q E s := by
  obtain ⟨o, es, ep, t, ho, hex, hd, H⟩ := R
  refine Calls.call_function_entry kind_sorted plain_sorted entry_sorted (args_sorted1 _) ?_
  unfold Builtin.«sorted»
  refine wpAny_bind (m := checkCount "sorted" 1 1 _) (wpAny_pure ?_)
  refine wpAny_bind (collect_set (A := A.in1) hh ⟨o, ho, hex.1, hd⟩ H.fit H.few H.ris H.led fun s1 vs k1 hz g1 o1 pm => ?_)
  have hvs : ∀ v ∈ vs, ∃ y tk, v = Value.str y tk := fun v hv => by
    obtain ⟨e, he, q⟩ := List.mem_map.mp (pm.mem_iff.mp hv)
    obtain ⟨⟨k, hk, _⟩, _⟩ := H.el e he
    obtain ⟨tk, ev⟩ := Value.isStrOf_shape (x := k) (v := e.2) hk
    exact ⟨k, tk, by rw [← q]; exact ev⟩
  have hvl : vs.length ≤ sizeLine := by
    rw [pm.length_eq, List.length_map, Array.length_toList]
    exact fits_of_scanBound H.few
  have hstr : ∀ {us : List Value}, (∀ v ∈ us, ∃ y tk, v = Value.str y tk) → EachIs (fun v y => ∃ t, v = Value.str y t) us (us.map txv) := fun {us} h => by
    induction us with
    | nil => exact .nil
    | cons v us ih =>
      obtain ⟨y, tk, e⟩ := h v List.mem_cons_self
      exact .cons ⟨tk, by rw [e]; rfl⟩ (ih fun u hu => h u (List.mem_cons_of_mem _ hu))
  have hR := hstr hvs
  have hisk : ∀ v ∈ vs, ∀ k, (PySem.strKind P w).is k v = true ↔ txv v = k := fun v hv k => by
    obtain ⟨y, tk, e⟩ := hvs v hv
    rw [e]
    constructor
    · intro q
      obtain ⟨t2, e2⟩ := Value.isStrOf_shape (x := k) (v := Value.str y tk) q
      injection e2 with e3 _
    · intro q
      have q : y = k := q
      subst q
      show Value.isStrOf y (.str y tk) = true
      simp [Value.isStrOf]
  have hnd : (vs.map txv).Nodup := by
    have pe : (es.toList.map fun e => txv e.2).Nodup := by
      refine List.pairwise_map.mpr (H.ap.imp_of_mem fun {x y} hx hy q e => ?_)
      have hx' : x.2 ∈ vs := pm.mem_iff.mpr (List.mem_map.mpr ⟨x, hx, rfl⟩)
      have hy' : y.2 ∈ vs := pm.mem_iff.mpr (List.mem_map.mpr ⟨y, hy, rfl⟩)
      have z1 := (hisk _ hx' (txv x.2)).mpr rfl
      have z2 := q _ z1
      have z3 := (hisk _ hy' (txv x.2)).mpr e.symm
      rw [z2] at z3
      cases z3
    have pp := pm.map txv
    rw [List.map_map] at pp
    exact pp.nodup_iff.mpr pe
  have hmem : ∀ k, k ∈ vs.map txv ↔ S k = true := fun k => by
    rw [H.mem k, List.mem_map]
    constructor
    · rintro ⟨v, hv, e⟩
      obtain ⟨x, hx, q⟩ := List.mem_map.mp (pm.mem_iff.mp hv)
      exact ⟨x, hx, by rw [q]; exact (hisk v hv k).mpr e⟩
    · rintro ⟨x, hx, q⟩
      have hv : x.2 ∈ vs := pm.mem_iff.mpr (List.mem_map.mpr ⟨x, hx, rfl⟩)
      exact ⟨x.2, hv, (hisk _ hv k).mp q⟩
  refine wpAny_bind (wpAny_newList ?_ hvl)
  have hoL : (s1.heap.push (seqObj "list" vs.toArray 0)).get? s1.heap.objs.size = some (seqObj "list" vs.toArray 0) := Heap.get?_push_size _ rfl
  generalize hB : vs.map txv = bs at *
  have er : ∀ h' : Heap, EachIs (fun v b => ∃ as, Reads h' v (PyData.str b) as) vs bs := fun h' => hR.mono fun v y ⟨t, e⟩ => by rw [e]; exact ⟨_, .str y t⟩
  have hal : PySem.W.AllAlike (bs.map PyData.str) := PySem.W.AllAlike.of fun b b' => by simp [PySem.W.alike]
  have so : PySem.W.Sortable (bs.map PyData.str) := PySem.W.Sortable.others fun b => ⟨(fun z => nomatch z), (fun _ z => nomatch z)⟩
  have hS := PySem.W.SortsAt.data (prog := P) (w := w) (A := A.in1.in1) (s := { s1 with heap := PySem.W.sortingHeap (s1.heap.push (seqObj "list" vs.toArray 0)) s1.heap.objs.size vs }) (PySem.W.each_map (R := fun v d => ∃ as, Reads (PySem.W.sortingHeap (s1.heap.push (seqObj "list" vs.toArray 0)) s1.heap.objs.size vs) v d as) PyData.str (er _)) hal so (fun d hd => by
    obtain ⟨b, _, rfl⟩ := List.mem_map.mp hd
    show A.units + 1 + 1 + 0 < cLine
    omega)
  refine wpAny_bind (wpAny_holding (wpAny_call_entry slot_list_sort ⟨_, hoL, rfl⟩ entry_list_sort (PySem.W.list_sort_vals (s := { s1 with heap := s1.heap.push (seqObj "list" vs.toArray 0) }) hoL hS hvl ⟨_, rfl, ?_⟩) (args_list_sort _)))
  have ho2 := PySem.W.sortVals_data (h' := PySem.W.sortingHeap (s1.heap.push (seqObj "list" vs.toArray 0)) s1.heap.objs.size vs) false hR (er _) hal
  have eL : PySem.W.dataLe false (fun b : Str => PyData.str b) = fun a b => leL a.cps.toList b.cps.toList := PySem.W.dataLe_str id
  have eL2 : PySem.W.dataLe false PyData.str = fun a b => leL a.cps.toList b.cps.toList := eL
  rw [eL2] at ho2
  have pms := List.mergeSort_perm bs (fun a b => leL a.cps.toList b.cps.toList)
  have hst : ((bs.mergeSort fun a b => leL a.cps.toList b.cps.toList).map fun y => y.cps.toList).Pairwise (· < ·) := by
    refine strict_of ?_ ?_
    · exact List.pairwise_map.mpr (List.pairwise_mergeSort (le := fun a b : Str => leL a.cps.toList b.cps.toList) (fun a b c => leL_trans _ _ _) (fun a b => leL_total _ _) bs)
    · refine List.pairwise_map.mpr ((pms.nodup_iff.mpr hnd).imp fun {x y} h e => h ?_)
      have h3 : x.cps = y.cps := Array.toList_inj.mp e
      cases x; cases y
      cases h3
      rfl
  obtain ⟨c, hc⟩ := sortedHeap_at (vs := vs) (out := (PySem.W.sortVals (PySem.W.dataKind (PySem.W.sortingHeap (s1.heap.push (seqObj "list" vs.toArray 0)) s1.heap.objs.size vs) (bs.map PyData.str)) false vs vs).toArray) hoL
  refine wpAny_pure ⟨_, rfl, hQ _ s1.heap.objs.size _ c _ (fun b u e => ?_) g1 o1 hz hc ho2 hst (fun k => pms.mem_iff.trans (hmem k)) ?_⟩
  · have q := k1 b u e
    have hlt := Heap.lt_size q
    show (sortedHeap (s1.heap.push (seqObj "list" vs.toArray 0)) s1.heap.objs.size vs _).get? b = some u
    rw [sortedHeap_old (Nat.ne_of_lt hlt) (by rw [size_push']; exact Nat.lt_succ_of_lt hlt)]
    exact Heap.get?_push_of_some _ q
  · rw [pms.length_eq, ← hR.length]
    exact hvl
end
end STX
set_option Elab.async false
set_option linter.all false
set_option maxRecDepth 100000
set_option maxHeartbeats 2000000
/-! sorted(set(e)), e[::2], e[1::2] -/
namespace STX
open PySem PySem.Spec PyProof.Rows L2 MI
theorem evens_pick {α : Type} : ∀ l : List α, (List.range ((l.length + 1) / 2)).filterMap (fun k => l[2 * k]?) = evens l
  | [] => by simp [evens]
  | [x] => by simp [evens]
  | x :: y :: r => by
    have e : ((x :: y :: r).length + 1) / 2 = (r.length + 1) / 2 + 1 := by simp only [List.length_cons]; omega
    rw [e, List.range_succ_eq_map, List.filterMap_cons]
    show x :: _ = x :: evens r
    congr 1
    rw [List.filterMap_map, ← evens_pick r]
    congr 1
theorem fm_congr {α β : Type} {f g : α → Option β} : ∀ {l : List α}, (∀ x ∈ l, f x = g x) → l.filterMap f = l.filterMap g
  | [], _ => rfl
  | x :: l, h => by
    rw [List.filterMap_cons, List.filterMap_cons, h x List.mem_cons_self, fm_congr fun y hy => h y (List.mem_cons_of_mem _ hy)]
theorem pick2_0 (items : Array Value) : slicePick items none none (some 2) = (evens items.toList).toArray := by
  unfold slicePick
  have hb : sliceBounds none none (some 2) items.size = (0, (items.size : Int), 2) := by simp [sliceBounds]
  rw [hb]
  show ((sliceRange 0 (items.size : Int) 2).filterMap (items[·]?)).toArray = _
  have hr : sliceRange 0 (items.size : Int) 2 = (List.range ((items.size + 1) / 2)).map fun k => 2 * k := by
    unfold sliceRange
    rw [if_pos (by decide)]
    have hc : (if (0 : Int) < (items.size : Int) then ((items.size : Int) - 0 + 2 - 1) / 2 else 0).toNat = (items.size + 1) / 2 := by
      split <;> omega
    show (List.range _).map _ = _
    rw [hc]
    refine List.map_congr_left fun k _ => ?_
    omega
  rw [hr, List.filterMap_map, ← evens_pick items.toList]
  simp only [Function.comp_def, Array.getElem?_toList, Array.length_toList]
theorem pick2_1 (items : Array Value) : slicePick items (some 1) none (some 2) = (evens (items.toList.drop 1)).toArray := by
  unfold slicePick
  have hb : sliceBounds (some 1) none (some 2) items.size = (max 0 (min 1 (items.size : Int)), (items.size : Int), 2) := by simp [sliceBounds]
  rw [hb]
  show ((sliceRange (max 0 (min 1 (items.size : Int))) (items.size : Int) 2).filterMap (items[·]?)).toArray = _
  have hl : (items.toList.drop 1).length = items.size - 1 := by rw [List.length_drop, Array.length_toList]
  have hr : sliceRange (max 0 (min 1 (items.size : Int))) (items.size : Int) 2 = (List.range (((items.toList.drop 1).length + 1) / 2)).map fun k => 2 * k + 1 := by
    rw [hl]
    unfold sliceRange
    rw [if_pos (by decide)]
    have hc : (if max 0 (min 1 (items.size : Int)) < (items.size : Int) then ((items.size : Int) - max 0 (min 1 (items.size : Int)) + 2 - 1) / 2 else 0).toNat = (items.size - 1 + 1) / 2 := by
      split <;> omega
    show (List.range _).map _ = _
    rw [hc]
    by_cases h0 : items.size = 0
    · rw [h0]; rfl
    · refine List.map_congr_left fun k _ => ?_
      omega
  rw [hr, List.filterMap_map, ← evens_pick (items.toList.drop 1)]
  congr 1
  refine fm_congr fun k hk => ?_
  show items[2 * k + 1]? = (items.toList.drop 1)[2 * k]?
  rw [List.getElem?_drop, ← Array.getElem?_toList, Nat.add_comm]
end STX
namespace MI
open PySem PySem.Spec PyProof.Rows L2
def SetXO (P : Program) (w : World) (a : Addr) (S : Str → Bool) (n : Nat) : HO := .ext fun h => STX.SetX (PySem.strKind P w) h a S n
section
variable {X : Cx} {cf : Cf} {gl : Str → Option D} {a e : Expr} {ma : ME} {pos p : Pos}
theorem cr_setX (hc : X.calm = true) : CallR X (.type "set") (fun vs H Q => ∃ a, ∃ us : List Str, vs = [V.ref a] ∧ SqL X.K H a (us.map V.str) ∧ us.length + 1 < scanBound ∧ ∀ p c, H p = none → Q (.ref p) (upd H p (SetXO X.prog X.w p (fun j => decide (j ∈ us)) c))) := by
  intro pins s σ H vs ws Q I r h
  obtain ⟨a, us, rfl, hs, hb, q⟩ := h
  obtain ⟨u, rfl, ru⟩ := vals1 r
  cases ru
  obtain ⟨its, rv, pl, hz⟩ := I.list hs
  have hlen : its.toArray.size = us.length := by
    have := rv.length
    rw [List.length_map] at this
    rw [List.size_toArray, ← this]
  refine STX.call_set (knd := PySem.strKind X.prog X.w) us (I.ok.hd hc) pl.isList hlen (fun i v hv => ?_) hb fun h' tk c hS hc' keep => ?_
  · have hi : i < us.length := by rw [← hlen]; exact (Array.getElem?_eq_some_iff.mp hv).1
    obtain ⟨w, w1, w2⟩ := rv.get (i := i) (x := .str us[i]) (by rw [List.getElem?_map, List.getElem?_eq_getElem hi]; rfl)
    rw [List.getElem?_toArray, w1] at hv
    cases hv
    obtain ⟨t, rfl⟩ := w2
    refine ⟨us[i], List.getElem?_eq_getElem hi, ?_, rfl⟩
    show Value.isStrOf us[i] (.str us[i] t) = true
    simp [Value.isStrOf]
  · refine ⟨.ref s.heap.objs.size, _, I.laid (t' := tk) (o := SetXO X.prog X.w s.heap.objs.size (fun j => decide (j ∈ us)) c) keep (Nat.le_refl _) ?_, rfl, q _ c (I.hok.fresh (Nat.le_refl _))⟩
    have ⟨o, _, _, _, ho, _⟩ := hS
    exact ⟨hS, ⟨o, ho⟩, fun h1 h2 x k => STX.SetX.at x k⟩
theorem cr_sortedX (hc : X.calm = true) (hu : X.A.units + 66 < cLine) : CallR X (.builtin "sorted") (fun vs H Q => ∃ a S n, vs = [V.ref a] ∧ H a = some (SetXO X.prog X.w a S n) ∧ ∀ (ys : List Str) p, (ys.map fun y => y.cps.toList).Pairwise (· < ·) → (∀ k, k ∈ ys ↔ S k = true) → H p = none → Q (.ref p) (upd H p (.lst (ys.map V.str)))) := by
  intro pins s σ H vs ws Q I r h
  obtain ⟨a, S, n, rfl, ha, q⟩ := h
  obtain ⟨u, rfl, ru⟩ := vals1 r
  cases ru
  have R : STX.SetX (PySem.strKind X.prog X.w) s.heap a S n := (I.hok a _ ha).1
  refine STX.sorted_texts R (I.ok.hd hc) (by omega) fun s' p out c ys keep g1 o1 hz he ho hst hm hl => ?_
  have hn : H p = none := I.hok.fresh hz
  have rv : Vals (ys.map V.str) out := by
    clear hst hm he hl
    induction ho with
    | nil => exact .nil
    | cons h1 _ ih => exact .cons h1 ih
  have J : Inv X pins σ (upd H p (.lst (ys.map V.str))) { s with heap := s'.heap, gens := s'.gens, drawn := s'.drawn, toks := s'.toks } :=
    I.call (ch := []) (Un.laid keep hz hn) (I.hok.laid keep hz ⟨by rw [List.length_map]; exact hl, out, c, rv, he⟩) (by rw [g1]; exact I.bare) (fun _ z => nomatch z)
  have e : s' = { s with heap := s'.heap, gens := s'.gens, drawn := s'.drawn, toks := s'.toks } := by
    cases s'
    cases s
    cases o1
    rfl
  rw [e]
  exact ⟨.ref p, _, J, rfl, q ys p hst hm hn⟩
theorem ite_ev {m : ME} {σd : Env} {S S' : Sto} {d : D} (h : evE cf gl σd (.ite (.val (.bl true)) m .non) S = .ok d S') : evE cf gl σd m S = .ok d S' := by
  unfold evE at h
  obtain ⟨k, S1, q1, q2⟩ := bnd_ok h
  unfold evT at q1
  obtain ⟨y, S2, q3, q4⟩ := bnd_ok q1
  unfold evE at q3
  obtain ⟨rfl, rfl⟩ := ret_ok q3
  obtain ⟨q5, rfl⟩ := look_ok q4
  cases q5
  rw [if_pos rfl] at q2
  exact q2
theorem strs_at' {k : Kx} {ρ : List Addr} {H : Hp} : ∀ {xs : List D} {vs : List V} {us : List (List Nat)}, RelDs k ρ H xs vs → strsOf xs = some us → vs = (us.map toStr).map V.str
  | [], _, _, r, e => by cases e; cases r; rfl
  | x :: xs, _, _, ⟨w, ws, h1, h2, h3⟩, e => by
    cases x <;> try (simp [strsOf] at e; done)
    simp only [strsOf, Option.map_eq_some_iff] at e
    obtain ⟨us, e1, rfl⟩ := e
    subst h1
    cases h2
    rw [strs_at' h3 e1]
    rfl
theorem k_sortSet {m : Bool} {x y : Str} {py p2 : Pos} (hc : X.calm = true) (hu : X.A.units + 66 < cLine) (hx : x = ("sorted" : Str)) (hy : y = ("set" : Str)) (hg : Gl X x) (hm : X.mg x = none) (hg' : Gl X y) (hm' : X.mg y = none) (hs : isStar e = false) (he : PE X e (tE X cf gl ma)) :
    PE X (.Call (.Name x p) [.Call (.Name y py) [e] [] p2] [] pos) (tE X cf gl (.ite (.val (.bl true)) (.blt m ("sorted set" : Str) [ma]) .non)) := by
  subst hx hy
  have in1 := pe_callTy (p := py) (pos := p2) (cr_setX (X := X) hc) hg' hm' (by rfl) (pa_cons he pa_nil (star_cons hs _)) (by decide) (by decide) (star_cons hs _) (by rfl)
  refine (pe_callB (p := p) (pos := pos) (cr_sortedX (X := X) hc hu) hg hm (by rfl) (pa_cons in1 pa_nil rfl) (by decide) (by decide) rfl (by rfl)).imp fun σ H Q ⟨B, ρ, S, σd, d, S', R, r, e0, p0⟩ => ?_
  have e1 := ite_ev e0
  unfold evE at e1
  obtain ⟨xs, S1, e2, e3⟩ := bnd_ok e1
  unfold evEs at e2
  obtain ⟨v0, S2, e4, e5⟩ := bnd_ok e2
  unfold evEs at e5
  obtain ⟨vs0, S3, e6, e7⟩ := bnd_ok e5
  obtain ⟨z1, z2⟩ := ret_ok e6
  subst z1 z2
  obtain ⟨z1, z2⟩ := ret_ok e7
  subst z1 z2
  have e3 : ssetM m [v0] S1 = .ok d S' := by
    unfold bltM at e3
    rw [if_neg (by decide), if_neg (by decide), if_neg (by decide), if_neg (by decide), if_neg (by decide), if_neg (by decide), if_neg (by decide), if_neg (by decide), if_neg (by decide), if_neg (by decide), if_neg (by decide), if_neg (by decide), if_neg (by decide), if_pos rfl] at e3
    exact e3
  obtain ⟨us, S4, f1, f2⟩ := bnd_ok (show bnd (look fun S => (MI.listOf S v0).bind strsOf) _ S1 = _ from e3)
  obtain ⟨f3, rfl⟩ := look_ok f1
  obtain ⟨f4, f5⟩ := gd_ok f2
  obtain ⟨ys, f6, f7⟩ := Option.bind_eq_some_iff.mp f3
  refine ⟨B, ρ, S, σd, v0, S4, R, r, e4, fun ρ1 H1 v x1 R1 r1 => ?_⟩
  obtain ⟨a, ws, rfl, k1, k2⟩ := list_at R1 r1 f6
  have hw := strs_at' k2 f7
  subst hw
  have hlu := of_decide_eq_true f4
  refine ⟨a, us.map toStr, rfl, .of k1, by rw [List.length_map]; unfold scanBound; omega, fun p c hp => ?_⟩
  refine ⟨p, _, c, rfl, upd_same, fun zs p2 h1 h2 h3 => ?_⟩
  have hz : zs = (ssort us).map toStr := by
    have key : (zs.map fun y => y.cps.toList) = ssort us := STX.eq_strict h1 (STX.ssort_strict us) fun l => by
      rw [STX.mem_ssort, List.mem_map]
      constructor
      · rintro ⟨y, hy, rfl⟩
        have := (h2 y).mp hy
        rw [decide_eq_true_eq, List.mem_map] at this
        obtain ⟨u, hu, rfl⟩ := this
        simpa [toStr] using hu
      · intro hl
        exact ⟨toStr l, (h2 _).mpr (decide_eq_true (List.mem_map.mpr ⟨l, hl, rfl⟩)), by simp [toStr]⟩
    rw [← key, List.map_map]
    have : (toStr ∘ fun y : Str => y.cps.toList) = id := by
      funext y
      simp [toStr]
    rw [this, List.map_id]
  subst hz
  have x2 : Ext ρ1 H1 ρ1 (upd H1 p (SetXO X.prog X.w p (fun j => decide (j ∈ us.map toStr)) c)) := Ext.new hp
  have R2 := R1.new (o := SetXO X.prog X.w p (fun j => decide (j ∈ us.map toStr)) c) hp
  have rs : ∀ l : List (List Nat), RelDs (kx X B) ρ1 (upd H1 p (SetXO X.prog X.w p (fun j => decide (j ∈ us.map toStr)) c)) (l.map .str) ((l.map toStr).map V.str) := fun l => by
    induction l with
    | nil => exact rfl
    | cons x l ih => exact ⟨_, _, rfl, rfl, ih⟩
  exact (Post.list R2 f5 ((p0.ext x1).ext x2) (rs _)).2 p2 h3
def tStpL (K : PySem.W.Frag) (k : Nat) (te : TE) : TE := fun σ H Q => te σ H fun x H1 => ∃ a xs, x = .ref a ∧ SqL K H1 a xs ∧ ∀ p, H1 p = none → Q (.ref p) (upd H1 p (.lst (evens (xs.drop k))))
theorem vals_evens : ∀ {xs : List V} {us : List Value}, Vals xs us → Vals (evens xs) (evens us)
  | _, _, .nil => .nil
  | _, _, .cons h .nil => .cons h .nil
  | _, _, .cons h (.cons _ t) => .cons h (vals_evens t)
theorem vals_drop {xs : List V} {us : List Value} (k : Nat) (r : Vals xs us) : Vals (xs.drop k) (us.drop k) := by
  induction k generalizing xs us with
  | zero => exact r
  | succ k ih =>
    cases r with
    | nil => exact .nil
    | cons _ t => exact ih t
theorem evens_len {α : Type} : ∀ xs : List α, (evens xs).length ≤ xs.length
  | [] => Nat.le_refl _
  | [_] => Nat.le_refl _
  | x :: y :: r => by
    rw [evens]
    have := evens_len r
    simp only [List.length_cons]
    omega
theorem pe_stp0 {te : TE} {k : Nat} {p1 p3 : Pos} (he : PE X e te) : PE X (.Subscript e (.Slice none none (some (.Constant (.int 2) k p1)) p3) pos) (tStpL X.K 0 te) := by
  refine ⟨fun pins s σ H Q I h => ?_⟩
  refine Subscript_ (thn (he.run pins s σ H _ I h) fun v s1 ⟨x, H1, I1, r1, q1⟩ => ?_)
  have hst : PO X (some (.Constant (.int 2) k p1)) (tPart (tC (.int 2))) := po_some pe_int
  refine wpAny_Slice (thn (po_none.run pins s1 σ H1 (fun o H2 => o = none ∧ H2 = H1) I1 ⟨rfl, rfl⟩) fun vl s2 ⟨l, H2, I2, pl, el, e2⟩ => ?_)
  subst el e2
  refine thn (po_none.run pins s2 σ H2 (fun o H3 => o = none ∧ H3 = H2) I2 ⟨rfl, rfl⟩) fun vu s3 ⟨u, H3, I3, pu, eu, e3⟩ => ?_
  subst eu e3
  refine thn (hst.run pins s3 σ H3 (fun o H4 => o = some 2 ∧ H4 = H3) I3 ⟨2, rfl, rfl, rfl⟩) fun vs s4 ⟨o, H4, I4, ps, eo, e4⟩ => ?_
  subst eo e4
  obtain ⟨a, xs, ex, hx, q⟩ := q1
  subst ex
  cases r1
  have I5 : Inv X pins σ H4 { s4 with heap := s4.heap.push { cls := .type "slice", data := .fields #[vl, vu, vs] } } := I4.kept (t' := s4.toks) fun b ob q => Heap.get?_push_of_some _ q
  obtain ⟨its, r, ht, hz⟩ := I5.list hx
  have hlen := r.length
  show wpAny (model X.prog X.w) X.A (subscriptTail e (.Slice none none (some (.Constant (.int 2) k p1)) p3) (.ref a) (.ref s4.heap.objs.size)) (EP X pins σ Q) X.xe { s4 with heap := s4.heap.push { cls := .type "slice", data := .fields #[vl, vu, vs] } }
  refine tail_any (ops := [.ref a, .ref s4.heap.objs.size]) ht.isList.typeIs (PySem.slot_list_getitem.lookup) ?_ (by with_unfolding_all rfl)
  refine wpAny_getItem_list_slice ht.isList (Heap.IsSliceOf.new _ vl vu vs) pl pu ps (by decide) ?_ (by rw [List.size_toArray]; omega)
  rw [STX.pick2_0]
  refine ⟨.ref _, _, I5.laid (t' := s4.toks) (o := .lst (evens (xs.drop 0))) (fun b ob q => Heap.get?_push_of_some _ q) (Nat.le_refl _) ?_, rfl, q _ (I5.hok.fresh (Nat.le_refl _))⟩
  exact ⟨Nat.le_trans (evens_len _) hz, _, 0, vals_evens r, Heap.get?_push_size _ rfl⟩
theorem pe_stp1 {te : TE} {k k2 : Nat} {p1 p2 p3 : Pos} (he : PE X e te) : PE X (.Subscript e (.Slice (some (.Constant (.int 1) k2 p2)) none (some (.Constant (.int 2) k p1)) p3) pos) (tStpL X.K 1 te) := by
  refine ⟨fun pins s σ H Q I h => ?_⟩
  refine Subscript_ (thn (he.run pins s σ H _ I h) fun v s1 ⟨x, H1, I1, r1, q1⟩ => ?_)
  have hst : PO X (some (.Constant (.int 2) k p1)) (tPart (tC (.int 2))) := po_some pe_int
  have hlo : PO X (some (.Constant (.int 1) k2 p2)) (tPart (tC (.int 1))) := po_some pe_int
  refine wpAny_Slice (thn (hlo.run pins s1 σ H1 (fun o H2 => o = some 1 ∧ H2 = H1) I1 ⟨1, rfl, rfl, rfl⟩) fun vl s2 ⟨l, H2, I2, pl, el, e2⟩ => ?_)
  subst el e2
  refine thn (po_none.run pins s2 σ H2 (fun o H3 => o = none ∧ H3 = H2) I2 ⟨rfl, rfl⟩) fun vu s3 ⟨u, H3, I3, pu, eu, e3⟩ => ?_
  subst eu e3
  refine thn (hst.run pins s3 σ H3 (fun o H4 => o = some 2 ∧ H4 = H3) I3 ⟨2, rfl, rfl, rfl⟩) fun vs s4 ⟨o, H4, I4, ps, eo, e4⟩ => ?_
  subst eo e4
  obtain ⟨a, xs, ex, hx, q⟩ := q1
  subst ex
  cases r1
  have I5 : Inv X pins σ H4 { s4 with heap := s4.heap.push { cls := .type "slice", data := .fields #[vl, vu, vs] } } := I4.kept (t' := s4.toks) fun b ob q => Heap.get?_push_of_some _ q
  obtain ⟨its, r, ht, hz⟩ := I5.list hx
  have hlen := r.length
  show wpAny (model X.prog X.w) X.A (subscriptTail e (.Slice (some (.Constant (.int 1) k2 p2)) none (some (.Constant (.int 2) k p1)) p3) (.ref a) (.ref s4.heap.objs.size)) (EP X pins σ Q) X.xe { s4 with heap := s4.heap.push { cls := .type "slice", data := .fields #[vl, vu, vs] } }
  refine tail_any (ops := [.ref a, .ref s4.heap.objs.size]) ht.isList.typeIs (PySem.slot_list_getitem.lookup) ?_ (by with_unfolding_all rfl)
  refine wpAny_getItem_list_slice ht.isList (Heap.IsSliceOf.new _ vl vu vs) pl pu ps (by decide) ?_ (by rw [List.size_toArray]; omega)
  rw [STX.pick2_1]
  refine ⟨.ref _, _, I5.laid (t' := s4.toks) (o := .lst (evens (xs.drop 1))) (fun b ob q => Heap.get?_push_of_some _ q) (Nat.le_refl _) ?_, rfl, q _ (I5.hok.fresh (Nat.le_refl _))⟩
  exact ⟨Nat.le_trans (evens_len _) (by rw [List.length_drop]; omega), _, 0, vals_evens (vals_drop 1 r), Heap.get?_push_size _ rfl⟩
theorem rel_evens {k : Kx} {ρ : List Addr} {H : Hp} : ∀ {ds : List D} {vs : List V}, RelDs k ρ H ds vs → RelDs k ρ H (evens ds) (evens vs)
  | [], _, r => by cases r; exact rfl
  | [d], _, ⟨w, ws, h1, h2, h3⟩ => by cases h3; subst h1; exact ⟨w, [], rfl, h2, rfl⟩
  | d :: d2 :: ds, _, ⟨w, ws, h1, h2, ⟨w2, ws2, h4, h5, h6⟩⟩ => by
    subst h1 h4
    exact ⟨w, _, rfl, h2, rel_evens h6⟩
theorem rel_drop {k : Kx} {ρ : List Addr} {H : Hp} (n : Nat) {ds : List D} {vs : List V} (r : RelDs k ρ H ds vs) : RelDs k ρ H (ds.drop n) (vs.drop n) := by
  induction n generalizing ds vs with
  | zero => exact r
  | succ n ih =>
    cases ds with
    | nil => cases r; exact rfl
    | cons d ds =>
      obtain ⟨w, ws, h1, h2, h3⟩ := r
      subst h1
      exact ih h3
theorem k_stp {m : Bool} {k : Nat} {nm : Str} {e : Expr} (h : PE X e (tStpL X.K k (tE X cf gl ma))) (hn : ∀ vs, bltM m nm vs = stepM m k vs) : PE X e (tE X cf gl (.ite (.val (.bl true)) (.blt m nm [ma]) .non)) := by
  refine h.imp fun σ H Q ⟨B, ρ, S, σd, d, S', R, r, e0, p0⟩ => ?_
  have e1 := ite_ev e0
  unfold evE at e1
  obtain ⟨xs, S1, e2, e3⟩ := bnd_ok e1
  unfold evEs at e2
  obtain ⟨v0, S2, e4, e5⟩ := bnd_ok e2
  unfold evEs at e5
  obtain ⟨vs0, S3, e6, e7⟩ := bnd_ok e5
  obtain ⟨z1, z2⟩ := ret_ok e6
  subst z1 z2
  obtain ⟨z1, z2⟩ := ret_ok e7
  subst z1 z2
  rw [hn] at e3
  obtain ⟨ys, S4, f1, f2⟩ := bnd_ok (show bnd (look fun S => MI.listOf S v0) _ S1 = _ from e3)
  obtain ⟨f3, rfl⟩ := look_ok f1
  refine ⟨B, ρ, S, σd, v0, S4, R, r, e4, fun ρ1 H1 v x1 R1 r1 => ?_⟩
  obtain ⟨a, ws, rfl, k1, k2⟩ := list_at R1 r1 f3
  exact ⟨a, ws, rfl, .of k1, (Post.list R1 f2 (p0.ext x1) (rel_evens (rel_drop k k2))).2⟩
theorem trE_sset {C : TC} {sc : Scope} {x y : Str} {p py p2 pos : Pos} {e : Expr} (h : ssOk C sc x y e = true) : trE C (.Call (.Name x p) [.Call (.Name y py) [e] [] p2] [] pos) sc = val (.ite (.val (.bl true)) (.blt (C.m pos) ("sorted set" : Str) [(trE C e sc).1]) .non) := by
  rw [trE, if_pos h]
theorem trE_gen {C : TC} {sc : Scope} {x : Str} {p pos : Pos} {es : List Expr} (h : ¬ ∃ y py e p2, es = [.Call (.Name y py) [e] [] p2] ∧ ssOk C sc x y e = true) : trE C (.Call (.Name x p) es [] pos) sc = if noStar es = true then val (trCall C sc x pos (trEs C es sc)) else bad := by
  by_cases hs : ∃ y py e p2, es = [.Call (.Name y py) [e] [] p2]
  · obtain ⟨y, py, e, p2, rfl⟩ := hs
    rw [trE, if_neg fun z => h ⟨_, _, _, _, rfl, z⟩]
  · clear h
    rw [trE.eq_def]
    split
    all_goals first
      | rfl
      | (rename_i h; cases h; done)
      | (rename_i h; cases h; exact absurd ⟨_, _, _, _, rfl⟩ hs)
      | (rename_i h; cases h; rfl)
      | (have q : ∀ (x1 : Str) (p1 : Pos) (es1 : List Expr) (pos1 : Pos), Expr.Call (.Name x p) es [] pos = .Call (.Name x1 p1) es1 [] pos1 → False := by assumption
         exact (q _ _ _ _ rfl).elim)
theorem starE_eq {e : Expr} (h : isStarE e = false) : isStar e = false := by cases e <;> first | rfl | cases h
end
end MI
set_option Elab.async false
set_option linter.all false
set_option maxRecDepth 100000
set_option maxHeartbeats 8000000
namespace MI
open PySem PySem.Spec PyProof.Rows L2
section
variable [XT] {T : Str → Option Fn} {gl : Str → Option D} {n : Nat} {C : TC}
theorem Good.hu {sc : Scope} {X : Cx} (g : Good T gl n C sc X) : X.A.units + 64 < cLine := g.room.units
theorem Good.hu2 {sc : Scope} {X : Cx} (g : Good T gl n C sc X) : X.A.units + 66 < cLine := by have := g.room.un; omega
theorem behind {op : CmpOp} {b : Expr} (h : isSetD b = false) : behindInMarks op b = false := by
  cases b <;> first | rfl | cases h
theorem behind2 {op op' : CmpOp} {b c : Expr} (h : isSetD c = false) : lastMarks [op, op'] [b, c] = false := behind (op := op') h
theorem ok_name {x : Str} {p : Pos} {sc : Scope} {X : Cx} (g : Good T gl n C sc X) : OkE X C (callN T gl n) gl sc (.Name x p) := by
  have heq : trE C (.Name x p) sc = val (trName C sc x) := by rw [trE]
  have go : ∀ m, trName C sc x = m → notBlt m = true → PE X (.Name x p) (tE X (callN T gl n) gl m) → OkE X C (callN T gl n) gl sc (.Name x p) := fun m e hb hp => ok_val (m := m) (by rw [heq, e]) hp (by intro _; rfl) hb rfl
  unfold trName at go
  by_cases hok : okName x = true
  · rw [if_pos hok] at go
    cases hi : slotV C sc x with
    | some i =>
      simp only [hi] at go
      obtain ⟨hN, hv⟩ := g.vis hi
      exact go _ rfl rfl (k_var hN hv hok)
    | none =>
      simp only [hi] at go
      by_cases hg : isGl sc x = true
      · rw [if_pos hg] at go
        by_cases hF : C.F.contains x = true
        · rw [if_pos hF] at go
          have hF : x ∈ C.F := by simpa using hF
          obtain ⟨f, hf⟩ := g.fnv x hF
          refine go _ rfl rfl ((pe_glob (v := .ref f) (g.gl' hg) hf rfl (okN hok).1).imp fun σ H Q ⟨B, ρ, S, σd, d, S', R, r, e, pp⟩ => ?_)
          unfold evE at e
          obtain ⟨rfl, rfl⟩ := ret_ok e
          exact pp.now R ⟨f, hf, rfl⟩
        · rw [if_neg hF] at go
          by_cases hG : C.G.contains x = true
          · rw [if_pos hG] at go
            refine go _ rfl rfl ⟨fun pins s σ H Q I h => ?_⟩
            obtain ⟨B, ρ, S, σd, d, S', R, r, e, pp⟩ := h
            unfold evE at e
            obtain ⟨e1, rfl⟩ := ofO_ok e
            obtain ⟨u, v, hu, rv, hd⟩ := g.glb x d e1
            exact (pe_glob (pos := p) (g.gl' hg) hu rv (okN hok).1).run pins s σ H Q I (pp.now R (hd _ _ _))
          · rw [if_neg hG] at go
            by_cases hU : C.U.contains x = true
            · rw [if_pos hU] at go
              cases ht : tyName x with
              | none => simp only [ht] at go; exact go _ rfl rfl k_bad
              | some t =>
                simp only [ht] at go
                have hm : X.mg x = none := g.unb x (by simpa using hU)
                have hb : bootBuiltins x = some (.type t) := by
                  unfold tyName tyNames at ht
                  simp only [List.find?_cons] at ht
                  split at ht
                  · rename_i q; cases ht; rw [← eq_of_beq q]; rfl
                  · split at ht
                    · rename_i q; cases ht; rw [← eq_of_beq q]; rfl
                    · split at ht
                      · rename_i q; cases ht; rw [← eq_of_beq q]; rfl
                      · split at ht
                        · rename_i q; cases ht; rw [← eq_of_beq q]; rfl
                        · split at ht
                          · rename_i q; cases ht; rw [← eq_of_beq q]; rfl
                          · split at ht
                            · rename_i q; cases ht; rw [← eq_of_beq q]; rfl
                            · cases ht
                exact go _ rfl rfl (k_leaf (d := .ty t) (pe_bltn (v := .ty t) (g.gl' hg) hm hb rfl (okN hok).2.2 (okN hok).1) (fun σd S => by unfold evE; rfl) fun _ _ _ => rfl)
            · rw [if_neg hU] at go
              exact go _ rfl rfl k_bad
      · rw [if_neg hg] at go
        exact go _ rfl rfl k_bad
  · rw [if_neg hok] at go
    exact go _ rfl rfl k_bad
theorem ok_const {c : Const} {k : Nat} {p : Pos} {sc : Scope} {X : Cx} : OkE X C (callN T gl n) gl sc (.Constant c k p) := by
  have heq : trE C (.Constant c k p) sc = val (trConst c) := by rw [trE]
  refine ok_val heq ?_ (by intro _; rfl) (by cases c <;> rfl) rfl
  cases c with
  | none => exact k_leaf (d := .non) pe_non (fun σd S => by unfold trConst evE; rfl) fun _ _ _ => rfl
  | bool b => exact k_leaf (d := .bl b) pe_bl (fun σd S => by unfold trConst evE; rfl) fun _ _ _ => rfl
  | int b => exact k_leaf (d := .int b) pe_int (fun σd S => by unfold trConst evE; rfl) fun _ _ _ => rfl
  | str x => exact k_leaf (d := .str x.cps.toList) pe_str (fun σd S => by unfold trConst evE; rfl) fun _ _ _ => by show V.str x = V.str (toStr _); simp [toStr]
  | _ => exact k_bad
theorem ok_callName {x : Str} {p pos : Pos} {es : List Expr} {sc : Scope} {X : Cx} (g : Good T gl n C sc X) (h : ∀ e ∈ es, Ok T gl n C e) (hn : ¬ ∃ y py e p2, es = [.Call (.Name y py) [e] [] p2] ∧ ssOk C sc x y e = true) : OkE X C (callN T gl n) gl sc (.Call (.Name x p) es [] pos) := by
  by_cases hs : noStar es = true
  · have heq : trE C (.Call (.Name x p) es [] pos) sc = val (trCall C sc x pos (trEs C es sc)) := by rw [trE_gen hn, if_pos hs]
    have go : ∀ m, trCall C sc x pos (trEs C es sc) = m → notBlt m = true → PE X (.Call (.Name x p) es [] pos) (tE X (callN T gl n) gl m) → OkE X C (callN T gl n) gl sc (.Call (.Name x p) es [] pos) := fun m e hb hp => ok_val (m := m) (by rw [heq, e]) hp (by intro _; rfl) hb rfl
    have gob : ∀ m ms, trCall C sc x pos (trEs C es sc) = .blt m x ms → PE X (.Call (.Name x p) es [] pos) (tE X (callN T gl n) gl (.blt m x ms)) → (∀ tg, (x = ("enumerate" : Str) → isTupE tg = true) → PI X tg (.Call (.Name x p) es [] pos) (tIt X (callN T gl n) gl (.it (.blt m x ms)))) → OkE X C (callN T gl n) gl sc (.Call (.Name x p) es [] pos) := fun m ms e hp hi =>
      ⟨by rw [heq, e]; exact hp, by rw [heq, e]; exact k_truth hp (by intro _; rfl), fun tg ht => by rw [heq, e]; exact hi tg fun z => ht (by unfold isEnum; rw [z]; rfl), fun z => nomatch z⟩
    have ha := ok_list g h hs
    have hms : es = [] → trEs C es sc = [] := fun e => by rw [e, trEs]
    unfold trCall at go gob
    by_cases hok : okName x = true
    · rw [if_pos hok] at go gob
      cases hi : slotV C sc x with
      | some i =>
        simp only [hi] at go
        split at go
        · exact go _ rfl rfl k_bad
        · exact go _ rfl rfl (k_callv g hok hi hs ha hms)
      | none =>
        simp only [hi] at go gob
        by_cases hg : isGl sc x = true
        · rw [if_pos hg] at go gob
          by_cases hF : C.F.contains x = true
          · rw [if_pos hF] at go
            exact go _ rfl rfl (k_call g hok (g.gl' hg) (by simpa using hF) hs ha hms)
          · rw [if_neg hF] at go gob
            by_cases hb : (C.U.contains x && bltNames.contains x && !(trEs C es sc).isEmpty) = true
            · rw [if_pos hb] at gob
              simp only [Bool.and_eq_true] at hb
              obtain ⟨⟨hU, hB⟩, hne⟩ := hb
              cases es with
              | nil => rw [trEs] at hne; cases hne
              | cons e es =>
                have hm : X.mg x = none := g.unb x (by simpa using hU)
                have hp := k_blt (m := C.m pos) (p := p) (pos := pos) g.calm g.gu g.hu2 g.sys hB (g.gl' hg) hm hs ha
                exact gob _ _ rfl hp fun tg ht => k_pib g.calm ht hs (g.gl' hg) hm hp ha trEs_len fun z => ⟨_, by rw [z, trEs, trEs], (h e List.mem_cons_self sc X g).1.pe⟩
            · rw [if_neg hb] at go
              exact go _ rfl rfl k_bad
        · rw [if_neg hg] at go
          exact go _ rfl rfl k_bad
    · rw [if_neg hok] at go
      exact go _ rfl rfl k_bad
  · exact ok_bad (by rw [trE_gen hn, if_neg hs])
/-- the step -/
theorem ok_step (e : Expr) (ih : ∀ e', sizeOf e' < sizeOf e → Ok T gl n C e') : Ok T gl n C e := by
  intro sc X g
  constructor
  · cases e with
    | Name x p => exact ok_name g
    | Constant c k p => exact ok_const
    | BinOp a op b pos =>
      have ha := (ih a (by simp; omega) sc X g).1
      have hb := (ih b (by simp; omega) sc X g).1
      exact ok_val (by rw [trE]) (k_bin ha.pe hb.pe) (by intro _; rfl) rfl rfl
    | UnaryOp op a pos =>
      have ha := (ih a (by simp; omega) sc X g).1
      cases op with
      | USub => exact ok_val (m := .neg (trE C a sc).1) (by rw [trE]) (k_neg ha.pe) (by intro _; rfl) rfl rfl
      | Not => exact ok_two (by rw [trE]) (k_not ha.pe) (k_notT ha.pt) rfl rfl
      | _ => exact ok_bad (by rw [trE.eq_def])
    | BoolOp op vs pos =>
      by_cases hl : 2 ≤ vs.length
      · have hvs : ∀ e ∈ vs, Ok T gl n C e := fun e he => ih e (by have := List.sizeOf_lt_of_mem he; simp; omega)
        obtain ⟨h1, h2⟩ := ok_bool (op := op) (pos := pos) g hvs (by intro z; rw [z] at hl; simp at hl)
        refine ok_two (by rw [trE, if_pos hl]) h1 h2.pt ?_ rfl
        match vs, hl with
        | a :: b :: r, _ => cases op <;> rw [trB.eq_def] <;> rfl
      · exact ok_bad (by rw [trE, if_neg hl])
    | IfExp c a b pos =>
      have hc := (ih c (by simp; omega) sc X g).1
      have ha := (ih a (by simp; omega) sc X g).1
      have hb := (ih b (by simp; omega) sc X g).1
      exact ok_two (by rw [trE]) (k_ite hc.pt ha.pe hb.pe) (k_iteT hc.pt ha.pt hb.pt) rfl rfl
    | Compare a ops cs pos =>
      have ha := (ih a (by simp; omega) sc X g).1
      have hcs : ∀ e ∈ cs, Ok T gl n C e := fun e he => ih e (by have := List.sizeOf_lt_of_mem he; simp; omega)
      match ops, cs, hcs with
      | [op], [b], hcs =>
        have hb := (hcs b (by simp) sc X g).1
        by_cases hst : isSetD b = true
        · exact ok_bad (by rw [trE, if_pos hst])
        · have hst : isSetD b = false := by simpa using hst
          exact ok_two (m := .cmp (trE C a sc).1 op (trE C b sc).1) (mc := .val (.cmp (trE C a sc).1 op (trE C b sc).1)) (by rw [trE, if_neg (by rw [hst]; decide)]; rfl) (k_cmp g.hu (behind hst) ha.pe hb.pe) (k_cmpT g.hu (behind hst) ha.pe hb.pe) rfl rfl
      | [op, op'], [b, c], hcs =>
        have hb := (hcs b (by simp) sc X g).1
        have hc := (hcs c (by simp) sc X g).1
        by_cases hst : (isSetD b || isSetD c) = true
        · exact ok_bad (by rw [trE, if_pos hst])
        · have hs2 : isSetD c = false := by
            rw [Bool.or_eq_true] at hst
            simpa using fun z => hst (.inr z)
          exact ok_two (m := .cmp2 (trE C a sc).1 op (trE C b sc).1 op' (trE C c sc).1) (mc := .val (.cmp2 (trE C a sc).1 op (trE C b sc).1 op' (trE C c sc).1)) (by rw [trE, if_neg hst]; rfl) (k_cmp2 g.hu (behind2 hs2) ha.pe hb.pe hc.pe) (k_cmp2T g.hu (behind2 hs2) ha.pe hb.pe hc.pe) rfl rfl
      | [], _, _ => exact ok_bad (by rw [trE.eq_def])
      | [_], [], _ => exact ok_bad (by rw [trE.eq_def])
      | [_], _ :: _ :: _, _ => exact ok_bad (by rw [trE.eq_def])
      | [_, _], [], _ => exact ok_bad (by rw [trE.eq_def])
      | [_, _], [_], _ => exact ok_bad (by rw [trE.eq_def])
      | [_, _], _ :: _ :: _ :: _, _ => exact ok_bad (by rw [trE.eq_def])
      | _ :: _ :: _ :: _, _, _ => exact ok_bad (by rw [trE.eq_def])
    | Tuple es k pos =>
      have hes : ∀ e ∈ es, Ok T gl n C e := fun e he => ih e (by have := List.sizeOf_lt_of_mem he; simp; omega)
      by_cases hs : noStar es = true
      · exact ok_val (by rw [trE, if_pos hs]) (k_tup (ok_list g hes hs)) (by intro _; rfl) rfl rfl
      · exact ok_bad (by rw [trE, if_neg hs])
    | List es pos =>
      have hes : ∀ e ∈ es, Ok T gl n C e := fun e he => ih e (by have := List.sizeOf_lt_of_mem he; simp; omega)
      by_cases hs : noStar es = true
      · exact ok_val (by rw [trE, if_pos hs]) (k_lst (ok_list g hes hs)) (by intro _; rfl) rfl rfl
      · exact ok_bad (by rw [trE, if_neg hs])
    | Dict ks vs pos =>
      have hvs : ∀ e ∈ vs, Ok T gl n C e := fun e he => ih e (by have := List.sizeOf_lt_of_mem he; simp; omega)
      have hks : ∀ k ∈ ks, ∀ e, k = some e → Ok T gl n C e := fun k hk e ek => ih e (by have := List.sizeOf_lt_of_mem hk; rw [ek] at this; simp at this; simp; omega)
      by_cases hc : (ks.length == vs.length && decide (ks.length ≤ 15) && ks.all (·.isSome)) = true
      · have hc' := hc
        simp only [Bool.and_eq_true, decide_eq_true_eq] at hc'
        obtain ⟨i1, i2⟩ := ok_pairs (pos := pos) g hks hvs (eq_of_beq hc'.1.1) hc'.2
        exact ok_val (by rw [trE, if_pos hc]) (k_dict i1 hc'.2 (eq_of_beq hc'.1.1) hc'.1.2 i2) (by intro _; rfl) rfl rfl
      · exact ok_bad (by rw [trE, if_neg hc])
    | Subscript a b pos =>
      have ha := (ih a (by simp; omega) sc X g).1
      by_cases hsl : ∃ l u s q, b = .Slice l u s q
      · obtain ⟨l, u, st, q, rfl⟩ := hsl
        cases st with
        | none =>
          have hl : ∀ e, l = some e → Ok T gl n C e := fun e ee => ih e (by subst ee; simp; omega)
          have hu : ∀ e, u = some e → Ok T gl n C e := fun e ee => ih e (by subst ee; simp; omega)
          exact ok_val (by rw [trE]) (k_slc ha.pe (ok_part g hl) (ok_part g hu)) (by intro _; rfl) rfl rfl
        | some st =>
          by_cases hr : l = none ∧ u = none ∧ ∃ k p1 p2, st = .UnaryOp .USub (.Constant (.int 1) k p1) p2
          · obtain ⟨rfl, rfl, k, p1, p2, rfl⟩ := hr
            exact ok_val (m := .rev (C.m pos) (trE C a sc).1) (by rw [trE]) (k_rev ha.pe) (by intro _; rfl) rfl rfl
          · by_cases hr0 : l = none ∧ u = none ∧ ∃ k p1, st = .Constant (.int 2) k p1
            · obtain ⟨rfl, rfl, k, p1, rfl⟩ := hr0
              exact ok_val (m := .ite (.val (.bl true)) (.blt (C.m pos) ("evens 0" : Str) [(trE C a sc).1]) .non) (by rw [trE]) (k_stp (k := 0) (pe_stp0 ha.pe) fun vs => by unfold bltM; rw [if_neg (by decide), if_neg (by decide), if_neg (by decide), if_neg (by decide), if_neg (by decide), if_neg (by decide), if_neg (by decide), if_neg (by decide), if_neg (by decide), if_neg (by decide), if_neg (by decide), if_neg (by decide), if_neg (by decide), if_neg (by decide), if_pos rfl]) (by intro _; rfl) rfl rfl
            · by_cases hr1 : (∃ k p1, l = some (.Constant (.int 1) k p1)) ∧ u = none ∧ ∃ k p1, st = .Constant (.int 2) k p1
              · obtain ⟨⟨k2, p2, rfl⟩, rfl, k, p1, rfl⟩ := hr1
                exact ok_val (m := .ite (.val (.bl true)) (.blt (C.m pos) ("evens 1" : Str) [(trE C a sc).1]) .non) (by rw [trE]) (k_stp (k := 1) (pe_stp1 ha.pe) fun vs => by unfold bltM; rw [if_neg (by decide), if_neg (by decide), if_neg (by decide), if_neg (by decide), if_neg (by decide), if_neg (by decide), if_neg (by decide), if_neg (by decide), if_neg (by decide), if_neg (by decide), if_neg (by decide), if_neg (by decide), if_neg (by decide), if_neg (by decide), if_neg (by decide), if_pos rfl]) (by intro _; rfl) rfl rfl
              · refine ok_bad ?_
                rw [trE.eq_def]
                split <;> first | rfl | (rename_i h; cases h; done) | (rename_i h; cases h; first | exact absurd ⟨rfl, rfl, _, _, _, rfl⟩ hr | exact absurd ⟨rfl, rfl, _, _, rfl⟩ hr0 | exact absurd ⟨⟨_, _, rfl⟩, rfl, _, _, rfl⟩ hr1) | (rename_i h3 h4; cases h4; exact (h3 _ _ _ _ rfl).elim)
      · have hb := (ih b (by simp; omega) sc X g).1
        exact ok_val (m := .idx (trE C a sc).1 (trE C b sc).1) (by cases b <;> first | (rw [trE.eq_def]; done) | exact absurd ⟨_, _, _, _, rfl⟩ hsl) (k_ix g.hu2 (fun l u s q e => hsl ⟨l, u, s, q, e⟩) ha.pe hb.pe) (by intro _; rfl) rfl rfl
    | Call f es kws pos =>
      have hes : ∀ e ∈ es, Ok T gl n C e := fun e he => ih e (by have := List.sizeOf_lt_of_mem he; simp; omega)
      cases kws with
      | cons k kws =>
        by_cases hsp : ∃ x p e kn ln lp kp rn c1 c2 rp, f = .Name x p ∧ es = [e] ∧ k = ⟨some kn, .Name ln lp, kp⟩ ∧ kws = [⟨some rn, .Constant (.bool true) c1 c2, rp⟩]
        · obtain ⟨x, p, e, kn, ln, lp, kp, rn, c1, c2, rp, rfl, rfl, rfl, rfl⟩ := hsp
          by_cases hc : (x == ("sorted" : Str) && kn == ("key" : Str) && ln == ("len" : Str) && rn == ("reverse" : Str) && isGl sc x && isGl sc ln && C.U.contains x && C.U.contains ln && !isStar e) = true
          · have hc' := hc
            simp only [Bool.and_eq_true, Bool.not_eq_true', beq_iff_eq] at hc'
            obtain ⟨⟨⟨⟨⟨⟨⟨⟨k1, k2⟩, k3⟩, k4⟩, k5⟩, k6⟩, k7⟩, k8⟩, k9⟩ := hc'
            subst k2 k4
            have ha := ok_list g hes (by unfold noStar; simp [k9])
            rw [trEs, trEs] at ha
            exact ok_val (m := .ite (.val (.bl true)) (.blt (C.m pos) ("sorted len" : Str) [(trE C e sc).1]) .non) (by rw [trE, if_pos hc]) (k_sortL g.calm g.hu2 k1 k3 (g.gl' k5) (g.unb x (by simpa using k7)) (g.gl' k6) (g.unb ln (by simpa using k8)) k9 ha) (by intro _; rfl) rfl rfl
          · exact ok_bad (by rw [trE, if_neg hc])
        · refine ok_bad ?_
          rw [trE.eq_def]
          split <;> first | rfl | (rename_i h; cases h; done) | (rename_i h; cases h; exact absurd ⟨_, _, _, _, _, _, _, _, _, _, _, rfl, rfl, rfl, rfl⟩ hsp)
      | nil =>
        cases f with
        | Name x p =>
          by_cases hss : ∃ y py e p2, es = [.Call (.Name y py) [e] [] p2] ∧ ssOk C sc x y e = true
          · obtain ⟨y, py, e, p2, rfl, hc⟩ := hss
            have hc' := hc
            unfold ssOk at hc'
            simp only [Bool.and_eq_true, Bool.not_eq_true', beq_iff_eq] at hc'
            obtain ⟨⟨⟨⟨⟨⟨k1, k2⟩, k3⟩, k4⟩, k5⟩, k6⟩, k7⟩ := hc'
            have he := (ih e (by simp; omega) sc X g).1.pe
            exact ok_val (m := .ite (.val (.bl true)) (.blt (C.m pos) ("sorted set" : Str) [(trE C e sc).1]) .non) (trE_sset hc) (k_sortSet g.calm g.hu2 k1 k2 (g.gl' k3) (g.unb x (by simpa using k5)) (g.gl' k4) (g.unb y (by simpa using k6)) (starE_eq k7) he) (by intro _; rfl) rfl rfl
          · exact ok_callName g hes hss
        | Attribute o x apos =>
          have ho := (ih o (by simp; omega) sc X g).1
          by_cases hc : (apos.endLine == pos.line && !isSup o && noStar es && decide (es.length < 30)) = true
          · have hc' := hc
            simp only [Bool.and_eq_true, decide_eq_true_eq, Bool.not_eq_true'] at hc'
            exact ok_val (by rw [trE, if_pos hc]) (k_mth g.hu2 hc'.1.1.2 hc'.1.1.1 hc'.1.2 hc'.2 ho.pe (ok_list g hes hc'.1.2) fun z => by rw [z, trEs]) (by intro _; rfl) rfl rfl
          · exact ok_bad (by rw [trE, if_neg hc])
        | _ => exact ok_bad (by rw [trE.eq_def])
    | ListComp elt gs scope pos =>
      have helt := ih elt (by simp; omega)
      match gs, ih with
      | [⟨tg, it, [], 0⟩], ih =>
        exact ok_comp g (ih tg (by simp; omega)) (ih it (by simp; omega)) helt (fun X' g' => k_yes) (by rw [trE])
      | [⟨tg, it, [c], 0⟩], ih =>
        exact ok_comp g (ih tg (by simp; omega)) (ih it (by simp; omega)) helt (fun X' g' => pts_one (ih c (by simp; omega) _ _ g').1.pt) (by rw [trE])
      | [⟨tg, it, [], 0⟩, ⟨tg1, it1, [], 0⟩], ih =>
        exact ok_comp2 g (ih tg (by simp; omega)) (ih it (by simp; omega)) (ih tg1 (by simp; omega)) (ih it1 (by simp; omega)) helt (fun X' g' => k_yes) (by rw [trE])
      | [⟨tg, it, [], 0⟩, ⟨tg1, it1, [c], 0⟩], ih =>
        exact ok_comp2 g (ih tg (by simp; omega)) (ih it (by simp; omega)) (ih tg1 (by simp; omega)) (ih it1 (by simp; omega)) helt (fun X' g' => pts_one (ih c (by simp; omega) _ _ g').1.pt) (by rw [trE])
      | [], _ => exact ok_bad (by rw [trE.eq_def])
      | _ :: _ :: _ :: _, _ => exact ok_bad (by first | (rw [trE.eq_def]; done) | (rw [trE.eq_def]; rfl) | (rw [trE.eq_def]; simp; done) | rfl)
      | [⟨_, _, _ :: _, _⟩, _], _ => exact ok_bad (by first | (rw [trE.eq_def]; done) | (rw [trE.eq_def]; rfl) | (rw [trE.eq_def]; simp; done) | rfl)
      | [⟨_, _, [], .ofNat (_ + 1)⟩, _], _ => exact ok_bad (by first | (rw [trE.eq_def]; done) | (rw [trE.eq_def]; rfl) | (rw [trE.eq_def]; simp; done) | rfl)
      | [⟨_, _, [], .negSucc _⟩, _], _ => exact ok_bad (by first | (rw [trE.eq_def]; done) | (rw [trE.eq_def]; rfl) | (rw [trE.eq_def]; simp; done) | rfl)
      | [⟨_, _, [], .ofNat 0⟩, ⟨_, _, _ :: _ :: _, _⟩], _ => exact ok_bad (by first | (rw [trE.eq_def]; done) | (rw [trE.eq_def]; rfl) | (rw [trE.eq_def]; simp; done) | rfl)
      | [⟨_, _, [], .ofNat 0⟩, ⟨_, _, [], .ofNat (_ + 1)⟩], _ => exact ok_bad (by first | (rw [trE.eq_def]; done) | (rw [trE.eq_def]; rfl) | (rw [trE.eq_def]; simp; done) | rfl)
      | [⟨_, _, [], .ofNat 0⟩, ⟨_, _, [], .negSucc _⟩], _ => exact ok_bad (by first | (rw [trE.eq_def]; done) | (rw [trE.eq_def]; rfl) | (rw [trE.eq_def]; simp; done) | rfl)
      | [⟨_, _, [], .ofNat 0⟩, ⟨_, _, [_], .ofNat (_ + 1)⟩], _ => exact ok_bad (by first | (rw [trE.eq_def]; done) | (rw [trE.eq_def]; rfl) | (rw [trE.eq_def]; simp; done) | rfl)
      | [⟨_, _, [], .ofNat 0⟩, ⟨_, _, [_], .negSucc _⟩], _ => exact ok_bad (by first | (rw [trE.eq_def]; done) | (rw [trE.eq_def]; rfl) | (rw [trE.eq_def]; simp; done) | rfl)
      | [⟨_, _, _ :: _ :: _, _⟩], _ => exact ok_bad (by first | (rw [trE.eq_def]; done) | (rw [trE.eq_def]; rfl) | (rw [trE.eq_def]; simp; done) | rfl)
      | [⟨_, _, [], .ofNat (_ + 1)⟩], _ => exact ok_bad (by first | (rw [trE.eq_def]; done) | (rw [trE.eq_def]; rfl) | (rw [trE.eq_def]; simp; done) | rfl)
      | [⟨_, _, [], .negSucc _⟩], _ => exact ok_bad (by first | (rw [trE.eq_def]; done) | (rw [trE.eq_def]; rfl) | (rw [trE.eq_def]; simp; done) | rfl)
      | [⟨_, _, [_], .ofNat (_ + 1)⟩], _ => exact ok_bad (by first | (rw [trE.eq_def]; done) | (rw [trE.eq_def]; rfl) | (rw [trE.eq_def]; simp; done) | rfl)
      | [⟨_, _, [_], .negSucc _⟩], _ => exact ok_bad (by first | (rw [trE.eq_def]; done) | (rw [trE.eq_def]; rfl) | (rw [trE.eq_def]; simp; done) | rfl)
    | _ => exact ok_bad (by rw [trE.eq_def])
  · cases e with
    | Name x p =>
      rw [trG]
      cases hi : slotL C sc x with
      | none => exact k_gbad
      | some i =>
        obtain ⟨l1, l2, l3⟩ := g.lc hi
        exact k_gname (.inl rfl) g.nd l1 l2 l3
    | Tuple es k pos =>
      have hes : ∀ e ∈ es, Ok T gl n C e := fun e he => ih e (by have := List.sizeOf_lt_of_mem he; simp; omega)
      rw [trG]
      split
      · rename_i hs
        obtain ⟨h1, h2, h3, h4⟩ := ok_targets g hes hs
        exact k_gtup g.calm h2 h3 h4 h1
      · exact k_gbad
    | Subscript a b pos =>
      by_cases hsl : ∃ l u s q, b = .Slice l u s q
      · obtain ⟨l, u, st, q, rfl⟩ := hsl
        rw [trG]
        exact k_gbad
      · have ha := (ih a (by simp; omega) sc X g).1
        have hb := (ih b (by simp; omega) sc X g).1
        have e : trG C (.Subscript a b pos) sc = .sub (trE C a sc).1 (trE C b sc).1 := by cases b <;> first | (rw [trG.eq_def]; done) | exact absurd ⟨_, _, _, _, rfl⟩ hsl
        rw [e]
        exact k_gsub (fun l u s q e => hsl ⟨l, u, s, q, e⟩) ha.pe hb.pe
    | _ => rw [trG.eq_def]; exact k_gbad
theorem ok_all : ∀ e : Expr, Ok T gl n C e := by
  have key : ∀ (k : Nat) (e : Expr), sizeOf e < k → Ok T gl n C e := by
    intro k
    induction k with
    | zero => intro e h; omega
    | succ k ih => intro e h; exact ok_step e fun e' h' => ih e' (by omega)
  exact fun e => key _ e (Nat.lt_succ_self _)
end
end MI
set_option Elab.async false
set_option linter.all false
set_option maxRecDepth 100000
set_option maxHeartbeats 8000000
namespace MI
open PySem PySem.Spec PyProof.Rows L2
section
variable [XT] {T : Str → Option Fn} {gl : Str → Option D} {n : Nat} {C : TC} {sc : Scope} {X : Cx}
def OkS (T : Str → Option Fn) (gl : Str → Option D) (n : Nat) (C : TC) (sc : Scope) (st : Stmt) : Prop := ∀ X, Good T gl n C sc X → PS X st (tSs X fun σ => exS (callN T gl n) gl (trS C sc st) σ)
theorem s_bad {st : Stmt} (h : trS C sc st = .bad) : OkS T gl n C sc st := fun X g => ⟨fun pins s σ H D I hw => by
  obtain ⟨B, ρ, S, σd, fl, σd', S', R, r, e, p⟩ := hw
  rw [h] at e
  unfold exS at e
  exact fail_ok (S := S) e⟩
theorem ok_suite : ∀ {sts : List Stmt}, (∀ st ∈ sts, OkS T gl n C sc st) → ∀ X, Good T gl n C sc X → PSs X sts (tSs X fun σ => exSs (callN T gl n) gl (trSs C sc sts) σ)
  | [], _, X, g => by
    rw [trSs]
    refine pss_nil.imp fun D σ H ⟨B, ρ, S, σd, fl, σd', S', R, r, e, p⟩ => ?_
    unfold exSs at e
    obtain ⟨ee, rfl⟩ := ret_ok e
    cases ee
    exact p ρ H σ Ext.refl R r
  | st :: sts, h, X, g => by
    rw [trSs]
    refine (pss_cons (h st List.mem_cons_self X g) (ok_suite (fun s hs => h s (List.mem_cons_of_mem _ hs)) X g)).imp fun D σ H ⟨B, ρ, S, σd, fl, σd', S', R, r, e, p⟩ => ?_
    unfold exSs at e
    obtain ⟨⟨f1, σ1⟩, S1, e1, e2⟩ := bnd_ok e
    refine ⟨B, ρ, S, σd, f1, σ1, S1, R, r, e1, fun ρ1 H1 σ2 x1 R1 r1 => ?_⟩
    cases f1 with
    | nx => exact ⟨B, ρ1, S1, σ1, fl, σd', S', R1, r1, e2, fun ρ2 H2 σ3 x2 R2 r2 => p ρ2 H2 σ3 (x1.trans x2) R2 r2⟩
    | brk => obtain ⟨ee, rfl⟩ := ret_ok e2; cases ee; exact p ρ1 H1 σ2 x1 R1 r1
    | cont => obtain ⟨ee, rfl⟩ := ret_ok e2; cases ee; exact p ρ1 H1 σ2 x1 R1 r1
    | ret v => obtain ⟨ee, rfl⟩ := ret_ok e2; cases ee; exact p ρ1 H1 σ2 x1 R1 r1
theorem sw_cases (e : Expr) (t : Expr) (l : Nat) (env : PySem.Env) : swapsWith e (some t) l env = pure false ∨ ((∃ elt gs s q, e = .ListComp elt gs s q) ∧ (∃ y py, t = .Name y py ∧ env.scope.names.lookup y = some .local) ∧ swapsWith e (some t) l env = pure true) ∨ ∃ m, trE C e sc = m ∧ m = bad := by
  cases e with
  | ListComp elt gs s q =>
    cases t with
    | Name y py =>
      have h : swapsWith (.ListComp elt gs s q) (some (.Name y py)) l env = pure (env.blockKind == .function && env.kindOf y == some .local && py.line == q.line && !(s.names.any fun (n, k) => n == y && (k == .local || k == .cell))) := rfl
      rw [h]
      generalize hb : (env.blockKind == .function && env.kindOf y == some .local && py.line == q.line && !(s.names.any fun (n, k) => n == y && (k == .local || k == .cell))) = b
      cases b with
      | false => exact .inl rfl
      | true =>
        simp only [Bool.and_eq_true] at hb
        exact .inr (.inl ⟨⟨_, _, _, _, rfl⟩, ⟨y, py, rfl, eq_of_beq hb.1.1.2⟩, rfl⟩)
    | _ => exact .inl rfl
  | SetComp => exact .inr (.inr ⟨_, by rw [trE.eq_def], rfl⟩)
  | DictComp => exact .inr (.inr ⟨_, by rw [trE.eq_def], rfl⟩)
  | _ => exact .inl rfl
theorem asg_imp {cf : Cf} {t : MG} {m : ME} : ∀ D σ H, tSs X (fun σ => exS cf gl (.asg t m) σ) D σ H → tAsg (tE X cf gl m) (tGt X cf gl t) D σ H := by
  rintro D σ H ⟨B, ρ, S, σd, fl, σd', S', R, r, e, p⟩
  unfold exS at e
  obtain ⟨d, S1, e1, e2⟩ := bnd_ok e
  obtain ⟨σ2, S2, e3, e4⟩ := bnd_ok e2
  obtain ⟨ee, rfl⟩ := ret_ok e4
  cases ee
  exact ⟨B, ρ, S, σd, d, S1, R, r, e1, fun ρ1 H1 v x1 R1 r1 => ⟨B, ρ1, S1, σd, d, _, _, R1, r.ext x1, r1, e3, fun ρ2 H2 σ2 x2 R2 r2 _ => p ρ2 H2 σ2 (x1.trans x2) R2 r2⟩⟩
theorem s_asg0 (t e : Expr) (pos : Pos) {X : Cx} (g : Good T gl n C sc X) (heq : trS C sc (.Assign [t] e pos) = .asg (trG C t sc) (trE C e sc).1) (hw0 : (∀ es p, t ≠ .List es p) → swappedStores [t] e X.env = pure none) : PS X (.Assign [t] e pos) (tSs X fun σ => exS (callN T gl n) gl (trS C sc (.Assign [t] e pos)) σ) := by
  have he := (ok_all (T := T) (gl := gl) (n := n) (C := C) e sc X g).1
  have hg := (ok_all (T := T) (gl := gl) (n := n) (C := C) t sc X g).2
  rw [heq]
  have badE : (trE C e sc).1 = .bad → PS X (.Assign [t] e pos) (tSs X fun σ => exS (callN T gl n) gl (.asg (trG C t sc) (trE C e sc).1) σ) := fun z => ⟨fun pins s σ H D I hw => by
    obtain ⟨B, ρ, S, σd, fl, σd', S', R, r, e, p⟩ := hw
    rw [z] at e
    unfold exS evE at e
    obtain ⟨_, _, e1, _⟩ := bnd_ok e
    exact fail_ok (S := S) e1⟩
  have badG : trG C t sc = .bad → PS X (.Assign [t] e pos) (tSs X fun σ => exS (callN T gl n) gl (.asg (trG C t sc) (trE C e sc).1) σ) := fun z => ⟨fun pins s σ H D I hw => by
    obtain ⟨B, ρ, S, σd, fl, σd', S', R, r, e, p⟩ := hw
    rw [z] at e
    unfold exS at e
    obtain ⟨d, S1, e1, e2⟩ := bnd_ok e
    obtain ⟨_, _, e3, _⟩ := bnd_ok e2
    unfold evG at e3
    exact fail_ok (S := S1) e3⟩
  rcases sw_cases (C := C) (sc := sc) e t pos.line X.env with hs | ⟨⟨elt, gs, s, q, rfl⟩, ⟨y, py, rfl, hl⟩, hs⟩ | ⟨m, h1, h2⟩
  · by_cases ht : isStar t = true ∨ ∃ es p, t = .List es p
    · refine badG ?_
      rcases ht with h | ⟨es, p, rfl⟩
      · cases t with
        | Starred => rw [trG.eq_def]
        | _ => exact absurd (show false = true from h) (by decide)
      · rw [trG.eq_def]
    · have h1 : (assignEach [t] X.env).map (·.2) = [assign t X.env] := by
        rw [each_plain (by simpa using fun z => ht (.inl z))]
        rfl
      have hw : swappedStores [t] e X.env = pure none := hw0 fun es p z => ht (.inr ⟨es, p, z⟩)
      exact (ps_asg he.pe hg hs hw h1).imp asg_imp
  · -- the comprehension's value is stored at once
    rw [trG]
    cases hi : slotL C sc y with
    | none =>
      rw [trG, hi] at badG
      exact badG rfl
    | some i =>
      obtain ⟨l1, l2, l3⟩ := g.lc hi
      refine (he.ps rfl i y py pos l1 hl hs).imp fun D σ H h => ?_
      obtain ⟨B, ρ, S, σd, d, S1, R, r, e1, p⟩ := asg_imp D σ H h
      refine ⟨B, ρ, S, σd, d, S1, R, r, e1, fun ρ1 H1 v x1 R1 r1 => ?_⟩
      obtain ⟨B2, ρ2, S2, σd2, d2, σd3, S3, R2, r2, rd2, e2, p2⟩ := p ρ1 H1 v x1 R1 r1
      have e3 : evG (callN T gl n) gl σd2 (.name i) d2 S2 = .ok (σd2.set i (some d2)) S2 := by unfold evG; rfl
      have e2' : evG (callN T gl n) gl σd2 (.name i) d2 S2 = .ok σd3 S3 := e2
      rw [e3] at e2'
      cases e2'
      exact p2 ρ2 H1 _ Ext.refl R2 (r2.set rd2) fun vs hvs => wipe_set (hvs i (List.mem_singleton.mpr rfl))
  · exact badE (by rw [h1, h2]; rfl)
theorem sw_fold {x y : Str} {px py p1 p2 : Pos} {k1 k2 : Nat} {a b : Expr} {env : PySem.Env} (h : [a, b].all (foldedForSure 8) = true) : swappedStores [.Tuple [.Name x px, .Name y py] k1 p1] (.Tuple [a, b] k2 p2) env = pure none := by
  unfold swappedStores
  dsimp only
  split
  · rfl
  · split
    · rfl
    · split
      · rfl
      · first | rfl | rw [if_pos h]
theorem sw_cell {x y : Str} {px py p1 p2 : Pos} {k1 k2 : Nat} {a b : Expr} {env : PySem.Env} (h : env.kindOf x ≠ some .local ∨ env.kindOf y ≠ some .local) : swappedStores [.Tuple [.Name x px, .Name y py] k1 p1] (.Tuple [a, b] k2 p2) env = pure none := by
  unfold swappedStores
  dsimp only
  split
  · rfl
  · split
    · rfl
    · rename_i h2
      rw [if_pos]
      rw [Bool.or_eq_true]
      refine .inl (bne_iff_ne.mpr ?_)
      have key : ∀ (f : Expr → Option Str), (f (.Name x px) = none ∨ f (.Name y py) = none) → ([Expr.Name x px, Expr.Name y py].filterMap f).length ≠ 2 := fun f hf => by
        rcases hf with hf | hf
        · cases hy : f (.Name y py) <;> simp [hf, hy]
        · cases hx : f (.Name x px) <;> simp [hf, hx]
      refine key _ ?_
      rcases h with h | h
      · refine .inl ?_
        have hk : (env.kindOf x == some .local) = false := beq_eq_false_iff_ne.mpr h
        simp [hk]
      · refine .inr ?_
        have hk : (env.kindOf y == some .local) = false := beq_eq_false_iff_ne.mpr h
        simp [hk]
theorem sw_par {x y : Str} {px py p1 p2 : Pos} {k1 k2 : Nat} {a b : Expr} {X : Cx} (g : Good T gl n C sc X) (hfo : ([a, b].all (foldedForSure 8) || cel1 sc x || cel1 sc y) = true) : swappedStores [.Tuple [.Name x px, .Name y py] k1 p1] (.Tuple [a, b] k2 p2) X.env = pure none := by
  rw [Bool.or_eq_true, Bool.or_eq_true] at hfo
  have cel : ∀ {z : Str}, cel1 sc z = true → X.env.kindOf z ≠ some .local := fun {z} h => by
    unfold cel1 at h
    split at h
    · rename_i q
      have := (g.scs.cel _ q).1
      intro z2
      have z3 : X.env.scope.names.lookup z = some .local := z2
      rw [this] at z3
      cases z3
    · cases h
  rcases hfo with (h | h) | h
  · exact sw_fold h
  · exact sw_cell (.inl (cel h))
  · exact sw_cell (.inr (cel h))
theorem s_par {x y : Str} {px py p1 p2 pos : Pos} {k1 k2 : Nat} {a b : Expr} : OkS T gl n C sc (.Assign [.Tuple [.Name x px, .Name y py] k1 p1] (.Tuple [a, b] k2 p2) pos) := by
  intro X g
  have heq : trS C sc (.Assign [.Tuple [.Name x px, .Name y py] k1 p1] (.Tuple [a, b] k2 p2) pos) = if ([a, b].all (foldedForSure 8) || cel1 sc x || cel1 sc y) = true then .asg (trG C (.Tuple [.Name x px, .Name y py] k1 p1) sc) (trE C (.Tuple [a, b] k2 p2) sc).1 else match slotL C sc x, slotL C sc y with
    | some i, some j => if (!(i == j) && loc1 sc x && loc1 sc y && noStar [a, b] && px.line == py.line && !([a, b].all (foldedForSure 8)) && !([a, b].all (constantsAlone 8))) = true then .par i j (trE C a sc).1 (trE C b sc).1 else .bad
    | _, _ => .bad := by rw [trS] <;> rfl
  by_cases hfo : ([a, b].all (foldedForSure 8) || cel1 sc x || cel1 sc y) = true
  · rw [if_pos hfo] at heq
    exact s_asg0 _ _ _ g heq fun _ => sw_par g hfo
  rw [if_neg hfo] at heq
  cases hi : slotL C sc x with
  | none => exact s_bad (by rw [heq, hi]) X g
  | some i =>
    cases hj : slotL C sc y with
    | none => exact s_bad (by rw [heq, hi, hj]) X g
    | some j =>
      simp only [hi, hj] at heq
      split at heq
      · rename_i hc
        simp only [Bool.and_eq_true, Bool.not_eq_true', beq_eq_false_iff_ne] at hc
        obtain ⟨⟨⟨⟨⟨⟨hij, lx⟩, ly⟩, hs⟩, hline⟩, hf⟩, hk⟩ := hc
        rw [heq]
        have ha := (ok_all (T := T) (gl := gl) (n := n) (C := C) a sc X g).1
        have hb := (ok_all (T := T) (gl := gl) (n := n) (C := C) b sc X g).1
        obtain ⟨l1, l2, l3⟩ := g.lc hi
        obtain ⟨m1, m2, m3⟩ := g.lc hj
        have loc : ∀ {z : Str}, loc1 sc z = true → X.env.scope.names.lookup z = some .local := fun {z} h => by
          unfold loc1 at h
          split at h
          · rename_i q; exact g.scs.loc _ q
          · cases h
        have st : isStar a = false ∧ isStar b = false := by
          unfold noStar at hs
          simp only [List.all_cons, List.all_nil, Bool.and_true, Bool.and_eq_true, Bool.not_eq_true'] at hs
          exact hs
        have hne : x ≠ y := fun e => by
          subst e
          rw [hi] at hj
          cases hj
          exact hij rfl
        refine ⟨fun pins s σ H D I hw => ?_⟩
        have kf : X.env.blockKind = .function := by
          have h0 := I.ok.kind
          unfold Env.blockKind
          rw [h0]
          rfl
        have hwz : swappedStores [.Tuple [.Name x px, .Name y py] k1 p1] (.Tuple [a, b] k2 p2) X.env = pure (some [x, y]) := by
          have kx : X.env.kindOf x = some .local := loc lx
          have ky : X.env.kindOf y = some .local := loc ly
          have hl2 : py.line = px.line := (eq_of_beq hline).symm
          have nst : ∀ {e : Expr}, isStar e = false → ∀ v q, e ≠ .Starred v q := fun {e} h v q z => by rw [z] at h; cases h
          unfold swappedStores
          simp only [List.length_cons, List.length_nil, kf]
          rw [if_neg (by decide), if_neg (by
            intro h
            obtain ⟨e, he, h2⟩ := List.any_eq_true.mp h
            have n2 : ∀ v q, e ≠ .Starred v q := by
              rcases List.mem_cons.mp he with z | z
              · rw [z]; exact nst st.1
              · rw [List.mem_singleton.mp z]; exact nst st.2
            split at h2
            · exact n2 _ _ rfl
            · cases h2)]
          have key : ∀ (f : Expr → Option Str), f (.Name x px) = some x → f (.Name y py) = some y → [Expr.Name x px, Expr.Name y py].filterMap f = [x, y] := fun f h1 h2 => by simp [h1, h2]
          rw [key _ (by simp [kx, Expr.pos]) (by simp [ky, hl2, Expr.pos]), if_neg (by simp [List.eraseDups_cons, hne, Ne.symm hne]), if_neg (by rw [hf]; decide), if_neg (by rw [hk]; decide)]
        refine (ps_par g.calm g.nd l1 m1 hij (loc lx) (loc ly) (k_cons st.1 ha.pe (k_cons st.2 hb.pe k_nil)) hwz).run pins s σ H D I ?_
        obtain ⟨B, ρ, S, σd, fl, σd', S', R, r, e, p⟩ := hw
        unfold exS at e
        obtain ⟨u, S1, e1, e2⟩ := bnd_ok e
        obtain ⟨v, S2, e3, e4⟩ := bnd_ok e2
        obtain ⟨ee, rfl⟩ := ret_ok e4
        cases ee
        have e5 : evEs (callN T gl n) gl σd [(trE C a sc).1, (trE C b sc).1] S = .ok [u, v] S' := by simp only [evEs, bnd, e1, e3, MI.R.then, MI.ret]
        refine ⟨B, ρ, S, σd, [u, v], S', R, r, e5, fun ρ1 H1 vs x1 R1 r1 => ?_⟩
        · obtain ⟨w, z, rfl, rw1, rw2⟩ := two_of r1
          exact ⟨w, z, rfl, p ρ1 H1 _ x1 R1 (((r.ext x1).set rw1).set rw2)⟩
      · exact s_bad heq X g
theorem s_asg (t e : Expr) (pos : Pos) : OkS T gl n C sc (.Assign [t] e pos) := by
  intro X g
  by_cases hb : (isTupE t && isTupE e) = true
  · by_cases hsh : ∃ x px y py k1 p1 a b k2 p2, t = .Tuple [.Name x px, .Name y py] k1 p1 ∧ e = .Tuple [a, b] k2 p2
    · obtain ⟨x, px, y, py, k1, p1, a, b, k2, p2, rfl, rfl⟩ := hsh
      exact s_par X g
    · refine s_bad ?_ X g
      rw [trS.eq_def]
      split <;> first | rfl | (rename_i h; cases h; done) | (rename_i h; cases h; exact absurd ⟨_, _, _, _, _, _, _, _, _, _, rfl, rfl⟩ hsh) | (rename_i h; cases h; rw [if_pos hb])
  have heq : trS C sc (.Assign [t] e pos) = .asg (trG C t sc) (trE C e sc).1 := by
    rw [trS.eq_def]
    split <;> first | (rename_i h; cases h; done) | (rename_i h; cases h; exact absurd rfl hb) | (rename_i h; cases h; rw [if_neg hb]) | exact ((by assumption : ∀ (t1 e1 : Expr) (q : Pos), Stmt.Assign [t] e pos = Stmt.Assign [t1] e1 q → False) t e pos rfl).elim
  exact s_asg0 t e pos g heq fun hl => by
    cases t with
    | Tuple es k p => cases e <;> first | rfl | exact absurd rfl hb
    | List es p => exact absurd rfl (hl _ _)
    | _ => rfl
theorem s_aug (x : Str) (p : Pos) (op : Operator) (e : Expr) (pos : Pos) : OkS T gl n C sc (.AugAssign (.Name x p) op e pos) := by
  intro X g
  have he := (ok_all (T := T) (gl := gl) (n := n) (C := C) e sc X g).1
  have heq : trS C sc (.AugAssign (.Name x p) op e pos) = (slotL C sc x).elim .bad fun i => .aug i op (trE C e sc).1 := by rw [trS]
  cases hi : slotL C sc x with
  | none => exact s_bad (by rw [heq, hi]; rfl) X g
  | some i =>
    rw [heq, hi]
    show PS X _ (tSs X fun σ => exS (callN T gl n) gl (.aug i op (trE C e sc).1) σ)
    obtain ⟨l1, l2, l3⟩ := g.lc hi
    have go : ∀ (op : Operator) (f : Int → Int → Int), PIp X op (ipI f) → (∀ (σd : Env) (a b : Int) (S S' : Sto) (q : Fl × Env), (match op with
        | .Add => ret (.nx, σd.set i (some (.int (a + b))))
        | .Sub => ret (.nx, σd.set i (some (.int (a - b))))
        | _ => fail : SR) S = .ok q S' → q = (.nx, σd.set i (some (.int (f a b)))) ∧ S' = S) → PS X (.AugAssign (.Name x p) op e pos) (tSs X fun σ => exS (callN T gl n) gl (.aug i op (trE C e sc).1) σ) := by
      intro op f hp hf
      refine (ps_aug g.nd l1 l2 he.pe hp l3).imp ?_
      rintro D σ H ⟨B, ρ, S, σd, fl, σd', S', R, r, e, pp⟩
      unfold exS at e
      obtain ⟨d, S1, e1, e2⟩ := bnd_ok e
      obtain ⟨e3, rfl⟩ := ofO_ok e1
      obtain ⟨d2, S2, e4, e5⟩ := bnd_ok e2
      obtain ⟨w, hw, rw'⟩ := r.2 i d e3
      refine ⟨w, hw, B, ρ, _, σd, d2, S2, R, r, e4, fun ρ1 H1 v x1 R1 r1 => ?_⟩
      cases d with
      | int a =>
        cases d2 with
        | int b =>
          obtain ⟨ee, rfl⟩ := hf _ _ _ _ _ _ e5
          cases ee
          cases rw'
          cases r1
          exact ⟨a, b, rfl, rfl, pp ρ1 H1 _ x1 R1 ((r.ext x1).set rfl)⟩
        | _ => exact fail_ok (S := S2) e5
      | _ => exact fail_ok (S := S2) e5
    cases op with
    | Add => exact go .Add _ ip_add fun σd a b S S' q h => ret_ok h
    | Sub => exact go .Sub _ ip_sub fun σd a b S S' q h => ret_ok h
    | _ =>
      refine ⟨fun pins s σ H D I hw => ?_⟩
      obtain ⟨B, ρ, S, σd, fl, σd', S', R, r, e, pp⟩ := hw
      unfold exS at e
      obtain ⟨d, S1, e1, e2⟩ := bnd_ok e
      obtain ⟨d2, S2, e4, e5⟩ := bnd_ok e2
      cases d with
      | int a => cases d2 with
        | int b => exact fail_ok (S := S2) e5
        | _ => exact fail_ok (S := S2) e5
      | _ => exact fail_ok (S := S2) e5
/-- a statement that has no other within, and that raises nothing by itself -/
def isSmall : Stmt → Bool
  | .If .. | .For .. | .While .. | .Try .. | .Raise .. => false
  | _ => true
theorem ok_small (st : Stmt) (hsm : isSmall st = true) : OkS T gl n C sc st := by
  have E := fun (e : Expr) (X : Cx) (g : Good T gl n C sc X) => ok_all (T := T) (gl := gl) (n := n) (C := C) e sc X g
  cases st with
  | Assign ts e pos =>
    match ts with
    | [t] => exact s_asg t e pos
    | [] => exact s_bad (by rw [trS.eq_def])
    | _ :: _ :: _ => exact s_bad (by rw [trS.eq_def]; split <;> first | rfl | (rename_i h; cases h; done))
  | AugAssign t op e pos =>
    cases t with
    | Name x p => exact s_aug x p op e pos
    | _ => exact s_bad (by rw [trS.eq_def])
  | Expr e pos =>
    by_cases hc : isComp e = true
    · exact s_bad (by rw [trS, if_pos hc])
    · intro X g
      have heq : trS C sc (.Expr e pos) = .expr (trE C e sc).1 := by rw [trS, if_neg hc]
      rw [heq]
      by_cases hs : swapsWith e none pos.line X.env = pure false
      · refine (ps_expr (E e X g).1.pe hs).imp fun D σ H ⟨B, ρ, S, σd, fl, σd', S', R, r, e, p⟩ => ?_
        unfold exS at e
        obtain ⟨d, S1, e1, e2⟩ := bnd_ok e
        obtain ⟨ee, rfl⟩ := ret_ok e2
        cases ee
        exact ⟨B, ρ, S, σd, d, _, R, r, e1, fun ρ1 H1 v x1 R1 r1 => p ρ1 H1 σ x1 R1 (r.ext x1)⟩
      · have hz : trE C e sc = bad := by
          cases e with
          | SetComp => rw [trE.eq_def]
          | DictComp => rw [trE.eq_def]
          | ListComp => exact absurd rfl hc
          | _ => exact absurd rfl hs
        rw [hz]
        refine ⟨fun pins s σ H D I hw => ?_⟩
        obtain ⟨B, ρ, S, σd, fl, σd', S', R, r, e, p⟩ := hw
        unfold exS bad evE at e
        obtain ⟨_, _, e1, _⟩ := bnd_ok e
        exact fail_ok (S := S) e1
  | Return o pos =>
    intro X g
    cases o with
    | none =>
      rw [trS]
      refine ps_retN.imp fun D σ H ⟨B, ρ, S, σd, fl, σd', S', R, r, e, p⟩ => ?_
      unfold exS evE at e
      obtain ⟨d, S1, e1, e2⟩ := bnd_ok e
      obtain ⟨rfl, rfl⟩ := ret_ok e1
      obtain ⟨ee, rfl⟩ := ret_ok e2
      cases ee
      exact p ρ H σ Ext.refl R r _ rfl
    | some e =>
      rw [trS]
      refine (ps_ret (E e X g).1.pe).imp fun D σ H ⟨B, ρ, S, σd, fl, σd', S', R, r, e, p⟩ => ?_
      unfold exS at e
      obtain ⟨d, S1, e1, e2⟩ := bnd_ok e
      obtain ⟨ee, rfl⟩ := ret_ok e2
      cases ee
      exact ⟨B, ρ, S, σd, d, _, R, r, e1, fun ρ1 H1 v x1 R1 r1 => p ρ1 H1 σ x1 R1 (r.ext x1) v r1⟩
  | Break pos =>
    intro X g
    rw [trS]
    refine ps_break.imp fun D σ H ⟨B, ρ, S, σd, fl, σd', S', R, r, e, p⟩ => ?_
    unfold exS at e
    obtain ⟨ee, rfl⟩ := ret_ok e
    cases ee
    exact p ρ H σ Ext.refl R r
  | Continue pos =>
    intro X g
    rw [trS]
    refine ps_continue.imp fun D σ H ⟨B, ρ, S, σd, fl, σd', S', R, r, e, p⟩ => ?_
    unfold exS at e
    obtain ⟨ee, rfl⟩ := ret_ok e
    cases ee
    exact p ρ H σ Ext.refl R r
  | Pass pos =>
    intro X g
    rw [trS]
    refine ps_pass.imp fun D σ H ⟨B, ρ, S, σd, fl, σd', S', R, r, e, p⟩ => ?_
    unfold exS at e
    obtain ⟨ee, rfl⟩ := ret_ok e
    cases ee
    exact p ρ H σ Ext.refl R r
  | If => cases hsm
  | For => cases hsm
  | While => cases hsm
  | Try => cases hsm
  | Raise => cases hsm
  | _ => exact s_bad (by rw [trS.eq_def])
end
end MI
set_option Elab.async false
set_option linter.all false
set_option maxRecDepth 100000
set_option maxHeartbeats 4000000
/-! exceptions: what leaves an expression -/
namespace MI
open PySem PySem.Spec PyProof.Rows L2
section
variable {X : Cx}
theorem PS_nox {st : Stmt} {t : TS} (h : PS X.nox st t) : PS X st t := ⟨fun pins s σ H D I hw =>
  wpAny_mono (h.run pins s σ H D (I.wish _) hw) (fun _ _ q => q.unwish) fun _ _ z => False.elim z⟩
theorem PG_nox {e : Expr} {t : TG} (h : PG X.nox e t) : PG X e t := ⟨fun pins s σ H v u Q I r hw =>
  wpAny_mono (h.run pins s σ H v u Q (I.wish _) r hw) (fun _ _ ⟨σ', H', J, q⟩ => ⟨σ', H', J.unwish, q⟩) fun _ _ z => False.elim z⟩
theorem PI_nox {tg it : Expr} {t : TI} (h : PI X.nox tg it t) : PI X tg it t := ⟨fun pins s σ H R I hw =>
  wpAny_mono (h.run pins s σ H R (I.wish _) hw) (fun _ _ z => wpAny_mono z (fun _ _ ⟨it, fp, tn, J, H', e1, I1, e2, e3, e4, e5⟩ => ⟨it, fp, tn, J, H', e1, I1.unwish, e2, e3, e4, e5⟩) fun _ _ z => False.elim z) fun _ _ z => False.elim z⟩
theorem PA_nox {es : List Expr} {t : TA} (h : PA X.nox es t) : PA X es t := ⟨fun pos pins s σ H Q I hw =>
  wpAny_mono (h.run pos pins s σ H Q (I.wish _) hw) (fun _ _ ⟨vs, H', J, r, q⟩ => ⟨vs, H', J.unwish, r, q⟩) fun _ _ z => False.elim z⟩
end
theorem orM_ok {α : Type} {a b : M α} {S S' : Sto} {x : α} (h : orM a b S = .ok x S') : a S = .ok x S' ∨ b S = .ok x S' := by
  unfold orM at h
  split at h
  · rename_i e; cases h; exact .inl e
  · exact .inr h
section
variable [XT] (X : Cx) (cf : Cf) (gl : Str → Option D) (W : WX)
def tXE (m : ME) : L2.St → Hp → Prop := fun σ H => ∃ B ρ S σd d S', Rel (kx X B) ρ H S ∧ RelSt (kx X B) ρ H σd σ ∧ xE cf gl σd m S = .ok d S' ∧ PostX (kx X B) ρ H d S' (WE W σ)
def tEx (m : ME) : TE := fun σ H Q => tE X cf gl m σ H Q ∨ tXE X cf gl W m σ H
def tXAs (ms : List ME) : L2.St → Hp → Prop := fun σ H => ∃ B ρ S σd d S', Rel (kx X B) ρ H S ∧ RelSt (kx X B) ρ H σd σ ∧ xEs cf gl σd ms S = .ok d S' ∧ PostX (kx X B) ρ H d S' (WE W σ)
def tAx (ms : List ME) : TA := fun σ H Q => tAs X cf gl ms σ H Q ∨ tXAs X cf gl W ms σ H
def tXs (g : Env → XR) : L2.St → Hp → Prop := fun σ H => ∃ B ρ S σd d σd' S', Rel (kx X B) ρ H S ∧ RelSt (kx X B) ρ H σd σ ∧ g σd S = .ok (d, σd') S' ∧
  ∀ ρ' H' σ' cls dd, Ext ρ H ρ' H' → Rel (kx X B) ρ' H' S' → RelSt (kx X B) ρ' H' σd' σ' → XRel X.K X.mg H' d cls dd → W cls dd σ' H'
def tSx (f : Env → SR) (g : Env → XR) : TS := fun E σ H => tSs X f E σ H ∨ tXs X W g σ H
end
structure GoodX [XT] (T : Str → Option Fn) (gl : Str → Option D) (n : Nat) (C : TC) (sc : Scope) (X : Cx) (W : WX) : Prop where
  good : Good T gl n C sc X.nox
  tk : Takes X W
  po : PassesOwn (model X.prog X.w) X.A X.env X.xe
  hs : X.stack = X.env :: X.outer
  hf : X.env.frame = some X.env.locals
section
variable [XT] {X : Cx} {cf : Cf} {gl : Str → Option D} {W : WX} {a : Expr} {es : List Expr} {ma : ME} {ms : List ME} {pos : Pos}
theorem kx_nil : PA X [] (tAx X cf gl W []) := by
  refine (k_nil (cf := cf) (gl := gl)).imp fun σ H Q h => ?_
  rcases h with h | ⟨B, ρ, S, σd, d, S', R, r, e, p⟩
  · exact h
  · unfold xEs at e; exact (fail_ok (S := S) e)
theorem kx_cons (hs : isStar a = false) (ha : PE X a (tEx X cf gl W ma)) (hr : PA X es (tAx X cf gl W ms)) : PA X (a :: es) (tAx X cf gl W (ma :: ms)) := by
  refine (pa_cons ha hr (star_cons hs _)).imp fun σ H Q h => ?_
  rcases h with ⟨B, ρ, S, σd, ds, S', R, r, e, p⟩ | ⟨B, ρ, S, σd, d, S', R, r, e, p⟩
  · unfold evEs at e
    obtain ⟨x, S1, e1, e2⟩ := bnd_ok e
    obtain ⟨xs, S2, e3, e4⟩ := bnd_ok e2
    obtain ⟨rfl, rfl⟩ := ret_ok e4
    exact .inl ⟨B, ρ, S, σd, x, S1, R, r, e1, fun ρ1 H1 v x1 R1 r1 => .inl ⟨B, ρ1, S1, σd, xs, _, R1, r.ext x1, e3, fun ρ2 H2 vs x2 R2 r2 => p ρ2 H2 _ (x1.trans x2) R2 ⟨v, vs, rfl, r1.ext x2, r2⟩⟩⟩
  · unfold xEs at e
    rcases orM_ok e with e | e
    · exact .inr ⟨B, ρ, S, σd, d, S', R, r, e, p⟩
    · obtain ⟨x, S1, e1, e2⟩ := bnd_ok e
      exact .inl ⟨B, ρ, S, σd, x, S1, R, r, e1, fun ρ1 H1 v x1 R1 r1 => .inr ⟨B, ρ1, S1, σd, d, S', R1, r.ext x1, e2, p.ext x1⟩⟩
theorem kx_tup {k : Nat} (h : PA X es (tAx X cf gl W ms)) : PE X (.Tuple es k pos) (tEx X cf gl W (.tup ms)) := by
  refine (pe_tup h).imp fun σ H Q h => ?_
  rcases h with ⟨B, ρ, S, σd, d, S', R, r, e, p⟩ | ⟨B, ρ, S, σd, d, S', R, r, e, p⟩
  · unfold evE at e
    obtain ⟨xs, S1, e1, e2⟩ := bnd_ok e
    exact .inl ⟨B, ρ, S, σd, xs, S1, R, r, e1, fun ρ1 H1 vs x1 R1 r1 => by
      have z := Post.tup R1 e2 (p.ext x1) r1
      exact z⟩
  · unfold xE at e
    exact .inr ⟨B, ρ, S, σd, d, S', R, r, e, p⟩
end
section
variable [XT] {T : Str → Option Fn} {gl : Str → Option D} {n : Nat} {C : TC} {sc : Scope} {X : Cx} {W : WX} {x : Str} {es : List Expr} {ms : List ME} {pos p : Pos}
theorem bang_some {vs : List D} {S S' : Sto} {d : D} (b : BangOk T) (e : callN T gl n (bang x) vs S = .ok d S') : T x ≠ none := by
  have h := callN_some e
  obtain ⟨fn', h'⟩ := Option.ne_none_iff_exists'.mp h
  obtain ⟨fn, h2, _⟩ := b x fn' h'
  rw [h2]; simp
theorem kx_call (g : GoodX T gl n C sc X W) (hok : okName x = true) (hg : Gl X x) (hF : x ∈ C.F) (hs : noStar es = true) (ha : PA X es (tAx X (callN T gl n) gl W ms)) (hms : es = [] → ms = []) : PE X (.Call (.Name x p) es [] pos) (tEx X (callN T gl n) gl W (.call x ms)) := by
  have G := g.good
  refine ⟨fun pins s σ H Q I h => ?_⟩
  obtain ⟨f, hf⟩ := G.fnv x hF
  have hf : X.mg x = some (.ref f) := hf
  obtain ⟨fd, ps, hk, hb, F⟩ := G.fns x f (G.fT x hF) hf
  have rm : Room (n + 2) X.A := G.room
  have hn : PE X (.Name x p) (tC (.ref f)) := pe_glob (pos := p) (v := .ref f) hg hf rfl (okN hok).1
  rcases h with ⟨B, ρ, S, σd, d, S', R, r, e, pp⟩ | ⟨B, ρ, S, σd, d, S', R, r, e, pp⟩
  · unfold evE at e
    obtain ⟨ds, S1, e1, e2⟩ := bnd_ok e
    refine k_callFX F rm G.gu hk hb (passAt g.tk σ) hs hn ⟨rfl, rfl⟩ ha (.inl ⟨B, ρ, S, σd, ds, S1, R, r, e1, fun ρ1 H1 vs x1 R1 r1 => .inl ⟨B, ρ1, S1, ds, d, S', R1, r1, e2, pp.ext x1⟩⟩) I fun he => ?_
    rw [hms he] at e1
    obtain ⟨rfl, rfl⟩ := nil_evs e1
    exact .inl ⟨B, ρ, _, [], d, S', R, rfl, e2, pp⟩
  · unfold xE at e
    rcases orM_ok e with e | e
    · have h0 : es ≠ [] := fun z => by
        rw [hms z] at e
        unfold xEs at e
        exact fail_ok (S := S) e
      exact k_callA hk hs hn ⟨rfl, rfl⟩ ha (.inr ⟨B, ρ, S, σd, d, S', R, r, e, pp⟩) I h0
    · obtain ⟨ds, S1, e1, e2⟩ := bnd_ok e
      refine k_callFX F rm G.gu hk hb (passAt g.tk σ) hs hn ⟨rfl, rfl⟩ ha (.inl ⟨B, ρ, S, σd, ds, S1, R, r, e1, fun ρ1 H1 vs x1 R1 r1 => .inr ⟨B, ρ1, S1, ds, d, S', R1, r1, e2, pp.ext x1⟩⟩) I fun he => ?_
      rw [hms he] at e1
      obtain ⟨rfl, rfl⟩ := nil_evs e1
      exact .inr ⟨B, ρ, _, [], d, S', R, rfl, e2, pp⟩
/-- what may let an exception out -/
def isX : ME → Bool
  | .call .. | .tup .. => true
  | _ => false
theorem xE_isX {cf : Cf} {σd : Env} {m : ME} {S S' : Sto} {d : D} (e : xE cf gl σd m S = .ok d S') : isX m = true := by
  cases m <;> first | rfl | (unfold xE at e; exact (fail_ok (S := S) e))
theorem px_old {e : Expr} {m : ME} (h : PE X.nox e (tE X.nox (callN T gl n) gl m)) (hx : isX m = false) : PE X e (tEx X (callN T gl n) gl W m) := by
  refine (PE.nox h).imp fun σ H Q h => ?_
  rcases h with h | ⟨B, ρ, S, σd, d, S', R, r, e, p⟩
  · exact h
  · have := xE_isX e; rw [hx] at this; cases this
end
section
variable [XT] {T : Str → Option Fn} {gl : Str → Option D} {n : Nat} {C : TC}
def OkEx (T : Str → Option Fn) (gl : Str → Option D) (n : Nat) (C : TC) (e : Expr) : Prop := ∀ (sc : Scope) (X : Cx) (W : WX), GoodX T gl n C sc X W → PE X e (tEx X (callN T gl n) gl W (trE C e sc).1)
theorem okx_list {es : List Expr} {sc : Scope} {X : Cx} {W : WX} (g : GoodX T gl n C sc X W) : (∀ e ∈ es, OkEx T gl n C e) → noStar es = true → PA X es (tAx X (callN T gl n) gl W (trEs C es sc)) := by
  induction es with
  | nil => intro _ _; rw [trEs]; exact kx_nil
  | cons e es ih =>
    intro h hs
    unfold noStar at hs
    rw [List.all_cons, Bool.and_eq_true, Bool.not_eq_true'] at hs
    rw [trEs]
    exact kx_cons hs.1 (h e List.mem_cons_self sc X W g) (ih (fun e he => h e (List.mem_cons_of_mem _ he)) hs.2)
theorem isX_name {sc : Scope} {x : Str} : isX (trName C sc x) = false := by
  unfold trName
  repeat' split
  all_goals rfl
theorem isX_const {c : Const} : isX (trConst c) = false := by cases c <;> rfl
theorem isX_val {m : ME} (h : isX m = false) : isX (val m).1 = false := h
theorem isX_shape {sc : Scope} {e : Expr} (hx : isX (trE C e sc).1 = true) : (∃ es k p, e = .Tuple es k p) ∨ ∃ f es kws p, e = .Call f es kws p := by
  cases e with
  | Tuple es k p => exact .inl ⟨_, _, _, rfl⟩
  | Call f es kws p => exact .inr ⟨_, _, _, _, rfl⟩
  | Name x p => rw [trE, val, isX_name] at hx; cases hx
  | Constant c k p => rw [trE, val, isX_const] at hx; cases hx
  | BoolOp op vs p =>
    rw [trE] at hx
    split at hx
    · rename_i h2
      match vs, h2 with
      | a :: b :: r, _ => cases op <;> (rw [trB] at hx; cases hx)
    · cases hx
  | UnaryOp op a p => cases op <;> (rw [trE.eq_def] at hx; dsimp only at hx; cases hx)
  | Subscript a b p => 
    rw [trE.eq_def] at hx
    repeat' split at hx
    all_goals first | contradiction | (cases hx; done)
  | _ =>
    rw [trE.eq_def] at hx
    first
    | (cases hx; done)
    | ((repeat' split at hx) <;> first | contradiction | (cases hx; done))
theorem okx_step (e : Expr) (ih : ∀ e', sizeOf e' < sizeOf e → OkEx T gl n C e') : OkEx T gl n C e := by
  intro sc X W g
  have old := (ok_all (T := T) (gl := gl) (n := n) (C := C) e sc X.nox g.good).1.pe
  cases hx : isX (trE C e sc).1 with
  | false => exact px_old old hx
  | true =>
    cases e with
    | Tuple es k pos =>
      cases hs : noStar es with
      | false => rw [trE, if_neg (by rw [hs]; simp)] at hx; cases hx
      | true =>
        rw [trE, if_pos hs]
        exact kx_tup (okx_list g (fun e he => ih e (by have := List.sizeOf_lt_of_mem he; simp; omega)) hs)
    | Call f es kws pos =>
      cases f with
      | Name x p =>
        cases kws with
        | cons =>
          rw [trE.eq_def] at hx
          split at hx <;> first | (cases hx; done) | (rename_i h; cases h; done) | (split at hx <;> cases hx)
        | nil =>
          have hn : ¬ ∃ y py e p2, es = [.Call (.Name y py) [e] [] p2] ∧ ssOk C sc x y e = true := by
            rintro ⟨y, py, e, p2, rfl, hc⟩
            rw [trE_sset hc] at hx
            cases hx
          cases hs : noStar es with
          | false => rw [trE_gen hn, if_neg (by rw [hs]; simp)] at hx; cases hx
          | true =>
            rw [trE_gen hn, if_pos hs] at hx ⊢
            show PE X _ (tEx X (callN T gl n) gl W (trCall C sc x pos (trEs C es sc)))
            have hx : isX (trCall C sc x pos (trEs C es sc)) = true := hx
            unfold trCall at hx ⊢
            split at hx
            · rename_i hok
              rw [if_pos hok]
              split at hx
              · split at hx <;> cases hx
              · rename_i hv
                split at hx
                · rename_i hgl
                  split at hx
                  · rename_i hF
                    simp only [hv, hgl, hF, if_true]
                    exact kx_call g hok (g.good.gl' hgl) (by simpa using hF) hs (okx_list g (fun e he => ih e (by have := List.sizeOf_lt_of_mem he; simp; omega)) hs) fun z => by rw [z, trEs]
                  · split at hx <;> cases hx
                · cases hx
            · cases hx
      | Attribute o x apos =>
        cases kws with
        | cons => rw [trE.eq_def] at hx; cases hx
        | nil =>
          rw [trE] at hx
          split at hx <;> cases hx
      | _ => rw [trE.eq_def] at hx; cases hx
    | Name x p => rw [trE, val, isX_name] at hx; cases hx
    | Constant c k p => rw [trE, val, isX_const] at hx; cases hx
    | BoolOp op vs p =>
      rw [trE] at hx
      split at hx
      · rename_i h2
        match vs, h2 with
        | a :: b :: r, _ => cases op <;> (rw [trB] at hx; cases hx)
      · cases hx
    | UnaryOp op a p => cases op <;> (rw [trE.eq_def] at hx; dsimp only at hx; cases hx)
    | Subscript a b p => 
      rw [trE.eq_def] at hx
      repeat' split at hx
      all_goals first | contradiction | (cases hx; done)
    | _ =>
      rw [trE.eq_def] at hx
      first
      | (cases hx; done)
      | ((repeat' split at hx) <;> first | contradiction | (cases hx; done))
theorem okx_all : ∀ e : Expr, OkEx T gl n C e := by
  have key : ∀ (k : Nat) (e : Expr), sizeOf e < k → OkEx T gl n C e := by
    intro k
    induction k with
    | zero => intro e h; omega
    | succ k ih => intro e h; exact okx_step e fun e' h' => ih e' (by omega)
  exact fun e => key _ e (Nat.lt_succ_self _)
end
end MI
set_option Elab.async false
set_option linter.all false
set_option maxRecDepth 100000
set_option maxHeartbeats 4000000
/-! exceptions: an except suite -/
namespace MI
open PySem PySem.Spec PyProof.Rows L2
theorem XRel.ext [XT] {K : PySem.W.Frag} {mg : Str → Option Value} {ρ ρ' : List Addr} {H H' : Hp} {d : D} {cls : Value} {dd : Option Addr} (e : Ext ρ H ρ' H') (h : XRel K mg H d cls dd) : XRel K mg H' d cls dd := by
  obtain ⟨c, anc, fs, vs, A, h1, h2, h3, h4, h6, h5⟩ := h
  refine ⟨c, anc, fs, vs, A, h1, h2, h3, h4, h6.imp_right fun ⟨a, fsV, q1, q2⟩ => ⟨a, fsV, q1, e.keep _ _ q2 fun _ z => z⟩, fun f v hv => ?_⟩
  obtain ⟨q, a, fsV, w, p1, p2, p3, p4⟩ := h5 f v hv
  exact ⟨q, a, fsV, w, p1, e.keep _ _ p2 fun _ z => z, p3, p4⟩
section
variable [XT] (K : PySem.W.Frag) (mg : Str → Option Value) (cls : Value) (dd : Option Addr) (a : Addr) (oi : Option Nat) (x : D)
/-- the suite's own: the exception in its slot -/
def Jx (σ : L2.St) (H : Hp) : Prop := (∀ i, oi = some i → σ[i]? = some (some (.ref a))) ∧ XRel K mg H x cls dd
end
section
variable [XT] (X : Cx) (cls : Value) (dd : Option Addr) (a : Addr) (oi : Option Nat) (x : D)
def tH (f : Env → M D) : TE := fun σ H Q => ∃ B ρ S σd d S', Rel (kx X B) ρ H S ∧ RelSt (kx X B) ρ H σd σ ∧ Jx X.K X.mg cls dd a oi x σ H ∧ f σd S = .ok d S' ∧ Post (kx X B) ρ H d S' Q
def tHb (f : Env → M D) : TT := fun σ H Q => ∃ B ρ S σd b S', Rel (kx X B) ρ H S ∧ RelSt (kx X B) ρ H σd σ ∧ Jx X.K X.mg cls dd a oi x σ H ∧ f σd S = .ok (.bl b) S' ∧ ∀ ρ' H', Ext ρ H ρ' H' → Rel (kx X B) ρ' H' S' → Q b H'
def tHs (f : Env → M (List D)) : TA := fun σ H Q => ∃ B ρ S σd ds S', Rel (kx X B) ρ H S ∧ RelSt (kx X B) ρ H σd σ ∧ Jx X.K X.mg cls dd a oi x σ H ∧ f σd S = .ok ds S' ∧ ∀ ρ' H' vs, Ext ρ H ρ' H' → Rel (kx X B) ρ' H' S' → RelDs (kx X B) ρ' H' ds vs → Q vs H'
def tHS (f : Env → SR) : TS := fun E σ H => ∃ B ρ S σd fl σd' S', Rel (kx X B) ρ H S ∧ RelSt (kx X B) ρ H σd σ ∧ Jx X.K X.mg cls dd a oi x σ H ∧ f σd S = .ok (fl, σd') S' ∧ ∀ ρ' H' σ', Ext ρ H ρ' H' → Rel (kx X B) ρ' H' S' → RelSt (kx X B) ρ' H' σd' σ' → Jx X.K X.mg cls dd a oi x σ' H' →
  match fl with
  | .nx => E.nx σ' H'
  | .brk => E.bk σ' H'
  | .cont => E.ct σ' H'
  | .ret d => ∀ v, RelD (kx X B) ρ' H' d v → E.rt v H'
end
theorem Jx.ext [XT] {K : PySem.W.Frag} {mg : Str → Option Value} {ρ ρ' : List Addr} {H H' : Hp} {cls : Value} {dd : Option Addr} {a : Addr} {oi : Option Nat} {x : D} {σ : L2.St} (e : Ext ρ H ρ' H') (h : Jx K mg cls dd a oi x σ H) : Jx K mg cls dd a oi x σ H' := ⟨h.1, h.2.ext e⟩
/-- the frame of a suite -/
structure GoodH [XT] (C : TC) (sc : Scope) (X : Cx) : Prop where
  N : X.N = C.N
  nd : X.N.Nodup
  scs : ScOk sc X.env.scope X.fn
  un : X.A.units + 66 < cLine
  gu : X.A.guards = some []
  sys : SysK X.base
  unb : ∀ x, x ∈ C.U → X.mg x = none
  xc : C.xs = XT.xs ∧ C.xn = XT.xn
  xf : XFacts X.prog X.w X.K X.mg X.base
theorem Good.toH [XT] {T : Str → Option Fn} {gl : Str → Option D} {n : Nat} {C : TC} {sc : Scope} {X : Cx} (g : Good T gl n C sc X.nox) (a : Addr) (pn : List (Addr × Obj)) : GoodH C sc (X.suite a pn) :=
  ⟨g.N, g.nd, g.scs, g.hu2, g.gu, g.sys, g.unb, g.xc, g.xf⟩
section
variable [XT] {C : TC} {sc : Scope} {X : Cx} {y : Str} {i : Nat}
theorem GoodH.vis (g : GoodH C sc X) (h : slotV C sc y = some i) : X.N[i]? = some y ∧ Vis X.env.scope y := by
  unfold slotV at h
  split at h
  · rename_i q; exact ⟨by rw [g.N]; exact findIdx_eq h, .inl (g.scs.loc _ q)⟩
  · rename_i q; exact ⟨by rw [g.N]; exact findIdx_eq h, .inr (.inl (g.scs.cel _ q).1)⟩
  · rename_i q; exact ⟨by rw [g.N]; exact findIdx_eq h, (g.scs.fre _ q).elim (fun z => .inr (.inl z)) fun z => .inr (.inr z)⟩
  · cases h
theorem GoodH.lc (g : GoodH C sc X) (h : slotL C sc y = some i) : X.N[i]? = some y ∧ Loc X.env.scope y ∧ (X.fn y = true ∨ X.env.scope.names.lookup y = some .local) := by
  unfold slotL at h
  split at h
  · rename_i q; exact ⟨by rw [g.N]; exact findIdx_eq h, .inl (g.scs.loc _ q), .inr (g.scs.loc _ q)⟩
  · rename_i q; exact ⟨by rw [g.N]; exact findIdx_eq h, .inr (g.scs.cel _ q).1, .inl (g.scs.cel _ q).2⟩
  · cases h
theorem GoodH.gl' (g : GoodH C sc X) (h : isGl sc y = true) : Gl X y := by
  unfold isGl at h
  split at h
  · rename_i q; exact g.scs.gli _ q
  · cases h
end
/-- an expression of a suite -/
structure OkH [XT] (C : TC) (sc : Scope) (X : Cx) (a : Addr) (oe : Obj) (pn : List (Addr × Obj)) (cls : Value) (dd : Option Addr) (n : Option Str) (oi : Option Nat) (x : D) (e : Expr) : Prop where
  pe : PE (X.suite a ((a, oe) :: pn)) e (tH (X.suite a ((a, oe) :: pn)) cls dd a oi x fun σ => hE σ x (trH C sc n e))
  pt : PT (X.suite a ((a, oe) :: pn)) e (tHb (X.suite a ((a, oe) :: pn)) cls dd a oi x fun σ => hE σ x (trH C sc n e))
section
variable [XT] {C : TC} {sc : Scope} {X0 : Cx} {a0 : Addr} {oe : Obj} {pn : List (Addr × Obj)} {cls : Value} {dd : Option Addr} {n : Option Str} {oi : Option Nat} {x : D}
/-- the slot of the clause's name -/
def SlotOf (C : TC) (sc : Scope) (n : Option Str) (oi : Option Nat) : Prop := ∀ y, n = some y → ∃ i, oi = some i ∧ slotV C sc y = some i
theorem h_bad {e : Expr} : PE (X0.suite a0 ((a0, oe) :: pn)) e (tH (X0.suite a0 ((a0, oe) :: pn)) cls dd a0 oi x fun σ => hE σ x .bad) := ⟨fun _ _ _ _ _ _ ⟨B, ρ, S, σd, d, S', R, r, j, e, p⟩ => by
  unfold hE at e; exact fail_ok (S := S) e⟩
theorem h_badT {e : Expr} : PT (X0.suite a0 ((a0, oe) :: pn)) e (tHb (X0.suite a0 ((a0, oe) :: pn)) cls dd a0 oi x fun σ => hE σ x .bad) := ⟨fun _ _ _ _ _ _ ⟨B, ρ, S, σd, d, S', R, r, j, e, p⟩ => by
  unfold hE at e; exact fail_ok (S := S) e⟩
theorem h_leaf {e : Expr} {v : V} {d : D} (h : PE (X0.suite a0 ((a0, oe) :: pn)) e (tC v)) (r : ∀ k ρ H, RelD k ρ H d v) : PE (X0.suite a0 ((a0, oe) :: pn)) e (tH (X0.suite a0 ((a0, oe) :: pn)) cls dd a0 oi x fun σ => hE σ x (.cst d)) := by
  refine h.imp fun σ H Q ⟨B, ρ, S, σd, d', S', R, _, _, e, p⟩ => ?_
  unfold hE at e
  obtain ⟨_, e⟩ := gd_ok e
  obtain ⟨rfl, rfl⟩ := ret_ok e
  exact p.now R (r _ _ _)
theorem h_truth {e : Expr} {f : Env → M D} (hp : PE (X0.suite a0 ((a0, oe) :: pn)) e (tH (X0.suite a0 ((a0, oe) :: pn)) cls dd a0 oi x f)) (ht : ∀ whole, isTrue e X0.env whole = (do let v ← whole; standAt e.pos; holding [v] (truthy v))) : PT (X0.suite a0 ((a0, oe) :: pn)) e (tHb (X0.suite a0 ((a0, oe) :: pn)) cls dd a0 oi x f) := by
  refine (pt_truth hp ht).imp fun σ H Q ⟨B, ρ, S, σd, b, S', R, r, j, e, p⟩ => ?_
  exact ⟨B, ρ, S, σd, .bl b, S', R, r, j, e, fun ρ1 H1 v x1 R1 r1 => ⟨b, tru_at R1 r1 rfl, p ρ1 H1 x1 R1⟩⟩
theorem h_not {e : Expr} {m : HE} {pos : Pos} (ha : PE (X0.suite a0 ((a0, oe) :: pn)) e (tH (X0.suite a0 ((a0, oe) :: pn)) cls dd a0 oi x fun σ => hE σ x m)) : PE (X0.suite a0 ((a0, oe) :: pn)) (.UnaryOp .Not e pos) (tH (X0.suite a0 ((a0, oe) :: pn)) cls dd a0 oi x fun σ => hE σ x (.not m)) := by
  refine (pe_notT ha).imp fun σ H Q ⟨B, ρ, S, σd, d, S', R, r, j, e, p⟩ => ?_
  unfold hE at e
  obtain ⟨v, S1, e1, e2⟩ := bnd_ok e
  cases v with
  | bl b =>
    obtain ⟨rfl, rfl⟩ := ret_ok e2
    exact ⟨B, ρ, S, σd, _, _, R, r, j, e1, fun ρ1 H1 v x1 R1 r1 => ⟨b, tru_at R1 r1 rfl, (p.ext x1).now R1 rfl⟩⟩
  | _ => exact fail_ok (S := S1) e2
theorem h_notT {e : Expr} {m : HE} {pos : Pos} (ha : PT (X0.suite a0 ((a0, oe) :: pn)) e (tHb (X0.suite a0 ((a0, oe) :: pn)) cls dd a0 oi x fun σ => hE σ x m)) : PT (X0.suite a0 ((a0, oe) :: pn)) (.UnaryOp .Not e pos) (tHb (X0.suite a0 ((a0, oe) :: pn)) cls dd a0 oi x fun σ => hE σ x (.not m)) := by
  refine (pt_not ha).imp fun σ H Q ⟨B, ρ, S, σd, d, S', R, r, j, e, p⟩ => ?_
  unfold hE at e
  obtain ⟨v, S1, e1, e2⟩ := bnd_ok e
  cases v with
  | bl b =>
    obtain ⟨h1, rfl⟩ := ret_ok e2
    cases h1
    exact ⟨B, ρ, S, σd, _, _, R, r, j, e1, p⟩
  | _ => exact fail_ok (S := S1) e2
theorem h_and {a b : Expr} {rest : List Expr} {m n : HE} {pos : Pos} (ha : PE (X0.suite a0 ((a0, oe) :: pn)) a (tH (X0.suite a0 ((a0, oe) :: pn)) cls dd a0 oi x fun σ => hE σ x m)) (hb : PE (X0.suite a0 ((a0, oe) :: pn)) (.BoolOp .And (b :: rest) pos) (tH (X0.suite a0 ((a0, oe) :: pn)) cls dd a0 oi x fun σ => hE σ x n)) : PE (X0.suite a0 ((a0, oe) :: pn)) (.BoolOp .And (a :: b :: rest) pos) (tH (X0.suite a0 ((a0, oe) :: pn)) cls dd a0 oi x fun σ => hE σ x (.and m n)) := by
  refine (pe_andT ha hb).imp fun σ H Q ⟨B, ρ, S, σd, d, S', R, r, j, e, p⟩ => ?_
  unfold hE at e
  obtain ⟨v, S1, e1, e2⟩ := bnd_ok e
  cases v with
  | bl k =>
    refine ⟨B, ρ, S, σd, _, _, R, r, j, e1, fun ρ1 H1 v x1 R1 r1 => ⟨k, tru_at R1 r1 rfl, ?_⟩⟩
    cases k with
    | true => exact ⟨B, ρ1, _, σd, _, _, R1, r.ext x1, j.ext x1, e2, p.ext x1⟩
    | false =>
      obtain ⟨rfl, rfl⟩ := ret_ok e2
      exact (p.ext x1).now R1 r1
  | _ => exact fail_ok (S := S1) e2
theorem h_or {a b : Expr} {rest : List Expr} {m n : HE} {pos : Pos} (ha : PE (X0.suite a0 ((a0, oe) :: pn)) a (tH (X0.suite a0 ((a0, oe) :: pn)) cls dd a0 oi x fun σ => hE σ x m)) (hb : PE (X0.suite a0 ((a0, oe) :: pn)) (.BoolOp .Or (b :: rest) pos) (tH (X0.suite a0 ((a0, oe) :: pn)) cls dd a0 oi x fun σ => hE σ x n)) : PE (X0.suite a0 ((a0, oe) :: pn)) (.BoolOp .Or (a :: b :: rest) pos) (tH (X0.suite a0 ((a0, oe) :: pn)) cls dd a0 oi x fun σ => hE σ x (.or m n)) := by
  refine (pe_orT ha hb).imp fun σ H Q ⟨B, ρ, S, σd, d, S', R, r, j, e, p⟩ => ?_
  unfold hE at e
  obtain ⟨v, S1, e1, e2⟩ := bnd_ok e
  cases v with
  | bl k =>
    refine ⟨B, ρ, S, σd, _, _, R, r, j, e1, fun ρ1 H1 v x1 R1 r1 => ⟨k, tru_at R1 r1 rfl, ?_⟩⟩
    cases k with
    | false => exact ⟨B, ρ1, _, σd, _, _, R1, r.ext x1, j.ext x1, e2, p.ext x1⟩
    | true =>
      obtain ⟨rfl, rfl⟩ := ret_ok e2
      exact (p.ext x1).now R1 r1
  | _ => exact fail_ok (S := S1) e2
theorem h_andT {a b : Expr} {rest : List Expr} {m n : HE} {pos : Pos} (ha : PT (X0.suite a0 ((a0, oe) :: pn)) a (tHb (X0.suite a0 ((a0, oe) :: pn)) cls dd a0 oi x fun σ => hE σ x m)) (hb : PW (X0.suite a0 ((a0, oe) :: pn)) (.BoolOp .And (b :: rest) pos) (tHb (X0.suite a0 ((a0, oe) :: pn)) cls dd a0 oi x fun σ => hE σ x n)) : PW (X0.suite a0 ((a0, oe) :: pn)) (.BoolOp .And (a :: b :: rest) pos) (tHb (X0.suite a0 ((a0, oe) :: pn)) cls dd a0 oi x fun σ => hE σ x (.and m n)) := by
  refine (pw_and ha hb).imp fun σ H Q ⟨B, ρ, S, σd, d, S', R, r, j, e, p⟩ => ?_
  unfold hE at e
  obtain ⟨v, S1, e1, e2⟩ := bnd_ok e
  cases v with
  | bl k =>
    refine ⟨B, ρ, S, σd, k, S1, R, r, j, e1, fun ρ1 H1 x1 R1 => ?_⟩
    cases k with
    | true => exact ⟨B, ρ1, S1, σd, d, S', R1, r.ext x1, j.ext x1, e2, fun ρ' H' x R => p ρ' H' (x1.trans x) R⟩
    | false =>
      obtain ⟨h1, rfl⟩ := ret_ok e2
      cases h1
      exact p ρ1 H1 x1 R1
  | _ => exact fail_ok (S := S1) e2
theorem h_orT {a b : Expr} {rest : List Expr} {m n : HE} {pos : Pos} (ha : PT (X0.suite a0 ((a0, oe) :: pn)) a (tHb (X0.suite a0 ((a0, oe) :: pn)) cls dd a0 oi x fun σ => hE σ x m)) (hb : PW (X0.suite a0 ((a0, oe) :: pn)) (.BoolOp .Or (b :: rest) pos) (tHb (X0.suite a0 ((a0, oe) :: pn)) cls dd a0 oi x fun σ => hE σ x n)) : PW (X0.suite a0 ((a0, oe) :: pn)) (.BoolOp .Or (a :: b :: rest) pos) (tHb (X0.suite a0 ((a0, oe) :: pn)) cls dd a0 oi x fun σ => hE σ x (.or m n)) := by
  refine (pw_or ha hb).imp fun σ H Q ⟨B, ρ, S, σd, d, S', R, r, j, e, p⟩ => ?_
  unfold hE at e
  obtain ⟨v, S1, e1, e2⟩ := bnd_ok e
  cases v with
  | bl k =>
    refine ⟨B, ρ, S, σd, k, S1, R, r, j, e1, fun ρ1 H1 x1 R1 => ?_⟩
    cases k with
    | false => exact ⟨B, ρ1, S1, σd, d, S', R1, r.ext x1, j.ext x1, e2, fun ρ' H' x R => p ρ' H' (x1.trans x) R⟩
    | true =>
      obtain ⟨h1, rfl⟩ := ret_ok e2
      cases h1
      exact p ρ1 H1 x1 R1
  | _ => exact fail_ok (S := S1) e2
theorem h_eq {a b : Expr} {m n : HE} {pos : Pos} (hu : X0.A.units + 64 < cLine) (hm : behindInMarks .Eq b = false) (ha : PE (X0.suite a0 ((a0, oe) :: pn)) a (tH (X0.suite a0 ((a0, oe) :: pn)) cls dd a0 oi x fun σ => hE σ x m)) (hb : PE (X0.suite a0 ((a0, oe) :: pn)) b (tH (X0.suite a0 ((a0, oe) :: pn)) cls dd a0 oi x fun σ => hE σ x n)) : PE (X0.suite a0 ((a0, oe) :: pn)) (.Compare a [.Eq] [b] pos) (tH (X0.suite a0 ((a0, oe) :: pn)) cls dd a0 oi x fun σ => hE σ x (.eq m n)) := by
  refine (pe_cmpR (op_cmp (X := (X0.suite a0 ((a0, oe) :: pn))) hu .Eq) ha hb hm).imp fun σ H Q ⟨B, ρ, S, σd, d, S', R, r, j, e, p⟩ => ?_
  unfold hE at e
  obtain ⟨u, S1, e1, e2⟩ := bnd_ok e
  obtain ⟨v, S2, e3, e4⟩ := bnd_ok e2
  exact ⟨B, ρ, S, σd, u, S1, R, r, j, e1, fun ρ1 H1 w x1 R1 r1 => ⟨B, ρ1, S1, σd, v, S2, R1, r.ext x1, j.ext x1, e3, fun ρ2 H2 u x2 R2 r2 => cB_of (X := (X0.suite a0 ((a0, oe) :: pn))) R2 (r1.ext x2) r2 e4 fun k ek R3 => by
    subst ek
    exact ((p.ext x1).ext x2).now R3 rfl⟩⟩
theorem h_eqT {a b : Expr} {m n : HE} {pos : Pos} (hu : X0.A.units + 64 < cLine) (hm : behindInMarks .Eq b = false) (ha : PE (X0.suite a0 ((a0, oe) :: pn)) a (tH (X0.suite a0 ((a0, oe) :: pn)) cls dd a0 oi x fun σ => hE σ x m)) (hb : PE (X0.suite a0 ((a0, oe) :: pn)) b (tH (X0.suite a0 ((a0, oe) :: pn)) cls dd a0 oi x fun σ => hE σ x n)) : PT (X0.suite a0 ((a0, oe) :: pn)) (.Compare a [.Eq] [b] pos) (tHb (X0.suite a0 ((a0, oe) :: pn)) cls dd a0 oi x fun σ => hE σ x (.eq m n)) := by
  refine (pt_cmpR (op_cmp (X := (X0.suite a0 ((a0, oe) :: pn))) hu .Eq) ha hb hm).imp fun σ H Q ⟨B, ρ, S, σd, d, S', R, r, j, e, p⟩ => ?_
  unfold hE at e
  obtain ⟨u, S1, e1, e2⟩ := bnd_ok e
  obtain ⟨v, S2, e3, e4⟩ := bnd_ok e2
  exact ⟨B, ρ, S, σd, u, S1, R, r, j, e1, fun ρ1 H1 w x1 R1 r1 => ⟨B, ρ1, S1, σd, v, S2, R1, r.ext x1, j.ext x1, e3, fun ρ2 H2 u x2 R2 r2 => cB_of (X := (X0.suite a0 ((a0, oe) :: pn))) R2 (r1.ext x2) r2 e4 fun k ek R3 => by
    cases ek
    exact ⟨_, rfl, p ρ2 H2 (x1.trans x2) R3⟩⟩⟩
theorem h_nil : PA (X0.suite a0 ((a0, oe) :: pn)) [] (tHs (X0.suite a0 ((a0, oe) :: pn)) cls dd a0 oi x fun σ => hEs σ x []) := by
  refine pa_nil.imp fun σ H Q ⟨B, ρ, S, σd, ds, S', R, r, j, e, p⟩ => ?_
  unfold hEs at e
  obtain ⟨rfl, rfl⟩ := ret_ok e
  exact p ρ H [] Ext.refl R rfl
theorem h_cons {a : Expr} {es : List Expr} {m : HE} {ms : List HE} (hs : isStar a = false) (ha : PE (X0.suite a0 ((a0, oe) :: pn)) a (tH (X0.suite a0 ((a0, oe) :: pn)) cls dd a0 oi x fun σ => hE σ x m)) (hr : PA (X0.suite a0 ((a0, oe) :: pn)) es (tHs (X0.suite a0 ((a0, oe) :: pn)) cls dd a0 oi x fun σ => hEs σ x ms)) : PA (X0.suite a0 ((a0, oe) :: pn)) (a :: es) (tHs (X0.suite a0 ((a0, oe) :: pn)) cls dd a0 oi x fun σ => hEs σ x (m :: ms)) := by
  refine (pa_cons ha hr (star_cons hs _)).imp fun σ H Q ⟨B, ρ, S, σd, ds, S', R, r, j, e, p⟩ => ?_
  unfold hEs at e
  obtain ⟨u, S1, e1, e2⟩ := bnd_ok e
  obtain ⟨us, S2, e3, e4⟩ := bnd_ok e2
  obtain ⟨rfl, rfl⟩ := ret_ok e4
  exact ⟨B, ρ, S, σd, u, S1, R, r, j, e1, fun ρ1 H1 v x1 R1 r1 => ⟨B, ρ1, S1, σd, us, _, R1, r.ext x1, j.ext x1, e3, fun ρ2 H2 vs x2 R2 r2 => p ρ2 H2 _ (x1.trans x2) R2 ⟨v, vs, rfl, r1.ext x2, r2⟩⟩⟩
theorem h_tup {es : List Expr} {ms : List HE} {k : Nat} {pos : Pos} (h : PA (X0.suite a0 ((a0, oe) :: pn)) es (tHs (X0.suite a0 ((a0, oe) :: pn)) cls dd a0 oi x fun σ => hEs σ x ms)) : PE (X0.suite a0 ((a0, oe) :: pn)) (.Tuple es k pos) (tH (X0.suite a0 ((a0, oe) :: pn)) cls dd a0 oi x fun σ => hE σ x (.tup ms)) := by
  refine (pe_tup h).imp fun σ H Q ⟨B, ρ, S, σd, d, S', R, r, j, e, p⟩ => ?_
  unfold hE at e
  obtain ⟨xs, S1, e1, e2⟩ := bnd_ok e
  exact ⟨B, ρ, S, σd, xs, S1, R, r, j, e1, fun ρ1 H1 vs x1 R1 r1 => by
    have z := Post.tup R1 e2 (p.ext x1) r1
    exact z⟩
theorem h_repr {a : Expr} {m : HE} {f : Str} {p pos : Pos} (g : GoodH C sc (X0.suite a0 ((a0, oe) :: pn))) (hf : f = ("repr" : Str)) (hg : isGl sc f = true) (hU : f ∈ C.U) (hs : isStar a = false) (ha : PE (X0.suite a0 ((a0, oe) :: pn)) a (tH (X0.suite a0 ((a0, oe) :: pn)) cls dd a0 oi x fun σ => hE σ x m)) : PE (X0.suite a0 ((a0, oe) :: pn)) (.Call (.Name f p) [a] [] pos) (tH (X0.suite a0 ((a0, oe) :: pn)) cls dd a0 oi x fun σ => hE σ x (.repr m)) := by
  subst hf
  refine (pe_callB (blt_repr (X := (X0.suite a0 ((a0, oe) :: pn))) g.gu g.un g.sys) (g.gl' hg) (g.unb _ hU) (by rfl) (h_cons hs ha h_nil) (by decide) (by decide) (star_cons hs _) (by rfl)).imp fun σ H Q ⟨B, ρ, S, σd, d, S', R, r, j, e, pp⟩ => ?_
  unfold hE at e
  obtain ⟨u, S1, e1, e2⟩ := bnd_ok e
  refine ⟨B, ρ, S, σd, [u], S1, R, r, j, ?_, fun ρ1 H1 vs x1 R1 r1 => ⟨B, ρ1, S1, [u], d, S', R1, r1, e2, pp.ext x1⟩⟩
  simp only [hEs, bnd, e1, MI.R.then, MI.ret]
theorem h_var {y : Str} {i : Nat} {p : Pos} (g : GoodH C sc (X0.suite a0 ((a0, oe) :: pn))) (hi : slotV C sc y = some i) (hok : okName y = true) : PE (X0.suite a0 ((a0, oe) :: pn)) (.Name y p) (tH (X0.suite a0 ((a0, oe) :: pn)) cls dd a0 oi x fun σ => hE σ x (.var i)) := by
  obtain ⟨hN, hv⟩ := g.vis hi
  refine (pe_var (pos := p) hN hv (okN hok).1 (okN hok).2.1).imp fun σ H Q ⟨B, ρ, S, σd, d, S', R, r, j, e, pp⟩ => ?_
  unfold hE at e
  obtain ⟨e1, rfl⟩ := ofO_ok e
  obtain ⟨v, h1, h2⟩ := r.2 i d e1
  exact ⟨v, h1, pp.now R h2⟩
theorem h_fld {y f : Str} {i : Nat} {p pos : Pos} (g : GoodH C sc (X0.suite a0 ((a0, oe) :: pn))) (hz : Zc cls dd oe) (hd : ∃ vs, oe.data = .fields vs) (hi : slotV C sc y = some i) (ho : oi = some i) (hok : okName y = true) : PE (X0.suite a0 ((a0, oe) :: pn)) (.Attribute (.Name y p) f pos) (tH (X0.suite a0 ((a0, oe) :: pn)) cls dd a0 oi x fun σ => hE σ x (.fld f)) := by
  obtain ⟨hN, hv⟩ := g.vis hi
  refine ⟨fun pins s σ H Q I ⟨B, ρ, S, σd, d, S', R, r, j, e, pp⟩ => ?_⟩
  unfold hE at e
  obtain ⟨e1, rfl⟩ := ofO_ok e
  obtain ⟨j1, c, anc, fs, vs, A, hx, hm, hA, hc, _, hf⟩ := j
  subst hx
  have e1 : xFind f (fs.map .fn) vs = some d := e1
  obtain ⟨hmem, aa, fsV, w, q1, q2, q3, q4⟩ := hf f d e1
  obtain ⟨k1, k2, k3⟩ := g.xf.cls _ hm A hA
  refine (pe_xf (pos := pos) k1 (k3 f hmem) hz hd (pe_var (pos := p) hN hv (okN hok).1 (okN hok).2.1)).run pins s σ H Q I ?_
  exact ⟨.ref a0, j1 i ho, rfl, hc, aa, fsV, w, q1, q2, q3, pp.now R (q4 _ _ _)⟩
theorem h_cls {c : Str} {p : Pos} (g : GoodH C sc (X0.suite a0 ((a0, oe) :: pn))) (hc : c ∈ C.xn) (hg : isGl sc c = true) : ∃ (v : V) (cv : Value), ClsV v cv ∧ nmV X0.mg c = some cv ∧ PE (X0.suite a0 ((a0, oe) :: pn)) (.Name c p) (tC v) := by
  obtain ⟨hok, h⟩ := g.xf.nm c (g.xc.2 ▸ hc)
  rcases h with ⟨A, hA⟩ | ⟨s, hs, hb⟩
  · have hA : X0.mg c = some (.ref A) := hA
    exact ⟨.ref A, .ref A, .own A, by unfold nmV; rw [hA], pe_glob (X := (X0.suite a0 ((a0, oe) :: pn))) (v := .ref A) (g.gl' hg) hA rfl (okN hok).1⟩
  · have hs : X0.mg c = none := hs
    exact ⟨.ty s, .type s, .ty s, by unfold nmV; rw [hs]; exact hb, pe_bltn (X := (X0.suite a0 ((a0, oe) :: pn))) (v := .ty s) (g.gl' hg) hs hb rfl (okN hok).2.2 (okN hok).1⟩
theorem xIs_mk {n c : Str} {anc fs : List Str} {vs : List D} : xIs n (mkX c anc fs vs) = anc.contains n := by
  unfold xIs mkX
  induction anc with
  | nil => rfl
  | cons a anc ih =>
    simp only [List.map_cons, List.any_cons, List.contains_cons] at ih ⊢
    rw [ih]
    congr 1
    show (a == n) = (n == a)
    exact Bool.beq_comm
theorem kitx_caught {H : Hp} {s : Shared} {pins : List (Addr × Obj)} {σ : L2.St} {A : Addr} (E : ExcC X0.K A) (hz : Zc cls dd oe) (hd : ∃ vs, oe.data = .fields vs) (hcls : cls = .ref A) (I : L2.Inv (X0.suite a0 ((a0, oe) :: pn)) pins σ H s) (h : dd = none ∨ ∃ a fsV, dd = some a ∧ H a = some (.xd fsV)) :
    ∃ P : Heap → Prop, PySem.W.KitX X0.K (.ref a0) (.ref A) P ∧ P s.heap := by
  subst hcls
  obtain ⟨hget, _⟩ := I.pin (a0, oe) (List.mem_append.mpr (.inl List.mem_cons_self))
  obtain ⟨vs, hv⟩ := hd
  have hnc : PySem.W.notCls oe = true := by unfold PySem.W.notCls; rw [hv]
  have hcl : (PySem.W.clsIn X0.K A).isSome = true := by
    obtain ⟨cd, hc, _⟩ := PySem.W.any_some E.hd
    rw [hc]; rfl
  rcases h with rfl | ⟨b, fsV, rfl, hb⟩
  · exact ⟨_, PySem.W.kitx_exc (od := none) hcl E.hg E.hk E.hs E.ha E.hn E.ht E.hm, ⟨hget, hz.1, hnc, by rw [hz.2]; trivial⟩⟩
  · obtain ⟨mA, hns, hr⟩ := (show ObjOk X0.prog X0.w H s.heap b (.xd fsV) from I.hok b _ hb)
    obtain ⟨od, ho, hl⟩ := lookIn_ns hns
    exact ⟨_, PySem.W.kitx_exc (od := some od) hcl E.hg E.hk E.hs E.ha E.hn E.ht E.hm, ⟨hget, hz.1, hnc, by rw [hz.2]; exact ho⟩⟩
/-- isinstance of the exception that a suite holds, by one class or several -/
def rIsX [XT] (X : Cx) (cls : Value) (dd : Option Addr) (a : Addr) (oi : Option Nat) (x : D) (ns : List Str) : List V → Hp → VK → Prop := fun xs H Q => ∃ (A : Addr) (cv : V), xs = [.ref a, cv] ∧ cls = .ref A ∧ ExcC X.K A ∧ (dd = none ∨ ∃ a fsV, dd = some a ∧ H a = some (.xd fsV)) ∧
  ((∃ u b, ClsV cv u ∧ PySem.W.kitOne X.K (.ref A) u = some b ∧ Q (.bl b) H) ∨ ∃ tp cs us b, cv = .ref tp ∧ H tp = some (.tup cs) ∧ Paired ClsV cs us ∧ PySem.W.kitAny X.K (.ref A) us = some b ∧ Q (.bl b) H)
theorem call_isX {ns : List Str} (hz : Zc cls dd oe) (hd : ∃ vs, oe.data = .fields vs) : CallR (X0.suite a0 ((a0, oe) :: pn)) (.builtin "isinstance") (rIsX (X0.suite a0 ((a0, oe) :: pn)) cls dd a0 oi x ns) := by
  intro pins s σ H xs us Q I r h
  obtain ⟨A, cv, rfl, hc, E, hx, h⟩ := h
  obtain ⟨u1, u2, rfl, r1, r2⟩ := vals2 r
  cases (show u1 = Value.ref a0 from r1)
  obtain ⟨P, Z, pz⟩ := kitx_caught E hz hd hc I hx
  rcases h with ⟨u, b, k, e, q⟩ | ⟨tp, cs, us, b, rfl, hT, k, e, q⟩
  · have e2 := k.eq r2
    subst e2
    exact PySem.W.kia_one Z I.kIn pz e (fun z => nomatch z) fun tk => ⟨.bl b, H, I.tok tk, rfl, q⟩
  · cases (show u2 = Value.ref tp from r2)
    obtain ⟨_, its, rv, o, h1, h2, n, h3⟩ := (show ObjOk X0.prog X0.w H s.heap tp (.tup cs) from I.hok tp _ hT)
    have e3 := ClsV.all k rv
    subst e3
    obtain ⟨oc, od, dt, sl⟩ := o
    simp only at h2 h3
    subst h2 h3
    exact PySem.W.kia_tup Z I.kIn pz h1 e (fun z => nomatch z) fun tk => ⟨.bl b, H, I.tok tk, rfl, q⟩
theorem h_isi1 {y f c : Str} {i : Nat} {p p1 p2 pos : Pos} (g : GoodH C sc (X0.suite a0 ((a0, oe) :: pn))) (hz : Zc cls dd oe) (hd : ∃ vs, oe.data = .fields vs) (hi : slotV C sc y = some i) (ho : oi = some i) (hok : okName y = true) (hf : f = ("isinstance" : Str)) (hg : isGl sc f = true) (hU : f ∈ C.U) (hc : c ∈ C.xn) (hcg : isGl sc c = true) :
    PE (X0.suite a0 ((a0, oe) :: pn)) (.Call (.Name f p) [.Name y p1, .Name c p2] [] pos) (tH (X0.suite a0 ((a0, oe) :: pn)) cls dd a0 oi x fun σ => hE σ x (.isi [c])) := by
  subst hf
  obtain ⟨hN, hv⟩ := g.vis hi
  obtain ⟨v, cv, k, hcv, pc⟩ := h_cls (p := p2) g hc hcg
  have pa : PA (X0.suite a0 ((a0, oe) :: pn)) [.Name y p1, .Name c p2] (tCons (tVar i) (tCons (tC v) tNil)) := pa_cons (pe_var (pos := p1) hN hv (okN hok).1 (okN hok).2.1) (pa_cons pc pa_nil)
  refine (pe_callB (call_isX (oi := oi) (x := x) (ns := [c]) hz hd) (g.gl' hg) (g.unb _ hU) (by rfl) pa (by decide) (by decide)).imp fun σ H Q ⟨B, ρ, S, σd, d, S', R, r, j, e, pp⟩ => ?_
  unfold hE at e
  obtain ⟨rfl, rfl⟩ := ret_ok e
  obtain ⟨j1, c0, anc, fs, vs, A, hx, hm, hA, hcls, hdd, hff⟩ := j
  have hk := (g.xf.fact _ hm c (g.xc.2 ▸ hc) A cv hA hcv).2
  obtain ⟨k1, k2, k3⟩ := g.xf.cls _ hm A hA
  refine ⟨.ref a0, j1 i ho, A, v, rfl, hcls, k2, hdd, .inl ⟨cv, _, k, hk, ?_⟩⟩
  subst hx
  refine pp.now R ?_
  show V.bl _ = V.bl _
  simp only [List.any_cons, List.any_nil, Bool.or_false, xIs_mk]
theorem xName_ok {c : Str} (h : xName C sc c = true) : okName c = true ∧ isGl sc c = true ∧ c ∈ C.xn := by
  unfold xName at h
  simp only [Bool.and_eq_true] at h
  exact ⟨h.1.1, h.1.2, by simpa using h.2⟩
theorem h_clss (g : GoodH C sc (X0.suite a0 ((a0, oe) :: pn))) : ∀ {cs : List Expr} {ns : List Str}, xNames C sc cs = some ns → ∃ vs us, Paired ClsV vs us ∧ PA (X0.suite a0 ((a0, oe) :: pn)) cs (fun σ H Q => Q vs H) ∧ (∀ {A : Addr} {c0 : Str} {anc fs : List Str}, (c0, anc, fs) ∈ XT.xs → X0.mg c0 = some (.ref A) → PySem.W.kitAny X0.K (.ref A) us = some (ns.any fun n => anc.contains n)) ∧ vs.length = cs.length
  | [], ns, h => by
    unfold xNames at h
    cases h
    exact ⟨[], [], .nil, pa_nil.imp fun σ H Q h => h, fun _ _ => kitAny_nil, rfl⟩
  | e :: cs, ns, h => by
    cases e with
    | Name c p =>
      unfold xNames at h
      split at h
      · rename_i hc
        cases hr : xNames C sc cs with
        | none => rw [hr] at h; cases h
        | some ns' =>
          rw [hr] at h
          cases h
          obtain ⟨h1, h2, h3⟩ := xName_ok hc
          obtain ⟨v, cv, k, hcv, pc⟩ := h_cls (p := p) g h3 h2
          obtain ⟨vs, us, q1, q2, q3, q4⟩ := h_clss g hr
          refine ⟨v :: vs, cv :: us, .cons k q1, (pa_cons pc q2).imp fun σ H Q h => h, fun {A c0 anc fs} hm hA => ?_, by simp [q4]⟩
          have hk := (g.xf.fact _ hm c (g.xc.2 ▸ h3) A cv hA hcv).2
          have hr := q3 hm hA
          refine kitAny_cons hk (fun z => ?_) fun z => ?_
          · rw [List.any_cons]; dsimp only at z; rw [z, Bool.false_or]; exact hr
          · rw [List.any_cons]; dsimp only at z; rw [z, Bool.true_or]
      · cases h
    | _ => unfold xNames at h; cases h
theorem h_isiT {y f : Str} {cs : List Expr} {ns : List Str} {i k0 : Nat} {p p1 p2 pos : Pos} (g : GoodH C sc (X0.suite a0 ((a0, oe) :: pn))) (hz : Zc cls dd oe) (hd : ∃ vs, oe.data = .fields vs) (hi : slotV C sc y = some i) (ho : oi = some i) (hok : okName y = true) (hf : f = ("isinstance" : Str)) (hg : isGl sc f = true) (hU : f ∈ C.U) (hc : xNames C sc cs = some ns) (hl : cs.length ≤ sizeLine) :
    PE (X0.suite a0 ((a0, oe) :: pn)) (.Call (.Name f p) [.Name y p1, .Tuple cs k0 p2] [] pos) (tH (X0.suite a0 ((a0, oe) :: pn)) cls dd a0 oi x fun σ => hE σ x (.isi ns)) := by
  subst hf
  obtain ⟨hN, hv⟩ := g.vis hi
  obtain ⟨vs, us, k, pc, hk, hlen⟩ := h_clss g hc
  have pa : PA (X0.suite a0 ((a0, oe) :: pn)) [.Name y p1, .Tuple cs k0 p2] (tCons (tVar i) (tCons (tTup fun σ H Q => Q vs H) tNil)) := pa_cons (pe_var (pos := p1) hN hv (okN hok).1 (okN hok).2.1) (pa_cons (pe_tup pc) pa_nil)
  refine (pe_callB (call_isX (oi := oi) (x := x) (ns := ns) hz hd) (g.gl' hg) (g.unb _ hU) (by rfl) pa (by decide) (by decide)).imp fun σ H Q ⟨B, ρ, S, σd, d, S', R, r, j, e, pp⟩ => ?_
  unfold hE at e
  obtain ⟨rfl, rfl⟩ := ret_ok e
  obtain ⟨j1, c0, anc, fs, ws, A, hx, hm, hA, hcls, hdd, hff⟩ := j
  obtain ⟨k1, k2, k3⟩ := g.xf.cls _ hm A hA
  refine ⟨.ref a0, j1 i ho, by rw [hlen]; exact hl, fun tp htp => ?_⟩
  have xt : Ext ρ H ρ (upd H tp (.tup vs)) := Ext.new htp
  refine ⟨A, .ref tp, rfl, hcls, k2, hdd.imp_right fun ⟨a, fsV, q1, q2⟩ => ⟨a, fsV, q1, by rw [upd_ne (ne_of_none q2 htp)]; exact q2⟩, .inr ⟨tp, vs, us, _, rfl, upd_same, k, hk hm hA, ?_⟩⟩
  subst hx
  refine pp ρ _ _ xt (R.new htp) ?_
  show V.bl _ = V.bl _
  simp only [xIs_mk]
theorem okh_bad {e : Expr} (h : trH C sc n e = .bad) : OkH C sc X0 a0 oe pn cls dd n oi x e := ⟨by rw [h]; exact h_bad, by rw [h]; exact h_badT⟩
theorem okh_of {e : Expr} {m : HE} (h : trH C sc n e = m) (hp : PE (X0.suite a0 ((a0, oe) :: pn)) e (tH (X0.suite a0 ((a0, oe) :: pn)) cls dd a0 oi x fun σ => hE σ x m)) (ht : ∀ whole, isTrue e X0.env whole = (do let v ← whole; standAt e.pos; holding [v] (truthy v))) : OkH C sc X0 a0 oe pn cls dd n oi x e := by
  subst h
  exact ⟨hp, h_truth hp ht⟩
theorem okh_step (g : GoodH C sc (X0.suite a0 ((a0, oe) :: pn))) (hz : Zc cls dd oe) (hd : ∃ vs, oe.data = .fields vs) (hsl : SlotOf C sc n oi) (e : Expr) (ih : ∀ e', sizeOf e' < sizeOf e → OkH C sc X0 a0 oe pn cls dd n oi x e') : OkH C sc X0 a0 oe pn cls dd n oi x e := by
  have hu : X0.A.units + 64 < cLine := by
    have h : X0.A.units + 66 < cLine := g.un
    omega
  cases e with
  | Name y p =>
    by_cases hc : (okName y = true && !(n == some y)) = true
    · cases hi : slotV C sc y with
      | none => exact okh_bad (by rw [trH, if_pos hc, hi])
      | some i => exact okh_of (by rw [trH, if_pos hc, hi]) (h_var g hi (by simp only [Bool.and_eq_true, decide_eq_true_eq] at hc; exact hc.1)) fun _ => rfl
    · exact okh_bad (by rw [trH, if_neg hc])
  | Constant c k p =>
    cases c with
    | none => exact okh_of (by rw [trH]; rfl) (h_leaf (d := .non) pe_non fun _ _ _ => rfl) fun _ => rfl
    | bool b => exact okh_of (by rw [trH]; rfl) (h_leaf (d := .bl b) pe_bl fun _ _ _ => rfl) fun _ => rfl
    | int b => exact okh_of (by rw [trH]; rfl) (h_leaf (d := .int b) pe_int fun _ _ _ => rfl) fun _ => rfl
    | str z => exact okh_of (by rw [trH]; rfl) (h_leaf (d := .str z.cps.toList) pe_str fun _ _ _ => by show V.str z = V.str (toStr _); simp [toStr]) fun _ => rfl
    | _ => exact okh_bad (by rw [trH]; rfl)
  | UnaryOp op a p =>
    cases op with
    | Not =>
      have o := ih a (by simp; omega)
      exact ⟨by rw [trH]; exact h_not o.pe, by rw [trH]; exact h_notT o.pt⟩
    | _ => exact okh_bad (by rw [trH.eq_def])
  | BoolOp op vs p =>
    have key : ∀ (k : Bool) (op : BoolOp), (op = if k = true then .And else .Or) → ∀ {us : List Expr}, (∀ e ∈ us, OkH C sc X0 a0 oe pn cls dd n oi x e) → us ≠ [] → PE (X0.suite a0 ((a0, oe) :: pn)) (.BoolOp op us p) (tH (X0.suite a0 ((a0, oe) :: pn)) cls dd a0 oi x fun σ => hE σ x (trHB C sc n k us)) ∧ PW (X0.suite a0 ((a0, oe) :: pn)) (.BoolOp op us p) (tHb (X0.suite a0 ((a0, oe) :: pn)) cls dd a0 oi x fun σ => hE σ x (trHB C sc n k us)) := by
      intro k op hop us
      induction us with
      | nil => intro _ h; exact absurd rfl h
      | cons a us iu =>
        intro h _
        have o := h a List.mem_cons_self
        cases us with
        | nil =>
          rw [trHB]
          cases k with
          | true => subst hop; exact ⟨pe_one o.pe, pw_and1 o.pt⟩
          | false => subst hop; exact ⟨pe_one o.pe, pw_or1 o.pt⟩
        | cons b r =>
          obtain ⟨i1, i2⟩ := iu (fun e he => h e (List.mem_cons_of_mem _ he)) (by simp)
          have e0 : trHB C sc n k (a :: b :: r) = if k = true then .and (trH C sc n a) (trHB C sc n k (b :: r)) else .or (trH C sc n a) (trHB C sc n k (b :: r)) := by rw [trHB.eq_def]
          rw [e0]
          cases k with
          | true => subst hop; exact ⟨h_and o.pe i1, h_andT o.pt i2⟩
          | false => subst hop; exact ⟨h_or o.pe i1, h_orT o.pt i2⟩
    have hmem : ∀ e ∈ vs, OkH C sc X0 a0 oe pn cls dd n oi x e := fun e he => ih e (by have := List.sizeOf_lt_of_mem he; simp; omega)
    cases vs with
    | nil => cases op <;> exact okh_bad (by rw [trH, trHB])
    | cons v vs =>
      cases op with
      | And => exact ⟨by rw [trH]; exact (key true .And rfl hmem (by simp)).1, by rw [trH]; exact (key true .And rfl hmem (by simp)).2.pt⟩
      | Or => exact ⟨by rw [trH]; exact (key false .Or rfl hmem (by simp)).1, by rw [trH]; exact (key false .Or rfl hmem (by simp)).2.pt⟩
  | Compare a ops bs p =>
    match ops, bs with
    | [.Eq], [b] =>
      by_cases hb : isSetD b = true
      · exact okh_bad (by rw [trH, if_pos hb])
      · have hb : isSetD b = false := by simpa using hb
        have hm : behindInMarks .Eq b = false := behind hb
        have o1 := ih a (by simp; omega)
        have o2 := ih b (by simp; omega)
        exact ⟨by rw [trH, if_neg (by rw [hb]; decide)]; exact h_eq hu hm o1.pe o2.pe, by rw [trH, if_neg (by rw [hb]; decide)]; exact h_eqT hu hm o1.pe o2.pe⟩
    | [], _ => exact okh_bad (by rw [trH.eq_def])
    | [op], [] => exact okh_bad (by rw [trH.eq_def]; cases op <;> rfl)
    | op :: _ :: _, _ => exact okh_bad (by rw [trH.eq_def]; cases op <;> rfl)
    | [op], _ :: _ :: _ => exact okh_bad (by rw [trH.eq_def]; cases op <;> rfl)
    | [.NotEq], [b] => exact okh_bad (by rw [trH.eq_def])
    | [.Lt], [b] => exact okh_bad (by rw [trH.eq_def])
    | [.LtE], [b] => exact okh_bad (by rw [trH.eq_def])
    | [.Gt], [b] => exact okh_bad (by rw [trH.eq_def])
    | [.GtE], [b] => exact okh_bad (by rw [trH.eq_def])
    | [.Is], [b] => exact okh_bad (by rw [trH.eq_def])
    | [.IsNot], [b] => exact okh_bad (by rw [trH.eq_def])
    | [.In], [b] => exact okh_bad (by rw [trH.eq_def])
    | [.NotIn], [b] => exact okh_bad (by rw [trH.eq_def])
  | Tuple es k p =>
    by_cases hs : noStar es = true
    · have key : ∀ {us : List Expr}, (∀ e ∈ us, OkH C sc X0 a0 oe pn cls dd n oi x e) → noStar us = true → PA (X0.suite a0 ((a0, oe) :: pn)) us (tHs (X0.suite a0 ((a0, oe) :: pn)) cls dd a0 oi x fun σ => hEs σ x (trHs C sc n us)) := by
        intro us
        induction us with
        | nil => intro _ _; rw [trHs]; exact h_nil
        | cons e es iu =>
          intro h hs
          unfold noStar at hs
          rw [List.all_cons, Bool.and_eq_true, Bool.not_eq_true'] at hs
          rw [trHs]
          exact h_cons hs.1 (h e List.mem_cons_self).pe (iu (fun e he => h e (List.mem_cons_of_mem _ he)) hs.2)
      exact okh_of (by rw [trH, if_pos hs]) (h_tup (key (fun e he => ih e (by have := List.sizeOf_lt_of_mem he; simp; omega)) hs)) fun _ => rfl
    · exact okh_bad (by rw [trH, if_neg hs])
  | Attribute o f p =>
    cases o with
    | Name y py =>
      by_cases hc : (n == some y && (slotV C sc y).isSome && okName y) = true
      · have hc' := hc
        simp only [Bool.and_eq_true] at hc'
        obtain ⟨⟨hn, hs⟩, hok⟩ := hc'
        obtain ⟨i, hoi, hsv⟩ := hsl y (eq_of_beq hn)
        exact okh_of (by rw [trH, if_pos hc]) (h_fld g hz hd hsv hoi hok) fun _ => rfl
      · exact okh_bad (by rw [trH, if_neg hc])
    | _ => exact okh_bad (by rw [trH.eq_def])
  | Call f es kws p =>
    by_cases hsh : (∃ nm pf a, f = .Name nm pf ∧ es = [a] ∧ kws = []) ∨ (∃ nm pf y py c pc, f = .Name nm pf ∧ es = [.Name y py, .Name c pc] ∧ kws = []) ∨ ∃ nm pf y py cs k pc, f = .Name nm pf ∧ es = [.Name y py, .Tuple cs k pc] ∧ kws = []
    · rcases hsh with ⟨nm, pf, a, rfl, rfl, rfl⟩ | ⟨nm, pf, y, py, c, pc, rfl, rfl, rfl⟩ | ⟨nm, pf, y, py, cs, k, pc, rfl, rfl, rfl⟩
      · by_cases hc : (nm == ("repr" : Str) && isGl sc nm && C.U.contains nm && !isStar a) = true
        · have hc' := hc
          simp only [Bool.and_eq_true, Bool.not_eq_true'] at hc'
          obtain ⟨⟨⟨h1, h2⟩, h3⟩, h4⟩ := hc'
          exact okh_of (by rw [trH, if_pos hc]) (h_repr g (eq_of_beq h1) h2 (by simpa using h3) h4 (ih a (by simp; omega)).pe) fun _ => rfl
        · exact okh_bad (by rw [trH, if_neg hc])
      · by_cases hc : (nm == ("isinstance" : Str) && isGl sc nm && C.U.contains nm && n == some y && (slotV C sc y).isSome && okName y && xName C sc c) = true
        · have hc' := hc
          simp only [Bool.and_eq_true] at hc'
          obtain ⟨⟨⟨⟨⟨⟨h1, h2⟩, h3⟩, h4⟩, h5⟩, h6⟩, h7⟩ := hc'
          obtain ⟨i, hoi, hsv⟩ := hsl y (eq_of_beq h4)
          obtain ⟨q1, q2, q3⟩ := xName_ok h7
          exact okh_of (by rw [trH, if_pos hc]) (h_isi1 g hz hd hsv hoi h6 (eq_of_beq h1) h2 (by simpa using h3) q3 q2) fun _ => rfl
        · exact okh_bad (by rw [trH, if_neg hc])
      · by_cases hc : (nm == ("isinstance" : Str) && isGl sc nm && C.U.contains nm && n == some y && (slotV C sc y).isSome && okName y && decide (cs.length ≤ 64)) = true
        · have hc' := hc
          simp only [Bool.and_eq_true, decide_eq_true_eq] at hc'
          obtain ⟨⟨⟨⟨⟨⟨h1, h2⟩, h3⟩, h4⟩, h5⟩, h6⟩, h7⟩ := hc'
          obtain ⟨i, hoi, hsv⟩ := hsl y (eq_of_beq h4)
          cases hx : xNames C sc cs with
          | none => exact okh_bad (by rw [trH, if_pos hc, hx])
          | some ns => exact okh_of (by rw [trH, if_pos hc, hx]) (h_isiT g hz hd hsv hoi h6 (eq_of_beq h1) h2 (by simpa using h3) hx (by rw [sizeLine_eq]; omega)) fun _ => rfl
        · exact okh_bad (by rw [trH, if_neg hc])
    · refine okh_bad ?_
      rw [trH.eq_def]
      split <;> first | rfl | contradiction | (exfalso; rename_i h; cases h; first | exact hsh (.inl ⟨_, _, _, rfl, rfl, rfl⟩) | exact hsh (.inr (.inl ⟨_, _, _, _, _, _, rfl, rfl, rfl⟩)) | exact hsh (.inr (.inr ⟨_, _, _, _, _, _, _, rfl, rfl, rfl⟩)))
  | _ => exact okh_bad (by rw [trH.eq_def])
theorem okh_all (g : GoodH C sc (X0.suite a0 ((a0, oe) :: pn))) (hz : Zc cls dd oe) (hd : ∃ vs, oe.data = .fields vs) (hsl : SlotOf C sc n oi) : ∀ e : Expr, OkH C sc X0 a0 oe pn cls dd n oi x e := by
  have key : ∀ (k : Nat) (e : Expr), sizeOf e < k → OkH C sc X0 a0 oe pn cls dd n oi x e := by
    intro k
    induction k with
    | zero => intro e h; omega
    | succ k ih => intro e h; exact okh_step g hz hd hsl e fun e' h' => ih e' (by omega)
  exact fun e => key _ e (Nat.lt_succ_self _)
theorem hs_bad {st : Stmt} (h : trHS C sc n st = .bad) : PS (X0.suite a0 ((a0, oe) :: pn)) st (tHS (X0.suite a0 ((a0, oe) :: pn)) cls dd a0 oi x fun σ => hS x (trHS C sc n st) σ) := ⟨fun pins s σ H D I ⟨B, ρ, S, σd, fl, σd', S', R, r, j, e, p⟩ => by
  rw [h] at e
  unfold hS at e
  exact fail_ok (S := S) e⟩
theorem hs_suite : ∀ {sts : List Stmt}, (∀ st ∈ sts, PS (X0.suite a0 ((a0, oe) :: pn)) st (tHS (X0.suite a0 ((a0, oe) :: pn)) cls dd a0 oi x fun σ => hS x (trHS C sc n st) σ)) → PSs (X0.suite a0 ((a0, oe) :: pn)) sts (tHS (X0.suite a0 ((a0, oe) :: pn)) cls dd a0 oi x fun σ => hSs x (trHSs C sc n sts) σ)
  | [], _ => by
    rw [trHSs]
    refine pss_nil.imp fun D σ H ⟨B, ρ, S, σd, fl, σd', S', R, r, j, e, p⟩ => ?_
    unfold hSs at e
    obtain ⟨ee, rfl⟩ := ret_ok e
    cases ee
    exact p ρ H σ Ext.refl R r j
  | st :: sts, h => by
    rw [trHSs]
    refine (pss_cons (h st List.mem_cons_self) (hs_suite fun s hs => h s (List.mem_cons_of_mem _ hs))).imp fun D σ H ⟨B, ρ, S, σd, fl, σd', S', R, r, j, e, p⟩ => ?_
    unfold hSs at e
    obtain ⟨⟨f1, σ1⟩, S1, e1, e2⟩ := bnd_ok e
    refine ⟨B, ρ, S, σd, f1, σ1, S1, R, r, j, e1, fun ρ1 H1 σ2 x1 R1 r1 j1 => ?_⟩
    cases f1 with
    | nx => exact ⟨B, ρ1, S1, σ1, fl, σd', S', R1, r1, j1, e2, fun ρ2 H2 σ3 x2 R2 r2 j2 => p ρ2 H2 σ3 (x1.trans x2) R2 r2 j2⟩
    | brk => obtain ⟨ee, rfl⟩ := ret_ok e2; cases ee; exact p ρ1 H1 σ2 x1 R1 r1 j1
    | cont => obtain ⟨ee, rfl⟩ := ret_ok e2; cases ee; exact p ρ1 H1 σ2 x1 R1 r1 j1
    | ret v => obtain ⟨ee, rfl⟩ := ret_ok e2; cases ee; exact p ρ1 H1 σ2 x1 R1 r1 j1
theorem slot_ne {y z : Str} {i j : Nat} (hi : slotV C sc y = some i) (hj : slotL C sc z = some j) (h : y ≠ z) : i ≠ j := fun e => by
  subst e
  have a1 : C.N[i]? = some y := by
    unfold slotV at hi
    split at hi
    · exact findIdx_eq hi
    · exact findIdx_eq hi
    · exact findIdx_eq hi
    · cases hi
  have a2 : C.N[i]? = some z := by
    unfold slotL at hj
    split at hj
    · exact findIdx_eq hj
    · exact findIdx_eq hj
    · cases hj
  rw [a1] at a2
  cases a2
  exact h rfl
theorem hs_step (g : GoodH C sc (X0.suite a0 ((a0, oe) :: pn))) (hz : Zc cls dd oe) (hd : ∃ vs, oe.data = .fields vs) (hsl : SlotOf C sc n oi) (hon : ∀ i, oi = some i → n.isSome = true) (st : Stmt) (ih : ∀ st', sizeOf st' < sizeOf st → PS (X0.suite a0 ((a0, oe) :: pn)) st' (tHS (X0.suite a0 ((a0, oe) :: pn)) cls dd a0 oi x fun σ => hS x (trHS C sc n st') σ)) : PS (X0.suite a0 ((a0, oe) :: pn)) st (tHS (X0.suite a0 ((a0, oe) :: pn)) cls dd a0 oi x fun σ => hS x (trHS C sc n st) σ) := by
  have E := okh_all (x := x) g hz hd hsl
  cases st with
  | Assign ts e pos =>
    by_cases hsh : ∃ y py, ts = [.Name y py]
    · obtain ⟨y, py, rfl⟩ := hsh
      by_cases hy : n == some y
      · exact hs_bad (by rw [trHS, if_pos hy])
      · cases hj : slotL C sc y with
        | none => exact hs_bad (by rw [trHS, if_neg hy, hj]; rfl)
        | some j =>
          have heq : trHS C sc n (.Assign [.Name y py] e pos) = .asg j (trH C sc n e) := by rw [trHS, if_neg hy, hj]; rfl
          by_cases hs : swapsWith e (some (.Name y py)) pos.line X0.env = pure false
          · rw [heq]
            obtain ⟨l1, l2, l3⟩ := g.lc hj
            refine (ps_set (X := (X0.suite a0 ((a0, oe) :: pn))) g.nd l1 l2 (E e).pe hs l3).imp fun D σ H ⟨B, ρ, S, σd, fl, σd', S', R, r, j0, e, p⟩ => ?_
            unfold hS at e
            obtain ⟨d, S1, e1, e2⟩ := bnd_ok e
            obtain ⟨ee, rfl⟩ := ret_ok e2
            cases ee
            refine ⟨B, ρ, S, σd, d, _, R, r, j0, e1, fun ρ1 H1 v x1 R1 r1 => p ρ1 H1 _ x1 R1 ((r.ext x1).set r1) ⟨fun i hi => ?_, (j0.ext x1).2⟩⟩
            obtain ⟨z, hzn⟩ := Option.isSome_iff_exists.mp (hon i hi)
            obtain ⟨i', h1, h2⟩ := hsl z hzn
            rw [hi] at h1
            cases h1
            have hne : i ≠ j := slot_ne h2 hj fun q => hy (by rw [hzn, q]; simp)
            rw [List.getElem?_set_ne (Ne.symm hne)]
            exact j0.1 i hi
          · have hb : trH C sc n e = .bad := by
              cases e with
              | ListComp => rw [trH.eq_def]
              | SetComp => rw [trH.eq_def]
              | DictComp => rw [trH.eq_def]
              | _ => exact absurd rfl hs
            rw [heq, hb]
            exact ⟨fun pins s σ H D I ⟨B, ρ, S, σd, fl, σd', S', R, r, j, e, p⟩ => by
              unfold hS hE at e
              obtain ⟨_, _, e1, _⟩ := bnd_ok e
              exact fail_ok (S := S) e1⟩
    · refine hs_bad ?_
      rw [trHS.eq_def]
      split <;> first | rfl | contradiction | (exfalso; rename_i h; cases h; exact hsh ⟨_, _, rfl⟩)
  | Return o pos =>
    cases o with
    | none => exact hs_bad (by rw [trHS.eq_def])
    | some e =>
      rw [trHS]
      refine (ps_ret (E e).pe).imp fun D σ H ⟨B, ρ, S, σd, fl, σd', S', R, r, j0, e, p⟩ => ?_
      unfold hS at e
      obtain ⟨d, S1, e1, e2⟩ := bnd_ok e
      obtain ⟨ee, rfl⟩ := ret_ok e2
      cases ee
      exact ⟨B, ρ, S, σd, d, _, R, r, j0, e1, fun ρ1 H1 v x1 R1 r1 => p ρ1 H1 σ x1 R1 (r.ext x1) (j0.ext x1) v r1⟩
  | If c a b pos =>
    have ha := hs_suite (sts := a) (fun s hs => ih s (by have := List.sizeOf_lt_of_mem hs; simp; omega))
    have hb := hs_suite (sts := b) (fun s hs => ih s (by have := List.sizeOf_lt_of_mem hs; simp; omega))
    rw [trHS]
    refine (ps_if (E c).pt ha hb).imp fun D σ H ⟨B, ρ, S, σd, fl, σd', S', R, r, j0, e, p⟩ => ?_
    unfold hS at e
    obtain ⟨v, S1, e1, e2⟩ := bnd_ok e
    cases v with
    | bl k =>
      refine ⟨B, ρ, S, σd, k, S1, R, r, j0, e1, fun ρ1 H1 x1 R1 => ?_⟩
      cases k with
      | true => exact ⟨B, ρ1, S1, σd, fl, σd', S', R1, r.ext x1, j0.ext x1, e2, fun ρ' H' σ' x R r j => p ρ' H' σ' (x1.trans x) R r j⟩
      | false => exact ⟨B, ρ1, S1, σd, fl, σd', S', R1, r.ext x1, j0.ext x1, e2, fun ρ' H' σ' x R r j => p ρ' H' σ' (x1.trans x) R r j⟩
    | _ => exact fail_ok (S := S1) e2
  | Pass pos =>
    rw [trHS]
    refine ps_pass.imp fun D σ H ⟨B, ρ, S, σd, fl, σd', S', R, r, j0, e, p⟩ => ?_
    unfold hS at e
    obtain ⟨ee, rfl⟩ := ret_ok e
    cases ee
    exact p ρ H σ Ext.refl R r j0
  | _ => exact hs_bad (by rw [trHS.eq_def])
theorem hs_all (g : GoodH C sc (X0.suite a0 ((a0, oe) :: pn))) (hz : Zc cls dd oe) (hd : ∃ vs, oe.data = .fields vs) (hsl : SlotOf C sc n oi) (hon : ∀ i, oi = some i → n.isSome = true) (sts : List Stmt) : PSs (X0.suite a0 ((a0, oe) :: pn)) sts (tHS (X0.suite a0 ((a0, oe) :: pn)) cls dd a0 oi x fun σ => hSs x (trHSs C sc n sts) σ) := by
  have key : ∀ (k : Nat) (st : Stmt), sizeOf st < k → PS (X0.suite a0 ((a0, oe) :: pn)) st (tHS (X0.suite a0 ((a0, oe) :: pn)) cls dd a0 oi x fun σ => hS x (trHS C sc n st) σ) := by
    intro k
    induction k with
    | zero => intro e h; omega
    | succ k ih => intro e h; exact hs_step g hz hd hsl hon e fun e' h' => ih e' (by omega)
  exact hs_suite fun st _ => key _ st (Nat.lt_succ_self _)
end
end MI
set_option Elab.async false
set_option linter.all false
set_option maxRecDepth 100000
set_option maxHeartbeats 4000000
/-! exceptions: raise, try, and statements around them -/
namespace MI
open PySem PySem.Spec PyProof.Rows L2
section
variable [XT] {T : Str → Option Fn} {gl : Str → Option D} {n : Nat} {C : TC} {sc : Scope} {X : Cx} {W : WX}
def OkSx (T : Str → Option Fn) (gl : Str → Option D) (n : Nat) (C : TC) (sc : Scope) (st : Stmt) : Prop := ∀ X W, GoodX T gl n C sc X W → PS X st (tSx X W (fun σ => exS (callN T gl n) gl (trS C sc st) σ) fun σ => xS (callN T gl n) gl (trS C sc st) σ)
theorem PS_or {st : Stmt} {t : TS} {u : L2.St → Hp → Prop} (h : PS X st t) (k : PS X st fun _ σ H => u σ H) : PS X st fun E σ H => t E σ H ∨ u σ H := ⟨fun pins s σ H D I hw => hw.elim (h.run pins s σ H D I) (k.run pins s σ H D I)⟩
theorem ps_no {st : Stmt} {g : Env → XR} (h : ∀ σd S r S', g σd S ≠ .ok r S') : PS X st fun _ σ H => tXs X W g σ H := ⟨fun pins s σ H D I ⟨B, ρ, S, σd, d, σd', S', R, r, e, p⟩ => absurd e (h _ _ _ _)⟩
theorem fail_ne {α : Type} {S S' : Sto} {r : α} : (fail : M α) S ≠ .ok r S' := fun h => fail_ok (S := S) h
theorem xE_of {st : Stmt} {g : Env → XR} {m : ME} {t : TE} {u : TS} (he : PE X (Expr.Name "x" ⟨0, 0, 0, 0⟩) t) : True := trivial
theorem tXs_E {m : ME} {σ : L2.St} {H : Hp} (h : tXs X W (fun σ => bnd (xE (callN T gl n) gl σ m) fun d => ret (d, σ)) σ H) : tXE X (callN T gl n) gl W m σ H := by
  obtain ⟨B, ρ, S, σd, d, σd', S', R, r, e, p⟩ := h
  obtain ⟨d1, S1, e1, e2⟩ := bnd_ok e
  obtain ⟨ee, rfl⟩ := ret_ok e2
  cases ee
  exact ⟨B, ρ, S, σd, d, _, R, r, e1, fun ρ' H' cls dd x1 R1 q => p ρ' H' σ cls dd x1 R1 (r.ext x1) q⟩
/-- a small statement -/
theorem xs_small (st : Stmt) (hsm : isSmall st = true) : OkSx T gl n C sc st := by
  intro X W g
  have old := PS_nox (ok_small (T := T) (gl := gl) (n := n) (C := C) (sc := sc) st hsm X.nox g.good)
  refine PS_or old ?_
  have E := fun e : Expr => okx_all (T := T) (gl := gl) (n := n) (C := C) e sc X W g
  have bnd_no : ∀ {m : ME} {σd : Env} {S S' : Sto} {r : D × Env}, isX m = false → (bnd (xE (callN T gl n) gl σd m) fun d => ret (d, σd) : XR) S ≠ .ok r S' := fun {m σd S S' r} hm h => by
    obtain ⟨d1, S1, e1, e2⟩ := bnd_ok h
    rw [xE_isX e1] at hm
    cases hm
  cases st with
  | Assign ts e pos =>
    by_cases h1 : ∃ t, ts = [t]
    · obtain ⟨t, rfl⟩ := h1
      have go : trS C sc (.Assign [t] e pos) = .asg (trG C t sc) (trE C e sc).1 → (gBad (trG C t sc) = false → swappedStores [t] e X.env = pure none) → PS X (.Assign [t] e pos) fun _ σ H => tXs X W (fun σ => xS (callN T gl n) gl (trS C sc (.Assign [t] e pos)) σ) σ H := by
        intro heq hw0
        rw [heq]
        cases hm : isX (trE C e sc).1 with
        | false =>
          refine ps_no fun σd S r S' h => ?_
          unfold xS at h
          exact bnd_no hm (gd_ok h).2
        | true =>
          cases hb : gBad (trG C t sc) with
          | true =>
            refine ps_no fun σd S r S' h => ?_
            unfold xS at h
            have := (gd_ok h).1
            rw [hb] at this
            cases this
          | false =>
            have hg := PG_nox (ok_all (T := T) (gl := gl) (n := n) (C := C) t sc X.nox g.good).2
            have hs : swapsWith e (some t) pos.line X.env = pure false := by
              rcases isX_shape hm with ⟨_, _, _, rfl⟩ | ⟨_, _, _, _, rfl⟩ <;> rfl
            have nst : isStar t = false := by
              cases t with
              | Starred => rw [trG.eq_def] at hb; cases hb
              | _ => rfl
            have hw : swappedStores [t] e X.env = pure none := hw0 hb
            have h1 : (assignEach [t] X.env).map (·.2) = [assign t X.env] := by
              rw [each_plain nst]
              rfl
            refine (ps_asg (E e) hg hs hw h1).imp fun D σ H h => .inr (tXs_E (X := X) ?_)
            obtain ⟨B, ρ, S, σd, d, σd', S', R, r, e, p⟩ := h
            unfold xS at e
            exact ⟨B, ρ, S, σd, d, σd', S', R, r, (gd_ok e).2, p⟩
      by_cases hne : (isTupE t && isTupE e) = true
      · by_cases hfo : ∃ x px y py k1 p1 a b k2 p2, t = .Tuple [.Name x px, .Name y py] k1 p1 ∧ e = .Tuple [a, b] k2 p2 ∧ ([a, b].all (foldedForSure 8) || cel1 sc x || cel1 sc y) = true
        · obtain ⟨x, px, y, py, k1, p1, a, b, k2, p2, rfl, rfl, hf⟩ := hfo
          exact go (by rw [trS] <;> rw [if_pos hf]) fun _ => sw_par (X := X.nox) g.good hf
        · refine ps_no fun σd S r S' h => ?_
          rw [trS.eq_def] at h
          split at h <;> first | contradiction | skip
          · rename_i hh
            cases hh
            split at h
            · rename_i hf
              exact hfo ⟨_, _, _, _, _, _, _, _, _, _, rfl, rfl, hf⟩
            · split at h
              · split at h <;> (unfold xS at h; exact fail_ne h)
              · unfold xS at h; exact fail_ne h
          · rename_i hh; cases hh
            rw [if_pos hne] at h
            unfold xS at h; exact fail_ne h
      · refine go ?_ fun hb => ?_
        · rw [trS.eq_def]
          split <;> first | (rename_i h; cases h; done) | (rename_i h; cases h; exact absurd rfl hne) | (rename_i h; cases h; rw [if_neg hne]) | exact ((by assumption : ∀ (t1 e1 : Expr) (q : Pos), Stmt.Assign [t] e pos = Stmt.Assign [t1] e1 q → False) t e pos rfl).elim
        · cases t with
          | Tuple es k p => cases e <;> first | rfl | exact absurd rfl hne
          | List es p => rw [trG.eq_def] at hb; cases hb
          | _ => rfl
    · refine ps_no fun σd S r S' h => ?_
      match ts, h1 with
      | [t], h1 => exact h1 ⟨_, rfl⟩
      | [], _ => rw [trS.eq_def] at h; unfold xS at h; exact fail_ne h
      | a :: b :: r, _ =>
        have hb : trS C sc (.Assign (a :: b :: r) e pos) = .bad := by rw [trS.eq_def]; split <;> first | rfl | (rename_i h; cases h; done)
        rw [hb] at h
        unfold xS at h; exact fail_ne h
  | Expr e pos =>
    by_cases hc : isComp e = true
    · exact ps_no fun σd S r S' h => by rw [trS, if_pos hc] at h; unfold xS at h; exact fail_ne h
    · have heq : trS C sc (.Expr e pos) = .expr (trE C e sc).1 := by rw [trS, if_neg hc]
      rw [heq]
      cases hm : isX (trE C e sc).1 with
      | false =>
        refine ps_no fun σd S r S' h => ?_
        unfold xS at h
        exact bnd_no hm h
      | true =>
        have hs : swapsWith e none pos.line X.env = pure false := by
          rcases isX_shape hm with ⟨_, _, _, rfl⟩ | ⟨_, _, _, _, rfl⟩ <;> rfl
        refine (ps_expr (E e) hs).imp fun D σ H h => .inr (tXs_E (X := X) ?_)
        obtain ⟨B, ρ, S, σd, d, σd', S', R, r, e, p⟩ := h
        unfold xS at e
        exact ⟨B, ρ, S, σd, d, σd', S', R, r, e, p⟩
  | Return o pos =>
    cases o with
    | none =>
      refine ps_no fun σd S r S' h => ?_
      rw [trS] at h; unfold xS at h
      exact bnd_no rfl h
    | some e =>
      rw [trS]
      refine (ps_ret (E e)).imp fun D σ H h => .inr (tXs_E (X := X) ?_)
      obtain ⟨B, ρ, S, σd, d, σd', S', R, r, e, p⟩ := h
      unfold xS at e
      exact ⟨B, ρ, S, σd, d, σd', S', R, r, e, p⟩
  | AugAssign t op e pos =>
    refine ps_no fun σd S r S' h => ?_
    cases t with
    | Name y p =>
      rw [trS] at h
      cases hi : slotL C sc y with
      | none => rw [hi] at h; unfold Option.elim xS at h; exact fail_ne h
      | some i => rw [hi] at h; unfold Option.elim xS at h; exact fail_ne h
    | _ => rw [trS.eq_def] at h; unfold xS at h; exact fail_ne h
  | If => cases hsm
  | For => cases hsm
  | While => cases hsm
  | Try => cases hsm
  | Raise => cases hsm
  | _ => exact ps_no fun σd S r S' h => by rw [trS.eq_def] at h; unfold xS at h; exact fail_ne h
theorem lookup_in {α β : Type} [BEq α] [LawfulBEq α] {f : α} {w : β} : ∀ {l : List (α × β)}, (f, w) ∈ l → (l.map (·.1)).Nodup → l.lookup f = some w
  | [], h, _ => by simp at h
  | (g, u) :: l, h, nd => by
    rw [List.map_cons, List.nodup_cons] at nd
    rw [List.lookup_cons]
    rcases List.mem_cons.mp h with e | e
    · cases e
      simp
    · have : (f == g) = false := by
        refine beq_eq_false_iff_ne.mpr fun q => nd.1 ?_
        subst q
        exact List.mem_map.mpr ⟨_, e, rfl⟩
      rw [this]
      exact lookup_in e nd.2
theorem lookup_mm {α β : Type} [BEq α] [LawfulBEq α] {x : α} {y : β} : ∀ {l : List (α × β)}, l.lookup x = some y → (x, y) ∈ l
  | [], h => by cases h
  | (a, b) :: l, h => by
    rw [List.lookup_cons] at h
    split at h
    · rename_i e
      cases h
      rw [eq_of_beq e]
      exact List.mem_cons_self
    · exact List.mem_cons_of_mem _ (lookup_mm h)
theorem xfind_zip {k : Kx} {ρ : List Addr} {H : Hp} {f : Str} {v : D} : ∀ {fs : List Str} {vs : List D} {us : List V}, RelDs k ρ H vs us → vs.all flatD = true → xFind f (fs.map .fn) vs = some v → f ∈ fs ∧ ∃ w, (f, w) ∈ fs.zip us ∧ Flat v w
  | [], _, _, _, _, h => by cases h
  | _ :: _, [], _, _, _, h => by cases h
  | g :: fs, d :: vs, us, r, hf, h => by
    obtain ⟨w, ws, rfl, r1, r2⟩ := r
    rw [List.all_cons, Bool.and_eq_true] at hf
    have h : (if isFn f (.fn g) = true then some d else xFind f (fs.map .fn) vs) = some v := h
    split at h
    · rename_i e
      cases h
      have e : g = f := eq_of_beq (show (g == f) = true from e)
      subst e
      exact ⟨List.mem_cons_self, w, by simp, flat_of hf.1 r1⟩
    · obtain ⟨h1, u, h2, h3⟩ := xfind_zip r2 hf.2 h
      exact ⟨List.mem_cons_of_mem _ h1, u, by simp [h2], h3⟩
theorem xs_raise (o c : Option Expr) (pos : Pos) : OkSx T gl n C sc (.Raise o c pos) := by
  intro X W g
  have noL : ∀ {m : MS}, (m = .bad ∨ ∃ x anc fs es, m = .raise x anc fs es) → ∀ {D σ H}, ¬ tSs X (fun σ => exS (callN T gl n) gl m σ) D σ H := fun {m} hm {D σ H} ⟨B, ρ, S, σd, fl, σd', S', R, r, e, p⟩ => by
    rcases hm with rfl | ⟨x, anc, fs, es, rfl⟩ <;> (unfold exS at e; exact fail_ne e)
  by_cases hsh : ∃ x p es q, o = some (.Call (.Name x p) es [] q) ∧ c = none
  · obtain ⟨x, p, es, q, rfl, rfl⟩ := hsh
    by_cases hc : (okName x && isGl sc x && noStar es && !es.isEmpty) = true
    · have hc' := hc
      simp only [Bool.and_eq_true, Bool.not_eq_true'] at hc'
      obtain ⟨⟨⟨h1, h2⟩, h3⟩, h4⟩ := hc'
      cases hl : C.xs.lookup x with
      | none =>
        have hb : trS C sc (.Raise (some (.Call (.Name x p) es [] q)) none pos) = .bad := by rw [trS, if_pos hc, hl]
        rw [hb]
        exact ⟨fun pins s σ H D I h => h.elim (fun z => (noL (.inl rfl) z).elim) fun ⟨B, ρ, S, σd, d, σd', S', R, r, e, p⟩ => by unfold xS at e; exact (fail_ne e).elim⟩
      | some af =>
        obtain ⟨anc, fs⟩ := af
        have hb : trS C sc (.Raise (some (.Call (.Name x p) es [] q)) none pos) = .raise x anc fs (trEs C es sc) := by rw [trS, if_pos hc, hl]
        rw [hb]
        have hmem : (x, anc, fs) ∈ XT.xs := by rw [← g.good.xc.1]; exact lookup_mm hl
        obtain ⟨A, fI, fd, ps, hmg, oex, iC, tI, hbn, F1⟩ := g.good.xf.mak _ _ _ hmem
        have hmg : X.mg x = some (.ref A) := hmg
        have ha : PA X es (tAs X (callN T gl n) gl (trEs C es sc)) := PA_nox (ok_list g.good (fun e _ => ok_all e) h3)
        cases es with
        | nil => cases h4
        | cons e es =>
          have hs3 := h3
          unfold noStar at hs3
          rw [List.all_cons, Bool.and_eq_true, Bool.not_eq_true'] at hs3
          have rm : Room 2 X.A := Room.mono (show Room (n + 2) X.A from g.good.room) (Nat.le_add_left _ _)
          have pr := ps_raise (X := X) (pos := pos) g.good.calm g.tk (pmk_oex (p := p) (pos := q) oex iC tI F1 rm hbn .nil (fun _ _ _ _ _ _ _ h => (cx_no h).elim) (g.good.gl' h2) hmg ha (okN h1).1 (star_cons hs3.1 _) (star_any hs3.2))
          refine pr.imp fun D σ H h => ?_
          rcases h with h | ⟨B, ρ, S, σd, d, σd', S', R, r, ev, pp⟩
          · exact (noL (.inr ⟨_, _, _, _, rfl⟩) h).elim
          · unfold xS at ev
            obtain ⟨vs, S1, e1, e2⟩ := bnd_ok ev
            obtain ⟨hok, e3⟩ := gd_ok e2
            obtain ⟨ee, rfl⟩ := ret_ok e3
            cases ee
            unfold rsOk at hok
            simp only [Bool.and_eq_true, decide_eq_true_eq, Bool.not_eq_true'] at hok
            obtain ⟨⟨⟨⟨o1, o2⟩, o3⟩, o4⟩, o5⟩ := hok
            refine ⟨B, ρ, S, σd, vs, _, R, r, e1, fun ρ1 H1 us x1 R1 r1 => ?_⟩
            have hlen : us.length = fs.length := by rw [← r1.length]; exact o1
            refine ⟨by omega, fun a ha => ⟨a, us, by rw [List.append_nil], hlen, fun z => by (rw [z] at o4; cases o4), upd_same, fun dx hdx hne H' q1 q2 q3 => ⟨rfl, dx, _, q1, q2, ?_, ?_⟩⟩⟩
            · rw [upd_ne hne] at hdx
              exact hdx
            · have hdx1 : H1 dx = none := by rw [upd_ne hne] at hdx; exact hdx
              have hH : upd (L2.del H' a) dx (.xd ((fs.zip us).reverse)) = upd H1 dx (.xd ((fs.zip us).reverse)) := by
                funext b
                by_cases hb : b = dx
                · subst hb; rw [upd_same, upd_same]
                · rw [upd_ne hb, upd_ne hb]
                  by_cases hba : b = a
                  · subst hba; rw [L2.del_same, ha]
                  · rw [L2.del_ne hba, q3 b hba hb, upd_ne hba]
              rw [hH]
              have xn : Ext ρ1 H1 ρ1 (upd H1 dx (.xd ((fs.zip us).reverse))) := Ext.new hdx1
              refine pp ρ1 _ σ _ _ (x1.trans xn) (R1.new hdx1) ((r.ext x1).ext xn) ⟨x, anc, fs, vs, A, rfl, hmem, hmg, rfl, .inr ⟨dx, _, rfl, upd_same⟩, fun f v hv => ?_⟩
              obtain ⟨z1, w, z2, z3⟩ := xfind_zip r1 o5 hv
              refine ⟨z1, dx, _, w, rfl, upd_same, lookup_in (List.mem_reverse.mpr z2) ?_, z3⟩
              rw [List.map_reverse, List.map_fst_zip (by omega)]
              exact (List.reverse_perm fs).nodup_iff.mpr o3
    · have hb : trS C sc (.Raise (some (.Call (.Name x p) es [] q)) none pos) = .bad := by rw [trS, if_neg hc]
      rw [hb]
      exact ⟨fun pins s σ H D I h => h.elim (fun z => (noL (.inl rfl) z).elim) fun ⟨B, ρ, S, σd, d, σd', S', R, r, e, p⟩ => by unfold xS at e; exact (fail_ne e).elim⟩
  · have hb : trS C sc (.Raise o c pos) = .bad := by
      rw [trS.eq_def]
      split <;> first | rfl | contradiction | (exfalso; rename_i h; cases h; exact hsh ⟨_, _, _, _, rfl, rfl⟩)
    rw [hb]
    exact ⟨fun pins s σ H D I h => h.elim (fun z => (noL (.inl rfl) z).elim) fun ⟨B, ρ, S, σd, d, σd', S', R, r, e, p⟩ => by unfold xS at e; exact (fail_ne e).elim⟩
theorem okx_suite : ∀ {sts : List Stmt}, (∀ st ∈ sts, OkSx T gl n C sc st) → ∀ X W, GoodX T gl n C sc X W → PSs X sts (tSx X W (fun σ => exSs (callN T gl n) gl (trSs C sc sts) σ) fun σ => xSs (callN T gl n) gl (trSs C sc sts) σ)
  | [], _, X, W, g => by
    rw [trSs]
    refine pss_nil.imp fun D σ H h => ?_
    rcases h with ⟨B, ρ, S, σd, fl, σd', S', R, r, e, p⟩ | ⟨B, ρ, S, σd, d, σd', S', R, r, e, p⟩
    · unfold exSs at e
      obtain ⟨ee, rfl⟩ := ret_ok e
      cases ee
      exact p ρ H σ Ext.refl R r
    · unfold xSs at e; exact (fail_ne e).elim
  | st :: sts, h, X, W, g => by
    rw [trSs]
    refine (pss_cons (h st List.mem_cons_self X W g) (okx_suite (fun s hs => h s (List.mem_cons_of_mem _ hs)) X W g)).imp fun D σ H h => ?_
    rcases h with ⟨B, ρ, S, σd, fl, σd', S', R, r, e, p⟩ | ⟨B, ρ, S, σd, d, σd', S', R, r, e, p⟩
    · unfold exSs at e
      obtain ⟨⟨f1, σ1⟩, S1, e1, e2⟩ := bnd_ok e
      refine .inl ⟨B, ρ, S, σd, f1, σ1, S1, R, r, e1, fun ρ1 H1 σ2 x1 R1 r1 => ?_⟩
      cases f1 with
      | nx => exact .inl ⟨B, ρ1, S1, σ1, fl, σd', S', R1, r1, e2, fun ρ2 H2 σ3 x2 R2 r2 => p ρ2 H2 σ3 (x1.trans x2) R2 r2⟩
      | brk => obtain ⟨ee, rfl⟩ := ret_ok e2; cases ee; exact p ρ1 H1 σ2 x1 R1 r1
      | cont => obtain ⟨ee, rfl⟩ := ret_ok e2; cases ee; exact p ρ1 H1 σ2 x1 R1 r1
      | ret v => obtain ⟨ee, rfl⟩ := ret_ok e2; cases ee; exact p ρ1 H1 σ2 x1 R1 r1
    · unfold xSs at e
      rcases orM_ok e with e | e
      · exact .inr ⟨B, ρ, S, σd, d, σd', S', R, r, e, p⟩
      · obtain ⟨⟨f1, σ1⟩, S1, e1, e2⟩ := bnd_ok e
        refine .inl ⟨B, ρ, S, σd, f1, σ1, S1, R, r, e1, fun ρ1 H1 σ2 x1 R1 r1 => ?_⟩
        cases f1 with
        | nx => exact .inr ⟨B, ρ1, S1, σ1, d, σd', S', R1, r1, e2, fun ρ2 H2 σ3 cls dd x2 R2 r2 q => p ρ2 H2 σ3 cls dd (x1.trans x2) R2 r2 q⟩
        | brk => exact (fail_ne e2).elim
        | cont => exact (fail_ne e2).elim
        | ret v => exact (fail_ne e2).elim
theorem xs_if (c : Expr) (a b : List Stmt) (pos : Pos) (ha : ∀ st ∈ a, OkSx T gl n C sc st) (hb : ∀ st ∈ b, OkSx T gl n C sc st) : OkSx T gl n C sc (.If c a b pos) := by
  intro X W g
  have hc := (ok_all (T := T) (gl := gl) (n := n) (C := C) c sc X.nox g.good).1.pt
  rw [trS]
  refine (ps_if (PT.nox hc) (okx_suite ha X W g) (okx_suite hb X W g)).imp fun D σ H h => ?_
  rcases h with ⟨B, ρ, S, σd, fl, σd', S', R, r, e, p⟩ | ⟨B, ρ, S, σd, d, σd', S', R, r, e, p⟩
  · unfold exS at e
    obtain ⟨k, S1, e1, e2⟩ := bnd_ok e
    refine ⟨B, ρ, S, σd, k, S1, R, r, e1, fun ρ1 H1 x1 R1 => ?_⟩
    cases k with
    | true => exact .inl ⟨B, ρ1, S1, σd, fl, σd', S', R1, r.ext x1, e2, fun ρ' H' σ' x R r => p ρ' H' σ' (x1.trans x) R r⟩
    | false => exact .inl ⟨B, ρ1, S1, σd, fl, σd', S', R1, r.ext x1, e2, fun ρ' H' σ' x R r => p ρ' H' σ' (x1.trans x) R r⟩
  · unfold xS at e
    obtain ⟨k, S1, e1, e2⟩ := bnd_ok e
    refine ⟨B, ρ, S, σd, k, S1, R, r, e1, fun ρ1 H1 x1 R1 => ?_⟩
    cases k with
    | true => exact .inr ⟨B, ρ1, S1, σd, d, σd', S', R1, r.ext x1, e2, fun ρ' H' σ' cls dd x R r q => p ρ' H' σ' cls dd (x1.trans x) R r q⟩
    | false => exact .inr ⟨B, ρ1, S1, σd, d, σd', S', R1, r.ext x1, e2, fun ρ' H' σ' cls dd x R r q => p ρ' H' σ' cls dd (x1.trans x) R r q⟩
theorem xs_while (c : Expr) (body : List Stmt) (pos : Pos) (hb : ∀ st ∈ body, OkSx T gl n C sc st) : OkSx T gl n C sc (.While c body [] pos) := by
  intro X W g
  have hc := (ok_all (T := T) (gl := gl) (n := n) (C := C) c sc X.nox g.good).1.pt
  rw [trS]
  refine (ps_while g.po (PT.nox hc) (okx_suite hb X W g)).imp fun D σ H h => ?_
  rcases h with ⟨B, ρ, S, σd, fl, σd', S', R, r, e, p⟩ | ⟨B, ρ, S, σd, d, σd', S', R, r, e, p⟩
  · unfold exS at e
    obtain ⟨W0, h1, h2⟩ := while_ok (X := X) R r e p
    refine ⟨W0, h1, fun m σ H hw => ?_⟩
    obtain ⟨B2, ρ2, S2, σd2, k2, S3, q1, q2, q3, q4⟩ := h2 m σ H hw
    refine ⟨B2, ρ2, S2, σd2, k2, S3, q1, q2, q3, fun ρ' H' x R => ?_⟩
    have z := q4 ρ' H' x R
    cases k2 with
    | true =>
      obtain ⟨N, z1, z2⟩ := z
      exact ⟨N, z1, .inl z2⟩
    | false => exact z
  · unfold xS at e
    refine ⟨fun n' σc Hc => ∃ ρc Sc σdc, Ext ρ H ρc Hc ∧ Rel (kx X B) ρc Hc Sc ∧ RelSt (kx X B) ρc Hc σdc σc ∧ xwhl (fun σ => evT (callN T gl n) gl σ (trE C c sc).2) (fun σ => exSs (callN T gl n) gl (trSs C sc body) σ) (fun σ => xSs (callN T gl n) gl (trSs C sc body) σ) n' σdc Sc = .ok (d, σd') S', ⟨turnsMost, ρ, S, σd, Ext.refl, R, r, e⟩, ?_⟩
    rintro n' σc Hc ⟨ρc, Sc, σdc, x, Rc, rc, ec⟩
    cases n' with
    | zero => unfold xwhl at ec; exact (fail_ne ec).elim
    | succ n' =>
      unfold xwhl at ec
      obtain ⟨k, S1, e1, e2⟩ := bnd_ok ec
      refine ⟨B, ρc, Sc, σdc, k, S1, Rc, rc, e1, fun ρ1 H1 x1 R1 => ?_⟩
      cases k with
      | false => exact fail_ok (S := S1) e2
      | true =>
        rcases orM_ok e2 with e2 | e2
        · exact ⟨fun _ _ => False, fun _ _ z => z.elim, .inr ⟨B, ρ1, S1, σdc, d, σd', S', R1, rc.ext x1, e2, fun ρ2 H2 σ3 cls dd x2 R2 r2 q => p ρ2 H2 σ3 cls dd ((x.trans x1).trans x2) R2 r2 q⟩⟩
        · obtain ⟨⟨f1, σ1⟩, S2, e3, e4⟩ := bnd_ok e2
          refine ⟨fun σ' H' => ∃ ρc Sc σdc, Ext ρ H ρc H' ∧ Rel (kx X B) ρc H' Sc ∧ RelSt (kx X B) ρc H' σdc σ' ∧ xwhl (fun σ => evT (callN T gl n) gl σ (trE C c sc).2) (fun σ => exSs (callN T gl n) gl (trSs C sc body) σ) (fun σ => xSs (callN T gl n) gl (trSs C sc body) σ) n' σdc Sc = .ok (d, σd') S', fun σ' H' h => ⟨n', by omega, h⟩,
            .inl ⟨B, ρ1, S1, σdc, f1, σ1, S2, R1, rc.ext x1, e3, fun ρ2 H2 σ2 x2 R2 r2 => ?_⟩⟩
          have x3 := (x.trans x1).trans x2
          cases f1 with
          | nx => exact ⟨ρ2, S2, σ1, x3, R2, r2, e4⟩
          | cont => exact ⟨ρ2, S2, σ1, x3, R2, r2, e4⟩
          | brk => exact (fail_ne e4).elim
          | ret v => exact (fail_ne e4).elim
theorem tGt_mono {X : Cx} {cf : Cf} {t : MG} {x : V} {σ : L2.St} {H : Hp} {Q Q' : L2.St → Hp → Prop} (h : tGt X cf gl t x σ H Q) (q : ∀ σ H, Q σ H → Q' σ H) : tGt X cf gl t x σ H Q' := by
  obtain ⟨B, ρ, S, σd, d, σd', S', R, r, rd, e, p⟩ := h
  exact ⟨B, ρ, S, σd, d, σd', S', R, r, rd, e, fun ρ' H' σ' x R r w => q _ _ (p ρ' H' σ' x R r w)⟩
theorem forx_items {X : Cx} {cf : Cf} {t : MG} {body : List MS} {B ρ : List Addr} {H : Hp} {S S' : Sto} {σd σd' : Env} {σ : L2.St} {ds : List D} {d : D} {E : Ends} {J : L2.It}
    (R : Rel (kx X B) ρ H S) (rσ : RelSt (kx X B) ρ H σd σ) (it : ItOk (kx X B) ρ H J (.items ds)) (e : xforL (loopM cf gl t body) (fun d σ => bnd (evG cf gl σ t d) fun σ2 => xSs cf gl body σ2) ds σd S = .ok (d, σd') S')
    (p : ∀ ρ' H' σ' cls dd, Ext ρ H ρ' H' → Rel (kx X B) ρ' H' S' → RelSt (kx X B) ρ' H' σd' σ' → XRel X.K X.mg H' d cls dd → W cls dd σ' H') :
    ∃ W0 : Nat → Nat → L2.St → Hp → Prop, (∃ m, W0 0 m σ H) ∧ ∀ i m σ H, W0 i m σ H →
      (J.stop i H ∧ E.nx σ H) ∨ (J.go i H ∧ ∃ N : L2.St → Hp → Prop, (∀ σ' H', N σ' H' → ∃ m', m' < m ∧ W0 (i + 1) m' σ' H') ∧ ∀ x H', J.yld i H x H' → tGt X cf gl t x σ H' fun σ2 H2 => tSx X W (fun σ => exSs cf gl body σ) (fun σ => xSs cf gl body σ) { E with nx := N, ct := N, bk := E.nx } σ2 H2) := by
  obtain ⟨c, cz, cv, hc, hJ⟩ := it
  refine ⟨fun i n σc Hc => n = ds.length - i ∧ i ≤ ds.length ∧ ∃ ρc Sc σdc, Ext ρ H ρc Hc ∧ Rel (kx X B) ρc Hc Sc ∧ RelSt (kx X B) ρc Hc σdc σc ∧ RelC (kx X B) ρc Hc c cz cv ∧ xforL (loopM cf gl t body) (fun d σ => bnd (evG cf gl σ t d) fun σ2 => xSs cf gl body σ2) (ds.drop i) σdc Sc = .ok (d, σd') S',
    ⟨ds.length, by simp, by omega, ρ, S, σd, Ext.refl, R, rσ, hc, by simpa using e⟩, ?_⟩
  rintro i n σc Hc ⟨rfl, hi, ρc, Sc, σdc, x, Rc, rc, hcc, ec⟩
  obtain ⟨j1, j2⟩ := hJ B ρc Hc hcc
  by_cases hlt : i < ds.length
  · rw [List.drop_eq_getElem_cons hlt] at ec
    unfold xforL at ec
    rcases orM_ok ec with ec | ec
    · refine .inr ⟨(j1 i ds[i] (by simp [hlt])).1, fun _ _ => False, fun _ _ z => z.elim, fun y H' hy => ?_⟩
      obtain ⟨k1, k2⟩ := (j1 i ds[i] (by simp [hlt])).2 y H' hy
      have xs : Ext ρc Hc ρc H' := Ext.same k1
      obtain ⟨σ2d, S2, e1, e2⟩ := bnd_ok ec
      exact ⟨B, ρc, Sc, σdc, ds[i], σ2d, S2, Rc.keep xs k1, rc.ext xs, k2, e1, fun ρ1 H1 σ2 x1 R1 r1 _ => .inr ⟨B, ρ1, S2, σ2d, d, σd', S', R1, r1, e2, fun ρ2 H2 σ3 cls dd x2 R2 r2 q => p ρ2 H2 σ3 cls dd (((x.trans xs).trans x1).trans x2) R2 r2 q⟩⟩
    · refine .inr ⟨(j1 i ds[i] (by simp [hlt])).1, fun σ' H' => ∃ ρc Sc σdc, Ext ρ H ρc H' ∧ Rel (kx X B) ρc H' Sc ∧ RelSt (kx X B) ρc H' σdc σ' ∧ RelC (kx X B) ρc H' c cz cv ∧ xforL (loopM cf gl t body) (fun d σ => bnd (evG cf gl σ t d) fun σ2 => xSs cf gl body σ2) (ds.drop (i + 1)) σdc Sc = .ok (d, σd') S',
        fun σ' H' h => ⟨ds.length - (i + 1), by omega, rfl, hlt, h⟩, fun y H' hy => ?_⟩
      obtain ⟨k1, k2⟩ := (j1 i ds[i] (by simp [hlt])).2 y H' hy
      have xs : Ext ρc Hc ρc H' := Ext.same k1
      obtain ⟨⟨f1, σ1⟩, S1, e3, e4⟩ := bnd_ok ec
      refine tGt_mono (body_ok (E := E) (Rc.keep xs k1) (rc.ext xs) k2 e3 fun ρ2 H2 σ2 x2 R2 r2 => ?_) fun _ _ z => .inl z
      have x3 : Ext ρc Hc ρ2 H2 := xs.trans x2
      cases f1 with
      | nx => exact ⟨ρ2, S1, σ1, x.trans x3, R2, r2, hcc.ext x3, e4⟩
      | cont => exact ⟨ρ2, S1, σ1, x.trans x3, R2, r2, hcc.ext x3, e4⟩
      | brk => exact fail_ok (S := S1) e4
      | ret v => exact fail_ok (S := S1) e4
  · have e : i = ds.length := by omega
    subst e
    rw [List.drop_length] at ec
    unfold xforL at ec
    exact fail_ok (S := Sc) ec
theorem xs_for (t it : Expr) (body : List Stmt) (pos : Pos) (hb : ∀ st ∈ body, OkSx T gl n C sc st) : OkSx T gl n C sc (.For t it body [] pos) := by
  intro X W g
  by_cases hc : tgOk t it = false
  · have heq : trS C sc (.For t it body [] pos) = .bad := by rw [trS, if_pos hc]
    rw [heq]
    exact ⟨fun pins s σ H D I h => h.elim (fun ⟨B, ρ, S, σd, fl, σd', S', R, r, e, p⟩ => by unfold exS at e; exact (fail_ne e).elim) fun ⟨B, ρ, S, σd, d, σd', S', R, r, e, p⟩ => by unfold xS at e; exact (fail_ne e).elim⟩
  · have heq : trS C sc (.For t it body [] pos) = .for (trG C t sc) (.it (trE C it sc).1) (trSs C sc body) := by rw [trS, if_neg hc]
    rw [heq]
    have hc : tgOk t it = true := by simpa using hc
    unfold tgOk at hc
    simp only [Bool.and_eq_true, Bool.not_eq_true', Bool.or_eq_true] at hc
    have hpi := (ok_all (T := T) (gl := gl) (n := n) (C := C) it sc X.nox g.good).1.pi t fun z => hc.2.elim (fun q => by rw [q] at z; cases z) id
    have hg := (ok_all (T := T) (gl := gl) (n := n) (C := C) t sc X.nox g.good).2
    refine (ps_for g.po g.good.calm (PI_nox hpi) (PG_nox hg) (okx_suite hb X W g) (set_fold hc.1 _)).imp fun D σ H h => ?_
    rcases h with ⟨B, ρ, S, σd, fl, σd', S', R, r, e, p⟩ | ⟨B, ρ, S, σd, d, σd', S', R, r, e, p⟩
    · unfold exS at e
      obtain ⟨i, S1, e1, e2⟩ := bnd_ok e
      refine ⟨B, ρ, S, σd, i, S1, R, r, e1, fun ρ1 H1 J x1 R1 j1 => ?_⟩
      have pp : SPost (kx X B) ρ1 H1 fl σd' S' D := fun ρ' H' σ' x R r => p ρ' H' σ' (x1.trans x) R r
      have key : ∀ {K : Prop}, K → K := fun z => z
      cases i with
      | items ds =>
        obtain ⟨W0, h1, h2⟩ := for_items (X := X) R1 (r.ext x1) j1 e2 pp
        refine ⟨W0, h1, fun i m σ H hw => (h2 i m σ H hw).imp id fun ⟨q1, N, q2, q3⟩ => ⟨q1, N, q2, fun x H' hy => tGt_mono (q3 x H' hy) fun _ _ z => .inl z⟩⟩
      | live l =>
        obtain ⟨W0, h1, h2⟩ := for_live (X := X) R1 (r.ext x1) j1 e2 pp
        refine ⟨W0, h1, fun i m σ H hw => (h2 i m σ H hw).imp id fun ⟨q1, N, q2, q3⟩ => ⟨q1, N, q2, fun x H' hy => tGt_mono (q3 x H' hy) fun _ _ z => .inl z⟩⟩
    · unfold xS at e
      obtain ⟨i, S1, e1, e2⟩ := bnd_ok e
      refine ⟨B, ρ, S, σd, i, S1, R, r, e1, fun ρ1 H1 J x1 R1 j1 => ?_⟩
      cases i with
      | items ds => exact forx_items (X := X) R1 (r.ext x1) j1 e2 fun ρ' H' σ' cls dd x R r q => p ρ' H' σ' cls dd (x1.trans x) R r q
      | live l => exact fail_ok (S := S1) e2
theorem RelSt.clear {k : Kx} {ρ : List Addr} {H : Hp} {σd : Env} {σ : L2.St} {i : Nat} {w : Option V} (r : RelSt k ρ H σd σ) : RelSt k ρ H (σd.set i none) (σ.set i w) := by
  refine ⟨by simp [r.1], fun j d h => ?_⟩
  unfold getV at h
  by_cases e : j = i
  · subst e
    by_cases hl : j < σd.length
    · rw [List.getElem?_set_self hl] at h; cases h
    · rw [List.getElem?_eq_none (by simpa using hl)] at h; cases h
  · rw [List.getElem?_set_ne (Ne.symm e)] at h
    obtain ⟨v, q1, q2⟩ := r.2 j d h
    exact ⟨v, by rw [List.getElem?_set_ne (Ne.symm e)]; exact q1, q2⟩
theorem GoodX.tr (g : GoodX T gl n C sc X W) {W' : WX} {pn : List (Addr × Obj)} {xe : Value → Shared → Prop} (tk : Takes (X.tr pn xe) W') (po : PassesOwn (model X.prog X.w) X.A X.env xe) : GoodX T gl n C sc (X.tr pn xe) W' :=
  ⟨⟨g.good.N, g.good.nd, g.good.scs, g.good.calm, g.good.room, g.good.gu, g.good.sys, rfl, g.good.glb, g.good.unb, g.good.fnv, g.good.xc, g.good.xf, g.good.fT, g.good.bg, g.good.fns⟩, tk, po, g.hs, g.hf⟩
theorem names_of (g : GoodX T gl n C sc X W) {c : Str} (h : xName C sc c = true) : ∃ cv, Names X c cv ∧ nmV X.mg c = some cv := by
  obtain ⟨h1, h2, h3⟩ := xName_ok h
  obtain ⟨hok, hh⟩ := g.good.xf.nm c (g.good.xc.2 ▸ h3)
  rcases hh with ⟨A, hA⟩ | ⟨s, hs, hb⟩
  · have hA : X.mg c = some (.ref A) := hA
    exact ⟨.ref A, ⟨g.good.gl' h2, (okN hok).1, .inl hA⟩, by unfold nmV; rw [hA]⟩
  · have hs : X.mg c = none := hs
    exact ⟨.type s, ⟨g.good.gl' h2, (okN hok).1, .inr ⟨hs, hb, (okN hok).2.2⟩⟩, by unfold nmV; rw [hs]; exact hb⟩
theorem exm_of {c : Str} {cv : Value} {H : Hp} {x : D} {cls : Value} {dd : Option Addr} (g : GoodX T gl n C sc X W) (hc : xName C sc c = true) (hcv : nmV X.mg c = some cv) (q : XRel X.K X.mg H x cls dd) (hx : xIs c x = true) : PySem.W.exmOne X.K cls cv = some true := by
  obtain ⟨c0, anc, fs, vs, A, rfl, hm, hA, rfl, _⟩ := q
  rw [xIs_mk] at hx
  have h := (g.good.xf.fact _ hm c (g.good.xc.2 ▸ (xName_ok hc).2.2) A cv hA hcv).1
  rw [h]
  exact congrArg some hx
theorem xs_try (body : List Stmt) (hs : List ExceptHandler) (o f : List Stmt) (pos : Pos) (hb : ∀ st ∈ body, OkSx T gl n C sc st) : OkSx T gl n C sc (.Try body hs o f pos) := by
  intro X W g
  have bad : trS C sc (.Try body hs o f pos) = .bad → PS X (.Try body hs o f pos) (tSx X W (fun σ => exS (callN T gl n) gl (trS C sc (.Try body hs o f pos)) σ) fun σ => xS (callN T gl n) gl (trS C sc (.Try body hs o f pos)) σ) := fun z => by
    rw [z]
    exact ⟨fun pins s σ H D I h => h.elim (fun ⟨B, ρ, S, σd, fl, σd', S', R, r, e, p⟩ => by unfold exS at e; exact (fail_ne e).elim) fun ⟨B, ρ, S, σd, d, σd', S', R, r, e, p⟩ => by unfold xS at e; exact (fail_ne e).elim⟩
  by_cases hsh : ∃ c pc nm su ph, hs = [.ExceptHandler (some (.Name c pc)) nm su ph] ∧ o = [] ∧ f = []
  · obtain ⟨c, pc, nm, su, ph, rfl, rfl, rfl⟩ := hsh
    by_cases hc : (xName C sc c && !su.isEmpty) = true
    · have hc' := hc
      simp only [Bool.and_eq_true, Bool.not_eq_true'] at hc'
      obtain ⟨hcn, hsu⟩ := hc'
      obtain ⟨cv, hN, hcv⟩ := names_of g hcn
      cases su with
      | nil => cases hsu
      | cons b0 su =>
        have hbody : ∀ (W' : WX) (pn : List (Addr × Obj)) (xe : Value → Shared → Prop), Takes (X.tr pn xe) W' → PassesOwn (model X.prog X.w) X.A X.env xe → PSs (X.tr pn xe) body (tSx X W' (fun σ => exSs (callN T gl n) gl (trSs C sc body) σ) fun σ => xSs (callN T gl n) gl (trSs C sc body) σ) := fun W' pn xe tk po => okx_suite hb (X.tr pn xe) W' (g.tr tk po)
        cases nm with
        | none =>
          have heq : trS C sc (.Try body [.ExceptHandler (some (.Name c pc)) none (b0 :: su) ph] [] [] pos) = .tryx (trSs C sc body) c none (trHSs C sc none (b0 :: su)) := by rw [trS, if_pos hc]
          rw [heq]
          have hsuite : ∀ (a : Addr) (oe : Obj) (cls : Value) (d : Option Addr) (pn : List (Addr × Obj)), Zc cls d oe → (∃ vs, oe.data = .fields vs) → PSs (X.suite a ((a, oe) :: pn)) (b0 :: su) (fun E σ H => ∃ x, tHS X cls d a none x (fun σ => hSs x (trHSs C sc none (b0 :: su)) σ) E σ H) := fun a oe cls d pn hz hd => ⟨fun pins s σ H E I ⟨x, h⟩ =>
            (hs_all (x := x) (oi := none) (n := none) (g.good.toH a ((a, oe) :: pn)) hz hd (fun y z => nomatch z) (fun i z => nomatch z) (b0 :: su)).run pins s σ H E I h⟩
          refine (ps_try_only g.hs g.hf hN g.tk hbody hsuite).imp fun D σ H h => ?_
          rcases h with ⟨B, ρ, S, σd, fl, σd', S', R, r, e, p⟩ | ⟨B, ρ, S, σd, d, σd', S', R, r, e, p⟩
          · unfold exS at e
            rcases orM_ok e with e | e
            · exact .inl ⟨B, ρ, S, σd, fl, σd', S', R, r, e, p⟩
            · obtain ⟨⟨x, σ1⟩, S1, e1, e2⟩ := bnd_ok e
              dsimp only at e2
              split at e2
              · rename_i hx
                obtain ⟨⟨f2, σ2⟩, S2, e3, e4⟩ := bnd_ok e2
                obtain ⟨ee, rfl⟩ := ret_ok e4
                cases ee
                refine .inr ⟨B, ρ, S, σd, x, σ1, S1, R, r, e1, fun ρ' H' σ' cls dd x1 R1 r1 q => ⟨true, exm_of g hcn hcv q (Bool.and_eq_true_iff.mp hx).1, fun _ a ha => ⟨x, B, ρ', S1, σ1, f2, σ2, _, R1, r1, ⟨(fun i z => by cases z), q⟩, e3, fun ρ2 H2 σ3 x2 R2 r2 j => ?_⟩, fun z => nomatch z⟩⟩
                exact p ρ2 H2 σ3 (x1.trans x2) R2 r2
              · exact (fail_ne e2).elim
          · unfold xS at e; exact (fail_ne e).elim
        | some nm =>
          cases hi : slotL C sc nm with
          | none => exact bad (by rw [trS, if_pos hc, hi])
          | some i =>
            by_cases hl : loc1 sc nm = true
            · have heq : trS C sc (.Try body [.ExceptHandler (some (.Name c pc)) (some nm) (b0 :: su) ph] [] [] pos) = .tryx (trSs C sc body) c (some i) (trHSs C sc (some nm) (b0 :: su)) := by rw [trS, if_pos hc, hi]; simp only [hl, if_true]
              rw [heq]
              obtain ⟨l1, l2, l3⟩ := g.good.lc hi
              have hln : sc.names.lookup nm = some .local := by
                unfold loc1 at hl
                split at hl
                · assumption
                · cases hl
              have hln : X.env.kindOf nm = some .local := g.good.scs.loc _ hln
              have hsv : slotV C sc nm = some i := by
                unfold slotL at hi
                unfold slotV
                split at hi
                · rename_i q; rw [q]; exact hi
                · rename_i q; rw [q]; exact hi
                · cases hi
              have hsuite : ∀ (a : Addr) (oe : Obj) (cls : Value) (d : Option Addr) (pn : List (Addr × Obj)), Zc cls d oe → (∃ vs, oe.data = .fields vs) → PSs (X.suite a ((a, oe) :: pn)) (b0 :: su) (fun E σ H => ∃ x, tHS X cls d a (some i) x (fun σ => hSs x (trHSs C sc (some nm) (b0 :: su)) σ) E σ H) := fun a oe cls d pn hz hd => ⟨fun pins s σ H E I ⟨x, h⟩ =>
                (hs_all (x := x) (oi := some i) (n := some nm) (g.good.toH a ((a, oe) :: pn)) hz hd (fun y z => by cases z; exact ⟨i, rfl, hsv⟩) (fun i z => rfl) (b0 :: su)).run pins s σ H E I h⟩
              refine (ps_try_as (i := i) g.hs g.hf g.good.nd l1 hln hN g.tk hbody hsuite).imp fun D σ H h => ?_
              rcases h with ⟨B, ρ, S, σd, fl, σd', S', R, r, e, p⟩ | ⟨B, ρ, S, σd, d, σd', S', R, r, e, p⟩
              · unfold exS at e
                rcases orM_ok e with e | e
                · exact .inl ⟨B, ρ, S, σd, fl, σd', S', R, r, e, p⟩
                · obtain ⟨⟨x, σ1⟩, S1, e1, e2⟩ := bnd_ok e
                  dsimp only at e2
                  split at e2
                  · rename_i hx
                    obtain ⟨⟨f2, σ2⟩, S2, e3, e4⟩ := bnd_ok e2
                    obtain ⟨ee, rfl⟩ := ret_ok e4
                    cases ee
                    refine .inr ⟨B, ρ, S, σd, x, σ1, S1, R, r, e1, fun ρ' H' σ' cls dd x1 R1 r1 q => ⟨true, exm_of g hcn hcv q (Bool.and_eq_true_iff.mp hx).1, fun _ a ha => ⟨x, B, ρ', S1, σ1.set i none, f2, σ2, _, R1, r1.clear, ⟨fun j z => ?_, q⟩, e3, fun ρ2 H2 σ3 x2 R2 r2 j => ?_⟩, fun z => nomatch z⟩⟩
                    · cases z
                      have hlen : i < σ'.length := by
                        rw [← r1.1]
                        simpa [hasV] using (Bool.and_eq_true_iff.mp hx).2
                      rw [List.getElem?_set_self hlen]
                    · have z := p ρ2 H2 (σ3.set i none) (x1.trans x2) R2 r2.clear
                      cases f2 <;> exact z
                  · exact (fail_ne e2).elim
              · unfold xS at e; exact (fail_ne e).elim
            · exact bad (by rw [trS, if_pos hc, hi]; simp only [if_neg hl])
    · exact bad (by rw [trS.eq_def]; dsimp only; rw [if_neg hc])
  · refine bad ?_
    rw [trS.eq_def]
    split <;> first | rfl | contradiction | (exfalso; rename_i h; cases h; exact hsh ⟨_, _, _, _, _, rfl, rfl, rfl⟩)
theorem xs_bad {st : Stmt} (h : trS C sc st = .bad) : OkSx T gl n C sc st := fun X W g => by
  rw [h]
  exact ⟨fun pins s σ H D I h => h.elim (fun ⟨B, ρ, S, σd, fl, σd', S', R, r, e, p⟩ => by unfold exS at e; exact (fail_ne e).elim) fun ⟨B, ρ, S, σd, d, σd', S', R, r, e, p⟩ => by unfold xS at e; exact (fail_ne e).elim⟩
theorem okx_stmt_step (st : Stmt) (ih : ∀ st', sizeOf st' < sizeOf st → OkSx T gl n C sc st') : OkSx T gl n C sc st := by
  cases st with
  | If c a b pos => exact xs_if c a b pos (fun s hs => ih s (by have := List.sizeOf_lt_of_mem hs; simp; omega)) (fun s hs => ih s (by have := List.sizeOf_lt_of_mem hs; simp; omega))
  | For t it body orelse pos =>
    cases orelse with
    | cons => exact xs_bad (by rw [trS.eq_def])
    | nil => exact xs_for t it body pos (fun s hs => ih s (by have := List.sizeOf_lt_of_mem hs; simp; omega))
  | While c body orelse pos =>
    cases orelse with
    | cons => exact xs_bad (by rw [trS.eq_def])
    | nil => exact xs_while c body pos (fun s hs => ih s (by have := List.sizeOf_lt_of_mem hs; simp; omega))
  | Raise o c pos => exact xs_raise o c pos
  | Try body hs o f pos => exact xs_try body hs o f pos (fun s hs => ih s (by have := List.sizeOf_lt_of_mem hs; simp; omega))
  | _ => exact xs_small _ rfl
theorem okx_stmt : ∀ st : Stmt, OkSx T gl n C sc st := by
  have key : ∀ (k : Nat) (st : Stmt), sizeOf st < k → OkSx T gl n C sc st := by
    intro k
    induction k with
    | zero => intro e h; omega
    | succ k ih => intro e h; exact okx_stmt_step e fun e' h' => ih e' (by omega)
  exact fun e => key _ e (Nat.lt_succ_self _)
end
end MI
set_option Elab.async false
set_option linter.all false
set_option maxRecDepth 100000
set_option maxHeartbeats 4000000
namespace MI
open PySem PySem.Spec PyProof.Rows L2
section
variable {P : Program} {w : World} {K : PySem.W.Frag} {mg : Str → Option Value} {base : Heap}
/-- a def by its body, no guard standing -/
theorem fnG_of {x qual : Str} {st : Stmt} {f : Addr} {fd : FuncData} {N ps : List Str} {k : Nat} {sp : Sp} (F : L2.Fun K x qual st f fd) (S : FnScope N ps (defScope st)) (len : ∀ vs H Q E, sp vs H Q E → vs.length = ps.length)
    (hbody : ∀ (cdv : Value) (A : Around) (outer : List PySem.Env) (s : Shared) (H : Hp) (vs : List V) (Q : VK) (E : XK), Room k (A.deeper (envOfC qual (defScope st) s.heap.objs.size f cdv)) → A.guards = some [] → sp vs H Q E →
      ∃ t, PSs (cxOf (L2.CX P w) P w K mg base N qual (defScope st) f cdv A outer s H E) (defBody st) t ∧ t { nx := fun _ H' => Q .non H', rt := Q } (start N vs) H) : FnG P w K mg base (k + 1) f fd ps sp := by
  obtain ⟨oc, od, kV, doc, pm, an, cdv, ct, osl, rfl, lk, hcd⟩ := F.ex
  refine ⟨len, fun A outer s H args us vs Q E hr hg e0 hb r hsp => ?_⟩
  have hl := len _ _ _ _ hsp
  have KX : K.In s.heap := e0.mod.kin.keeps fun b o e => (e0.bs b o e).1
  have lim : s.heap.NoLimit := e0.mod.nolimit.keeps fun b o e => (e0.bs b o e).1
  have hkind : ∀ y ∈ ps.zip us, (defScope st).names.lookup y.1 = some .local ∨ ((defScope st).names.lookup y.1 = some .cell ∧ ((cellsFrom (s.heap.objs.size + 1) (defScope st).names []).lookup y.1).isSome = true) := fun ⟨n, v⟩ hy =>
    (S.par n (List.of_mem_zip hy).1).elim .inl fun q => .inr ⟨q, PySem.W.cellsFrom_some _ _ _ (.inl q)⟩
  refine codeAny_call_function hr.depth (KX _ _ lk) rfl S.co S.gen rfl (PySem.W.codeRec_of KX hcd) (hb _ _ _ _ ?_)
  refine wpAny_newFunctionEnv_cells S.kind hkind fun env he s1 x => ?_
  subst he
  refine ⟨lim.keeps x.toInCall.keep, codeAny_func ?_⟩
  obtain ⟨t, ht, hq⟩ := hbody cdv A outer s H vs Q E (hr.deeper _) hg hsp
  refine wpAny_mono (ht.run [] s1 (start N vs) H _ (inv_start S hr.hd e0 hl r x) hq) (fun fl s' hs => ?_) fun e s' hs => hs
  cases fl with
  | ret u =>
    obtain ⟨v, σ', H', J, rv, q⟩ := hs
    exact ⟨v, H', J.os, J.bare, J.base, J.hok, rv, q⟩
  | next =>
    obtain ⟨σ', H', J, q⟩ := hs
    exact ⟨.non, H', J.os, J.bare, J.base, J.hok, rfl, q⟩
  | brk => obtain ⟨_, _, _, q⟩ := hs; exact q.elim
  | cont => obtain ⟨_, _, _, q⟩ := hs; exact q.elim
/-- a def of the text, with its translation -/
structure DclW [XT] (K : PySem.W.Frag) (mg : Str → Option Value) (x : Str) (f : Addr) (fn : Fn) (st : Stmt) (fd : FuncData) (C : TC) (ps : List Str) : Prop where
  F : L2.Fun K x x st f fd
  S : FnScope C.N ps (defScope st)
  hb : Binds K fd ps []
  e : fn = ⟨ps.length, C.N.length, trSs C (defScope st) (defBody st)⟩
  hU : ∀ y, y ∈ C.U → mg y = none
  hF : ∀ y, y ∈ C.F → ∃ f, mg y = some (.ref f)
  hX : C.xs = XT.xs ∧ C.xn = XT.xn
  hFs : ∀ y, y ∈ C.F → y ∈ XT.fs
def Dcl [XT] (K : PySem.W.Frag) (mg : Str → Option Value) (x : Str) (f : Addr) (fn : Fn) : Prop := ∃ (st : Stmt) (fd : FuncData) (C : TC) (ps : List Str), DclW K mg x f fn st fd C ps
variable [XT] {T : Str → Option Fn} {gl : Str → Option D}
theorem fn_step (bg : BangOk T) (hfs : ∀ y ∈ XT.fs, T y ≠ none) (xf : XFacts P w K mg base) (sys : SysK base) (glb : ∀ x d, gl x = some d → ∃ u v, mg x = some u ∧ RelV v u ∧ ∀ B ρ H, RelD ⟨K, mg, B⟩ ρ H d v) {n : Nat} {x : Str} {f : Addr} {fn : Fn} {st : Stmt} {fd : FuncData} {C : TC} {ps : List Str}
    (hfn : T x = some fn) (W : DclW K mg x f fn st fd C ps)
    (ih : ∀ (x : Str) (f : Addr), T x ≠ none → mg x = some (.ref f) → ∃ fd ps, PySem.W.keepIn K (.ref f) = true ∧ Binds K fd ps [] ∧ FnG P w K mg base (n + 2) f fd ps (spF K mg T gl n x)) :
    FnG P w K mg base (n + 1 + 2) f fd ps (spF K mg T gl (n + 1) x) := by
  obtain ⟨F, S, hb, rfl, hU, hF, hX, hFs⟩ := W
  have un : ∀ {vs : List D} {S0 S' : Sto} {d : D}, callN T gl (n + 1) x vs S0 = .ok d S' → vs.length = ps.length ∧ ∃ fl σd', exSs (callN T gl n) gl (trSs C (defScope st) (defBody st)) (vs.map some ++ List.replicate (C.N.length - vs.length) none) S0 = .ok (fl, σd') S' ∧ ((∃ v, fl = .ret v ∧ d = v) ∨ (fl = .nx ∧ d = .non)) := by
    intro vs S0 S' d e
    unfold callN at e
    simp only [hfn] at e
    split at e
    · rename_i hl
      obtain ⟨⟨fl, σd'⟩, S1, e1, e2⟩ := bnd_ok e
      refine ⟨hl, fl, σd', ?_⟩
      cases fl with
      | ret v => obtain ⟨rfl, rfl⟩ := ret_ok e2; exact ⟨e1, .inl ⟨d, rfl, rfl⟩⟩
      | nx => obtain ⟨rfl, rfl⟩ := ret_ok e2; exact ⟨e1, .inr ⟨rfl, rfl⟩⟩
      | brk => exact fail_ok (S := S1) e2
      | cont => exact fail_ok (S := S1) e2
    · exact fail_ok (S := S0) e
  have unx : ∀ {vs : List D} {S0 S' : Sto} {d : D}, callN T gl (n + 1) (bang x) vs S0 = .ok d S' → vs.length = ps.length ∧ ∃ σd', xSs (callN T gl n) gl (trSs C (defScope st) (defBody st)) (vs.map some ++ List.replicate (C.N.length - vs.length) none) S0 = .ok (d, σd') S' := by
    intro vs S0 S' d e
    obtain ⟨fn', hfn'⟩ := Option.ne_none_iff_exists'.mp (callN_some e)
    obtain ⟨fn, h1, rfl⟩ := bg x fn' hfn'
    rw [hfn] at h1
    cases h1
    unfold callN at e
    simp only [hfn'] at e
    split at e
    · rename_i hl
      obtain ⟨⟨fl, σd'⟩, S1, e1, e2⟩ := bnd_ok e
      unfold exSs exS at e1
      obtain ⟨⟨fl2, σ2⟩, S2, e3, e4⟩ := bnd_ok e1
      obtain ⟨⟨dx, σ3⟩, S3, e5, e6⟩ := bnd_ok e3
      obtain ⟨ee, rfl⟩ := ret_ok e6
      cases ee
      obtain ⟨ee, rfl⟩ := ret_ok e4
      cases ee
      obtain ⟨rfl, rfl⟩ := ret_ok e2
      exact ⟨hl, _, e5⟩
    · exact fail_ok (S := S0) e
  refine fnG_of F S (fun vs H Q E h => ?_) fun cdv A outer s H vs Q E hr hg h => ?_
  · rcases h with ⟨B, ρ, S0, ds, d, S', R, rd, e, p⟩ | ⟨B, ρ, S0, ds, d, S', R, rd, e, p⟩
    · rw [← rd.length]; exact (un e).1
    · rw [← rd.length]; exact (unx e).1
  have g : GoodX T gl n C (defScope st) (cxOf (L2.CX P w) P w K mg base C.N x (defScope st) f cdv A outer s H E) (fun cls d _ H' => E cls d H') :=
    ⟨⟨rfl, S.nd, ⟨fun _ h => h, fun _ h => ⟨h, rfl⟩, fun _ h => .inr h, fun _ h => h⟩, rfl, hr, hg, sys, rfl, glb, hU, hF, hX, xf, fun y hy => hfs y (hFs y hy), bg, ih⟩,
      takes_of rfl rfl rfl rfl, passes_of rfl, rfl, rfl⟩
  refine ⟨_, okx_suite (fun st _ => okx_stmt st) _ _ g, ?_⟩
  have start : ∀ {B ρ : List Addr} {ds : List D} , RelDs ⟨K, mg, B⟩ ρ H ds vs → ds.length = ps.length → RelSt ⟨K, mg, B⟩ ρ H (ds.map some ++ List.replicate (C.N.length - ds.length) none) (L2.start C.N vs) := by
    intro B ρ ds rd hl
    have hlen := rd.length
    refine ⟨?_, fun i d' h => ?_⟩
    · unfold L2.start
      simp [hlen]
    · unfold getV at h
      have hi : i < ds.length := by
        by_cases hi : i < ds.length
        · exact hi
        · rw [List.getElem?_append_right (by simpa using hi), List.getElem?_replicate] at h
          split at h <;> cases h
      rw [List.getElem?_append_left (by simpa using hi), List.getElem?_map] at h
      cases hd : ds[i]? with
      | none => rw [hd] at h; cases h
      | some y =>
        rw [hd] at h
        cases h
        obtain ⟨v, hv, rv⟩ := rd.get hd
        refine ⟨v, ?_, rv⟩
        unfold L2.start
        rw [List.getElem?_append_left (by simp; omega), List.getElem?_map, hv]
        rfl
  rcases h with ⟨B, ρ, S0, ds, d, S', R, rd, e, p⟩ | ⟨B, ρ, S0, ds, d, S', R, rd, e, p⟩
  · obtain ⟨hl, fl, σd', e1, e2⟩ := un e
    refine .inl ⟨B, ρ, S0, _, fl, σd', S', R, start rd hl, e1, fun ρ1 H1 σ1 x1 R1 r1 => ?_⟩
    rcases e2 with ⟨v, rfl, rfl⟩ | ⟨rfl, rfl⟩
    · exact fun u ru => p ρ1 H1 u x1 R1 ru
    · exact p ρ1 H1 .non x1 R1 rfl
  · obtain ⟨hl, σd', e1⟩ := unx e
    exact .inr ⟨B, ρ, S0, _, d, σd', S', R, start rd hl, e1, fun ρ1 H1 σ1 cls dd x1 R1 r1 q => p ρ1 H1 cls dd x1 R1 q⟩
theorem fns_ok (bg : BangOk T) (hfs : ∀ y ∈ XT.fs, T y ≠ none) (xf : XFacts P w K mg base) (sys : SysK base) (glb : ∀ x d, gl x = some d → ∃ u v, mg x = some u ∧ RelV v u ∧ ∀ B ρ H, RelD ⟨K, mg, B⟩ ρ H d v) (hT : ∀ x fn f, T x = some fn → mg x = some (.ref f) → Dcl K mg x f fn) :
    ∀ (n : Nat) (x : Str) (f : Addr), T x ≠ none → mg x = some (.ref f) → ∃ fd ps, PySem.W.keepIn K (.ref f) = true ∧ Binds K fd ps [] ∧ FnG P w K mg base (n + 2) f fd ps (spF K mg T gl n x) := by
  intro n
  induction n with
  | zero =>
    intro x f hx hf
    obtain ⟨fn, hfn⟩ := Option.ne_none_iff_exists'.mp hx
    obtain ⟨st, fd, C, ps, W⟩ := hT x fn f hfn hf
    have no : ∀ {vs H Q E}, spF K mg T gl 0 x vs H Q E → False := fun {vs H Q E} h => by
      rcases h with ⟨B, ρ, S, ds, d, S', _, _, e, _⟩ | ⟨B, ρ, S, ds, d, S', _, _, e, _⟩
      · unfold callN at e
        exact fail_ok (S := S) e
      · unfold callN at e
        exact fail_ok (S := S) e
    exact ⟨fd, ps, W.F.kp, W.hb, fun vs H Q E h => (no h).elim, fun A outer s H args us vs Q E _ _ _ _ _ h => (no h).elim⟩
  | succ n ih =>
    intro x f hx hf
    obtain ⟨fn, hfn⟩ := Option.ne_none_iff_exists'.mp hx
    obtain ⟨st, fd, C, ps, W⟩ := hT x fn f hfn hf
    exact ⟨fd, ps, W.F.kp, W.hb, fn_step bg hfs xf sys glb hfn W ih⟩
theorem law_fn (bg : BangOk T) (hfs : ∀ y ∈ XT.fs, T y ≠ none) (glb : ∀ x d, gl x = some d → ∃ u v, mg x = some u ∧ RelV v u ∧ ∀ B ρ H, RelD ⟨K, mg, B⟩ ρ H d v) (hT : ∀ x fn f, T x = some fn → mg x = some (.ref f) → Dcl K mg x f fn) (n : Nat) {x p : Str} {f : Addr} {fn : Fn} {st : Stmt} {fd : FuncData} {C : TC}
    (hfn : T x = some fn) (W : DclW K mg x f fn st fd C [p]) (hbi : ∀ (s : Shared) (u : Value), BindsTo s fd ⟨[u], []⟩ [(p, u)]) :
    ∃ fd : FuncData, (∀ (s : Shared) (u : Value), BindsTo s fd ⟨[u], []⟩ [(p, u)]) ∧ ∀ base : Heap, XFacts P w K mg base → K.In base → base.Ns mainGlobals mg → SysK base → FnG P w K mg base (n + 1 + 2) f fd [p] (spF K mg T gl (n + 1) x) :=
  ⟨fd, hbi, fun base xf _ _ sys => fn_step bg hfs xf sys glb hfn W (fns_ok bg hfs xf sys glb hT n)⟩
/-- the head of a law: its promise at the heap behind the top -/
theorem law_callG {mb : Str → Option Value} {k : Nat} {fa a : Addr} {fd : FuncData} {x : Str} {sp : Sp} {s₁ : Shared} {vs : List Value} {ns : List Int}
    (KX : K.In s₁.heap) (hsy : SysK s₁.heap) (hns : s₁.heap.Ns mainGlobals mg) (hb : s₁.heap.Ns builtinsNs mb) (hbb : ∀ x : Str, x ≠ "__name__" → mb x = bootBuiltins x) (hlim : s₁.heap.NoLimit) (hg : s₁.gens = #[])
    (ha : s₁.heap.get? a = some { cls := .type "list", data := .seq vs.toArray }) (hi : IntsAre vs ns) (hl : ns.length ≤ sizeLine) (hr : Room k callerA)
    (F : ∀ base : Heap, K.In base → base.Ns mainGlobals mg → SysK base → FnG P w K mg base k fa fd [x] sp) (hbind : ∀ (s : Shared) (u : Value), BindsTo s fd ⟨[u], []⟩ [(x, u)])
    (hsp : ∀ H : Hp, Only H → SqL K H a (ns.map V.int) → ((∃ o, H a = some (.frz o (.lst (ns.map V.int)))) ∨ SqL K (fun _ => none) a (ns.map V.int)) → sp [.ref a] H (fun v _ => v = .bl true) fun _ _ _ => False) :
    codeAny (model P w) callerA (.call (.ref fa) ⟨[.ref a], []⟩) (fun r s' => r = .ok (.ret (.bool true)) ∧ OldK s₁.heap s'.heap ∧ s'.os = s₁.os ∧ AllBare s'.gens) s₁ := by
  have rv := vals_ints hi
  have lenV := hi.length
  -- all but the script lies in the base
  have main : ∀ H : Hp, (∀ b, H b ≠ none → b = a ∧ K.lookup a = none) → Only H → HOk P w H s₁.heap → sp [.ref a] H (fun v _ => v = .bl true) (fun _ _ _ => False) →
      codeAny (model P w) callerA (.call (.ref fa) ⟨[.ref a], []⟩) (fun r s' => r = .ok (.ret (.bool true)) ∧ OldK s₁.heap s'.heap ∧ s'.os = s₁.os ∧ AllBare s'.gens) s₁ := by
    intro H hA hO hok hS
    have dictFree : ∀ {b : Addr} {o : Obj} {es : Array DictEntry} {ep : Nat}, s₁.heap.get? b = some o → o.data = .dict es ep → H b = none := by
      intro b o es ep e d
      cases q : H b with
      | none => rfl
      | some u =>
        obtain rfl := (hA b (by rw [q]; simp)).1
        rw [ha] at e
        cases e
        exact nomatch d
    have ns' : ∀ {b : Addr} {m : Str → Option Value}, s₁.heap.Ns b m → (hidT s₁.heap H).Ns b m := fun ⟨o, es, ep, e, d, r⟩ => ⟨o, es, ep, hidT_get e (dictFree e d), d, r⟩
    have kin : K.In (hidT s₁.heap H) := by
      intro b o e
      cases q : H b with
      | none => exact hidT_get (KX b o e) q
      | some u =>
        obtain ⟨rfl, z⟩ := hA b (by rw [q]; simp)
        rw [z] at e
        cases e
    have e0 : Env0 P w K mg (hidT s₁.heap H) callerA [] s₁ H := ⟨rfl, ⟨kin, ns' hns, ⟨mb, ns' hb, hbb⟩, let ⟨mc, h1, h2⟩ := hlim; ⟨mc, ns' h1, h2⟩⟩, fun b o e => of_hidT e, Nat.le_of_eq (hidT_size _ _), trivial, fun b hb => absurd (show b ∈ ([] : List Addr) from hb) (by simp), hok, .of_eq hg⟩
    have sys : SysK (hidT s₁.heap H) := by
      obtain ⟨o, h1, h2⟩ := hsy
      refine ⟨o, hidT_get h1 ?_, h2⟩
      cases q : H sysModules with
      | none => rfl
      | some u =>
        have e := (hA sysModules (by rw [q]; simp)).1
        rw [← e] at ha
        rw [ha] at h1
        cases h1
        exact absurd (show Value.type "list" = Value.type "dict" from h2) (by decide)
    refine codeAny_mono ((F _ kin (ns' hns) sys).run callerA [] s₁ H ⟨[.ref a], []⟩ [.ref a] [.ref a] _ _ hr rfl e0 (hbind s₁ (.ref a)) (.cons rfl .nil) hS) fun r s' h => ?_
    cases r with
    | error e => exact (cx_no h).elim
    | ok fl =>
      cases fl with
      | next => exact h.elim
      | brk => exact h.elim
      | cont => exact h.elim
      | ret u =>
        obtain ⟨v, H', os, bare, un, hok', r', q⟩ := h
        obtain rfl : v = .bl true := q
        obtain rfl : u = Value.bool true := r'
        refine ⟨rfl, OldK.of_keep fun b o e => ?_, os, bare⟩
        rcases hO b with z | ⟨ob, xs, z⟩
        · exact un.keep b o e z (fun y => absurd (show b ∈ ([] : List Addr) from y) (by simp)) (by simp)
        · obtain ⟨e1, _⟩ := hok b _ z
          obtain ⟨e2, _⟩ := hok' b _ (un.frzs b ob _ z)
          rw [e] at e1
          cases e1
          exact e2
  cases hk : K.lookup a with
  | some o =>
    have e := KX a o hk
    rw [ha] at e
    cases e
    have hq : SqL K (fun _ => none) a (ns.map V.int) := .inr ⟨_, vs.toArray, _, hk, rfl, rfl, rfl, by rw [List.size_toArray, lenV]; exact hl, by simpa using rv⟩
    exact main (fun _ => none) (fun b z => absurd rfl z) (fun _ => .inl rfl) (fun b u z => nomatch (show (none : Option HO) = some u from z)) (hsp _ (fun _ => .inl rfl) hq (.inr hq))
  | none =>
    have at_ : ∀ b, (if b = a then some (HO.frz { cls := .type "list", data := .seq vs.toArray } (.lst (ns.map V.int))) else none) ≠ none → b = a := fun b z => by
      by_cases hb : b = a
      · exact hb
      · exact absurd (if_neg hb) z
    have hO : Only (fun b => if b = a then some (.frz { cls := .type "list", data := .seq vs.toArray } (.lst (ns.map V.int))) else none) := fun b => by
      by_cases hb : b = a
      · exact .inr ⟨_, _, if_pos hb⟩
      · exact .inl (if_neg hb)
    refine main _ (fun b z => ⟨at_ b z, hk⟩) hO (fun b u z => ?_) (hsp _ hO (.inl (.inr ⟨_, if_pos rfl⟩)) (.inl ⟨_, if_pos rfl⟩))
    obtain rfl := at_ b (by rw [z]; simp)
    have z' := (if_pos rfl).symm.trans z
    cases z'
    exact ⟨ha, by rw [List.length_map]; exact hl, vs, _, rv, ha⟩
end
/-- what a law's def must give: for every short script of small numbers, true -/
def LawOk (T : Str → Option Fn) (gl : Str → Option D) (n k : Nat) : Prop := ∀ ns : List Int, ns.length ≤ n → (∀ z ∈ ns, Builtin.Int.intBits z ≤ 1048576) → ∃ S', callN T gl k "law" [.scr ns] [] = .ok (.bl true) S'
theorem walk_ofG [XT] {l : PySem.W.OpenLaw} {n k : Nat} {q : Program} {loose : List Str} {XP : (Str → Option Value) → Heap → Prop} {YP : World → Heap → Prop} {d : DefRec} {K : Params → PySem.W.Frag} {x : Str} {T : Str → Option Fn} {gl : Str → Option D}
    (hn : l.most = some n) (hn2 : n ≤ sizeLine) (hdf : d.params.defaults = []) (hr : Room (k + 2) callerA)
    (hY : ∀ (w : World) (h : Heap), YP w h → (K w.params).In h ∧ SysK h) (hd : d.name = "law") (hL : LawOk T gl n k)
    (F : ∀ (w : World) (mg : Str → Option Value) (fa : Addr) (h : Heap), (K w.params).In h → h.Ns mainGlobals mg → mg d.name = some (.ref fa) →
      ∃ fd : FuncData, (∀ (s : Shared) (u : Value), BindsTo s fd ⟨[u], []⟩ [(x, u)]) ∧
        ∀ base : Heap, (K w.params).In base → base.Ns mainGlobals mg → SysK base → FnG l.prog w (K w.params) mg base (k + 2) fa fd [x] (spF (K w.params) mg T gl k "law")) :
    PySem.W.WalkO q loose XP YP l.row.toRowW d [] (fun f vs => PySem.call f vs) := by
  refine Att.attach_callB hn hdf fun w s₀ s₁ mg mb fa o pm cd doc a vs ns G Y ho hdat hcd hmg hobj hints hlen hbits hg => ?_
  have KX := (hY w _ Y).1
  obtain ⟨fd, hb, hF⟩ := F w mg fa _ KX G.T.g hmg
  refine law_callG KX (hY w _ Y).2 G.T.g G.T.b G.T.builtins G.T.nolimit hg hobj hints (Nat.le_trans hlen hn2) hr hF hb fun H hO hS hs => ?_
  obtain ⟨S', e⟩ := hL ns hlen hbits
  exact .inl ⟨[], [], [], [.scr ns], .bl true, S', ⟨.nil, rfl, fun b h => absurd h (by simp), fun l a o h _ => by simp at h⟩, ⟨.ref a, [], rfl, ⟨a, rfl, hs⟩, rfl⟩, e, fun ρ' H' v _ _ r => r⟩
end MI
set_option Elab.async false
set_option linter.all false
set_option maxRecDepth 100000
set_option maxHeartbeats 2000000
/-! rules by which `simp` runs the evaluator -/
namespace MI
open PySem PyProof.Rows L2
section
variable {α β : Type} {a : α} {S S' : Sto}
@[simp] theorem bnd_app (m : M α) (f : α → M β) : bnd m f S = (m S).then f := rfl
@[simp] theorem then_ok (f : α → M β) : (R.ok a S).then f = f a S := rfl
@[simp] theorem then_err (f : α → M β) : (R.err).then f = R.err := rfl
@[simp] theorem ret_app : ret a S = R.ok a S := rfl
@[simp] theorem ofO_some : ofO (some a) S = R.ok a S := rfl
@[simp] theorem fail_app : (fail : M α) S = R.err := rfl
@[simp] theorem look_app (f : Sto → Option α) : look f S = ofO (f S) S := by unfold look ofO; cases f S <;> rfl
@[simp] theorem gd_true (m : M α) : gd true m S = m S := rfl
@[simp] theorem ite_app {c : Prop} [Decidable c] (m n : M α) : (if c then m else n) S = if c then m S else n S := by split <;> rfl
end
theorem gd_t {α : Type} {b : Bool} {m : M α} {S : Sto} (h : b = true) : gd b m S = m S := by unfold gd; rw [if_pos h]
theorem look_t {α : Type} {f : Sto → Option α} {S : Sto} {k : α} (h : f S = some k) : look f S = .ok k S := by unfold look; rw [h]
theorem bnd_t {α β : Type} {m : M α} {f : α → M β} {k : α} {S S' : Sto} (h : m S = .ok k S') : bnd m f S = f k S' := by unfold bnd; rw [h]; rfl
theorem bnd2 {α β : Type} {m : M α} {f : α → M β} {k : α} {S S' : Sto} {r : MI.R β} (h : m S = .ok k S') (h2 : f k S' = r) : bnd m f S = r := (bnd_t h).trans h2
section
variable {cf : Cf} {gl : Str → Option D} {σ : MI.Env} {S : Sto}
@[simp] theorem evE_var (i : Nat) : evE cf gl σ (.var i) S = ofO (getV σ i) S := by rw [evE]
@[simp] theorem evE_non : evE cf gl σ .non S = .ok .non S := by rw [evE]; rfl
@[simp] theorem evE_bl (b : Bool) : evE cf gl σ (.bl b) S = .ok (.bl b) S := by rw [evE]; rfl
@[simp] theorem evE_int (b : Int) : evE cf gl σ (.int b) S = .ok (.int b) S := by rw [evE]; rfl
@[simp] theorem evE_str (b : List Nat) : evE cf gl σ (.str b) S = .ok (.str b) S := by rw [evE]; rfl
@[simp] theorem evE_glob (x : Str) : evE cf gl σ (.glob x) S = ofO (gl x) S := by rw [evE]
@[simp] theorem evE_fnv (x : Str) : evE cf gl σ (.fnv x) S = .ok (.fn x) S := by rw [evE]; rfl
@[simp] theorem evE_ty (x : String) : evE cf gl σ (.ty x) S = .ok (.ty x) S := by rw [evE]; rfl
@[simp] theorem evE_bin (m : Bool) (op : Operator) (a b : ME) : evE cf gl σ (.bin m op a b) S = (evE cf gl σ a S).then fun x => bnd (evE cf gl σ b) fun y => binM m op x y := by rw [evE]; rfl
@[simp] theorem evE_not (a : ME) : evE cf gl σ (.not a) S = (evE cf gl σ a S).then fun x => bnd (look fun S => truthOf S x) fun b => ret (.bl (!b)) := by rw [evE]; rfl
@[simp] theorem evE_neg (a : ME) : evE cf gl σ (.neg a) S = (evE cf gl σ a S).then fun x => match x with
    | .int i => ret (.int (-i))
    | _ => fail := by rw [evE]; rfl
@[simp] theorem evE_cmp (op : CmpOp) (a b : ME) : evE cf gl σ (.cmp a op b) S = (evE cf gl σ a S).then fun x => bnd (evE cf gl σ b) fun y => cmpM op x y := by rw [evE]; rfl
@[simp] theorem evE_cmp2 (op op' : CmpOp) (a b c : ME) : evE cf gl σ (.cmp2 a op b op' c) S = (evE cf gl σ a S).then fun x => bnd (evE cf gl σ b) fun y => bnd (cmpB op x y) fun k =>
      if k = true then bnd (evE cf gl σ c) fun z => cmpM op' y z else ret (.bl false) := by rw [evE]; rfl
@[simp] theorem evE_and (a b : ME) : evE cf gl σ (.and a b) S = (evE cf gl σ a S).then fun x => bnd (look fun S => truthOf S x) fun k => if k = true then evE cf gl σ b else ret x := by rw [evE]; rfl
@[simp] theorem evE_or (a b : ME) : evE cf gl σ (.or a b) S = (evE cf gl σ a S).then fun x => bnd (look fun S => truthOf S x) fun k => if k = true then ret x else evE cf gl σ b := by rw [evE]; rfl
@[simp] theorem evE_ite (c : MC) (a b : ME) : evE cf gl σ (.ite c a b) S = (evT cf gl σ c S).then fun k => if k = true then evE cf gl σ a else evE cf gl σ b := by rw [evE]; rfl
@[simp] theorem evE_tup (es : List ME) : evE cf gl σ (.tup es) S = (evEs cf gl σ es S).then mkTup := by rw [evE]; rfl
@[simp] theorem evE_lst (m : Bool) (es : List ME) : evE cf gl σ (.lst m es) S = (evEs cf gl σ es S).then (mkList m) := by rw [evE]; rfl
@[simp] theorem evE_idx (a b : ME) : evE cf gl σ (.idx a b) S = (evE cf gl σ a S).then fun x => bnd (evE cf gl σ b) fun y => idxM x y := by rw [evE]; rfl
@[simp] theorem evE_slc (m : Bool) (a : ME) (lo hi : MO) : evE cf gl σ (.slc m a lo hi) S = (evE cf gl σ a S).then fun x => bnd (evO cf gl σ lo) fun l => bnd (evO cf gl σ hi) fun h => slcM m x l h := by rw [evE]; rfl
@[simp] theorem evE_rev (m : Bool) (a : ME) : evE cf gl σ (.rev m a) S = (evE cf gl σ a S).then fun x => revM m x := by rw [evE]; rfl
@[simp] theorem evE_call (x : Str) (es : List ME) : evE cf gl σ (.call x es) S = (evEs cf gl σ es S).then fun vs => cf x vs := by rw [evE]; rfl
@[simp] theorem evE_callv (i : Nat) (es : List ME) : evE cf gl σ (.callv i es) S = (ofO (getV σ i) S).then fun f => match f with
    | .fn x => bnd (evEs cf gl σ es) fun vs => cf x vs
    | _ => fail := by rw [evE]; rfl
@[simp] theorem evE_blt (m : Bool) (x : Str) (es : List ME) : evE cf gl σ (.blt m x es) S = (evEs cf gl σ es S).then fun vs => bltM m x vs := by rw [evE]; rfl
@[simp] theorem evE_mth (m : Bool) (o : ME) (x : Str) (es : List ME) : evE cf gl σ (.mth m o x es) S = (evE cf gl σ o S).then fun v => bnd (look fun S => tyOf S v) fun t => bnd (evEs cf gl σ es) fun vs => mthM m t v x vs := by rw [evE]; rfl
@[simp] theorem evEs_nil : evEs cf gl σ [] S = .ok [] S := by rw [evEs]; rfl
@[simp] theorem evEs_cons (e : ME) (es : List ME) : evEs cf gl σ (e :: es) S = (evE cf gl σ e S).then fun x => bnd (evEs cf gl σ es) fun xs => ret (x :: xs) := by rw [evEs]; rfl
@[simp] theorem evO_no : evO cf gl σ .no S = .ok none S := by rw [evO]; rfl
@[simp] theorem evO_at (e : ME) : evO cf gl σ (.at e) S = (evE cf gl σ e S).then fun x => match x with
    | .int i => ret (some i)
    | _ => fail := by rw [evO]; rfl
@[simp] theorem evT_not (a : MC) : evT cf gl σ (.not a) S = (evT cf gl σ a S).then fun k => ret (!k) := by rw [evT]; rfl
@[simp] theorem evT_and (a b : MC) : evT cf gl σ (.and a b) S = (evT cf gl σ a S).then fun k => if k = true then evT cf gl σ b else ret false := by rw [evT]; rfl
@[simp] theorem evT_or (a b : MC) : evT cf gl σ (.or a b) S = (evT cf gl σ a S).then fun k => if k = true then ret true else evT cf gl σ b := by rw [evT]; rfl
@[simp] theorem evT_ite (c a b : MC) : evT cf gl σ (.ite c a b) S = (evT cf gl σ c S).then fun k => if k = true then evT cf gl σ a else evT cf gl σ b := by rw [evT]; rfl
@[simp] theorem evT_val (e : ME) : evT cf gl σ (.val e) S = (evE cf gl σ e S).then fun x => look fun S => truthOf S x := by rw [evT]; rfl
@[simp] theorem evG_name (i : Nat) (d : D) : evG cf gl σ (.name i) d S = .ok (σ.set i (some d)) S := by rw [evG]; rfl
@[simp] theorem evG_stn (m : Bool) (i : Nat) (d : D) : evG cf gl σ (.stn m i) d S = .ok (σ.set i (some d)) S := by rw [evG]; rfl
@[simp] theorem evG_sub (o i : ME) (d : D) : evG cf gl σ (.sub o i) d S = (evE cf gl σ o S).then fun x => bnd (evE cf gl σ i) fun y => bnd (setM x y d) fun _ => ret σ := by rw [evG]; rfl
@[simp] theorem evGs_nil : evGs cf gl σ [] [] S = .ok σ S := by rw [evGs]; rfl
@[simp] theorem evGs_cons (g : MG) (gs : List MG) (d : D) (ds : List D) : evGs cf gl σ (g :: gs) (d :: ds) S = (evG cf gl σ g d S).then fun σ2 => evGs cf gl σ2 gs ds := by rw [evGs]; rfl
@[simp] theorem exS_asg (t : MG) (e : ME) : exS cf gl (.asg t e) σ S = (evE cf gl σ e S).then fun d => bnd (evG cf gl σ t d) fun σ2 => ret (.nx, σ2) := by rw [exS]; rfl
@[simp] theorem exS_par (i j : Nat) (a b : ME) : exS cf gl (.par i j a b) σ S = (evE cf gl σ a S).then fun x => bnd (evE cf gl σ b) fun y => ret (.nx, (σ.set i (some x)).set j (some y)) := by rw [exS]; rfl
@[simp] theorem exS_brk : exS cf gl .brk σ S = .ok (.brk, σ) S := by rw [exS]; rfl
@[simp] theorem exS_expr (e : ME) : exS cf gl (.expr e) σ S = (evE cf gl σ e S).then fun _ => ret (.nx, σ) := by rw [exS]; rfl
@[simp] theorem exS_ret (e : ME) : exS cf gl (.ret e) σ S = (evE cf gl σ e S).then fun d => ret (.ret d, σ) := by rw [exS]; rfl
@[simp] theorem exS_ifs (c : MC) (a b : List MS) : exS cf gl (.ifs c a b) σ S = (evT cf gl σ c S).then fun k => if k = true then exSs cf gl a σ else exSs cf gl b σ := by rw [exS]; rfl
@[simp] theorem exSs_nil : exSs cf gl [] σ S = .ok (.nx, σ) S := by rw [exSs]; rfl
@[simp] theorem exSs_cons (s : MS) (r : List MS) : exSs cf gl (s :: r) σ S = (exS cf gl s σ S).then fun p => match p.1 with
    | .nx => exSs cf gl r p.2
    | f => ret (f, p.2) := by rw [exSs]; rfl
@[simp] theorem bm_isi (m : Bool) (vs : List D) : bltM m "isinstance" vs = isiM vs := by unfold bltM; rfl
@[simp] theorem bm_len (m : Bool) (vs : List D) : bltM m "len" vs = lenM vs := by unfold bltM; rfl
@[simp] theorem bm_int (m : Bool) (vs : List D) : bltM m "int" vs = intM vs := by unfold bltM; rfl
@[simp] theorem bm_all (m : Bool) (vs : List D) : bltM m "all" vs = allM vs := by unfold bltM; rfl
@[simp] theorem bm_any (m : Bool) (vs : List D) : bltM m "any" vs = anyM vs := by unfold bltM; rfl
@[simp] theorem bm_repr (m : Bool) (vs : List D) : bltM m "repr" vs = reprM vs := by unfold bltM; rfl
@[simp] theorem bm_tuple (m : Bool) (vs : List D) : bltM m "tuple" vs = tupM vs := by unfold bltM; rfl
@[simp] theorem bm_list (m : Bool) (vs : List D) : bltM m "list" vs = lstM m vs := by unfold bltM; rfl
@[simp] theorem bm_min (m : Bool) (vs : List D) : bltM m "min" vs = minM vs := by unfold bltM; rfl
@[simp] theorem bm_max (m : Bool) (vs : List D) : bltM m "max" vs = maxM vs := by unfold bltM; rfl
@[simp] theorem truthOf_bl {b : Bool} : truthOf S (.bl b) = some b := by unfold truthOf; rfl
@[simp] theorem truthOf_non : truthOf S .non = some false := by unfold truthOf; rfl
@[simp] theorem truthOf_int {i : Int} : truthOf S (.int i) = some (i != 0) := by unfold truthOf; rfl
@[simp] theorem getV_0 {v : Option D} {r : MI.Env} : getV (v :: r) 0 = v := by cases v <;> rfl
@[simp] theorem getV_s {v : Option D} {r : MI.Env} {i : Nat} : getV (v :: r) (i + 1) = getV r i := rfl
/-- what a call ends in -/
def endC (r : MI.R (Fl × MI.Env)) : MI.R D := r.then fun p => match p.1 with
  | .ret v => ret v
  | .nx => ret .non
  | _ => fail
@[simp] theorem endC_ret {d : D} : endC (.ok (.ret d, σ) S) = .ok d S := rfl
@[simp] theorem endC_nx : endC (.ok (.nx, σ) S) = .ok .non S := rfl
theorem call_of {T : Str → Option Fn} {k : Nat} {x : Str} {f : Fn} {vs : List D} (h : T x = some f) (hl : vs.length = f.ps) : callN T gl (k + 1) x vs S = endC (exSs (callN T gl k) gl f.body (vs.map some ++ List.replicate (f.n - vs.length) none) S) := by
  unfold callN
  simp only [h]
  rw [if_pos hl]
  rfl
end
/-! ### told twice -/
def b_told : List MS := [(.asg (.name 3) (.blt false "repr" [(.var 1)])),
    (.for (.name 4) (.it (.blt false "range" [(.int (2))])) [(.asg (.name 5) (.callv 0 [(.var 1)])),
    (.ifs (.or (.not (.val (.blt false "isinstance" [(.var 5), (.ty "bool")]))) (.val (.cmp (.var 5) .NotEq (.var 2)))) [(.ret (.bl false))] [])]),
    (.ret (.cmp (.blt false "repr" [(.var 1)]) .Eq (.var 3)))]
theorem ne_bl {b : Bool} {S : Sto} : cmpB .NotEq (.bl b) (.bl b) S = .ok false S := by
  cases b <;> rfl
theorem told_gen {T : Str → Option Fn} {gl : Str → Option D} {k : Nat} {f : Str} {d : D} {b : Bool} {u : List Nat} {S : Sto} (hT : T "_law_told" = some ⟨3, 6, b_told⟩) (hr : reprM [d] S = .ok (.str u) S) (hf : callN T gl k f [d] S = .ok (.bl b) S) : callN T gl (k + 1) "_law_told" [.fn f, d, .bl b] S = .ok (.bl true) S := by
  rw [call_of hT rfl]
  have hi : isiM [.bl b, .ty "bool"] S = .ok (.bl true) S := by cases b <;> rfl
  have turn : ∀ (i : Int) (o3 o4 o5 : Option D), (bnd (evG (callN T gl k) gl [some (.fn f), some d, some (.bl b), o3, o4, o5] (.name 4) (.int i)) fun σ2 => exSs (callN T gl k) gl [(.asg (.name 5) (.callv 0 [(.var 1)])),
    (.ifs (.or (.not (.val (.blt false "isinstance" [(.var 5), (.ty "bool")]))) (.val (.cmp (.var 5) .NotEq (.var 2)))) [(.ret (.bl false))] [])] σ2) S = .ok (.nx, [some (.fn f), some d, some (.bl b), o3, some (.int i), some (.bl b)]) S := by
    intro i o3 o4 o5
    simp [hf, hi, ne_bl, cmpM]
  have loop : ∀ o3 : Option D, exS (callN T gl k) gl (.for (.name 4) (.it (.blt false "range" [(.int (2))])) [(.asg (.name 5) (.callv 0 [(.var 1)])),
    (.ifs (.or (.not (.val (.blt false "isinstance" [(.var 5), (.ty "bool")]))) (.val (.cmp (.var 5) .NotEq (.var 2)))) [(.ret (.bl false))] [])]) [some (.fn f), some d, some (.bl b), o3, none, none] S = .ok (.nx, [some (.fn f), some d, some (.bl b), o3, some (.int 1), some (.bl b)]) S := by
    intro o3
    rw [exS]
    refine bnd2 (S' := S) (k := It.items [.int 0, .int 1]) ?_ ?_
    · rw [evI.eq_def]
      dsimp only
      refine bnd2 (S' := S) (k := [.int 2]) (by simp) rfl
    · dsimp only
      rw [forL]
      refine bnd2 (turn 0 o3 none none) ?_
      dsimp only
      rw [forL]
      refine bnd2 (turn 1 o3 _ _) ?_
      dsimp only
      rw [forL]
      rfl
  show endC (exSs _ _ b_told [some (.fn f), some d, some (.bl b), none, none, none] S) = _
  unfold b_told
  simp [hr, loop, cmpM, cmpB]
end MI
set_option Elab.async false
set_option linter.all false
set_option maxRecDepth 100000
set_option maxHeartbeats 4000000
/-! an own exception class's __init__, and its facts by computation -/
namespace MI
open PySem PySem.Spec PyProof.Rows L2 ClX
section
variable {X : Cx} {e : Expr} {es : List Expr} {ta : TA} {sup : Str} {Dc : Addr} {p1 p2 pos : Pos}
/-- Sup.__init__(self, ..) -/
theorem pe_suinit {pl : Sem Bool} (hg : Gl X sup) (hdb : (sup == ("__debug__" : Str)) = false) (hm : X.mg sup = some (.ref Dc)) (r : CRead X.K Dc (.type "type")) (vV : PySem.W.findCls X.K (.ref Dc) (.type "type") "__init__" = some (.val (.builtin "ValueError.__init__"))) (ha : PA X (e :: es) ta)
    (hc : eval (.Call (.Attribute (.Name sup p1) "__init__" p2) (e :: es) [] pos) X.env = (do
      let ov ← eval (.Name sup p1) X.env
      standAt p2.atName
      let (f, first) ← holding [ov] (getMethod ov "__init__" pl)
      callWith pos f first (backTo pos (starEach (e :: es) X.env)) (backToKw pos (keywordEach [] X.env))) := by rfl)
    (he : starEach (e :: es) X.env = (false, eval e X.env) :: starEach es X.env := by rfl) (hpl : (backTo pos (starEach es X.env)).any (·.1) = false := by rfl) :
    PE X (.Call (.Attribute (.Name sup p1) "__init__" p2) (e :: es) [] pos) (tVeI X.K ta) := by
  refine ⟨fun pins s σ H Q I h => ?_⟩
  refine PySem.W.methodCall_KW (ld_glob I hg hm ?_ hdb) hc
  refine PySem.W.method_cls I.kIn r.ga (PySem.W.cls_value I.kIn r.rd vV rfl ?_)
  show wpAny _ _ (callWith pos (Value.builtin "ValueError.__init__") [] (backTo pos (starEach (e :: es) X.env)) []) _ _ _
  refine PyProof.Rows.callWith_method1 (thn (ha.run pos pins _ σ H _ (I.tok _) h) fun us s1 ⟨vs, H1, I1, r1, a, C, ws, ev, hl, T, ea, q⟩ => ?_) he hpl
  subst ev
  cases r1 with
  | @cons _ u0 _ ur ra rw' =>
    obtain rfl : u0 = Value.ref a := ra
    have hlen : ur.length ≤ sizeLine := by
      rw [← Paired.length rw', sizeLine_eq]
      omega
    exact oinit_ok T I1 ea hlen fun s' J => ⟨.non, H1, J, rfl, q⟩
end
/-- the stores of an __init__: self.f = f, one after another -/
def iniB : List Str → List Stmt → Bool
  | [], [] => true
  | f :: fs, .Assign [.Attribute (.Name s _) g _] (.Name h _) _ :: sts => s == ("self" : Str) && g == f && h == f && iniB fs sts
  | _, _ => false
def initB (sup : Str) (fs : List Str) : List Stmt → Bool
  | .Expr (.Call (.Attribute (.Name s _) m p) [.Name o _, .Constant (.str _) _ _] [] q) _ :: sts => s == sup && m == ("__init__" : Str) && o == ("self" : Str) && p.endLine == q.line && iniB fs sts
  | _ => false
theorem init_call {s0 : Str} {p0 p1 p2 p3 p4 : Pos} {msg : Str} {k0 : Nat} {env : PySem.Env} (h : (p1.endLine == p4.line) = true) :
    eval (.Call (.Attribute (.Name s0 p0) "__init__" p1) [.Name "self" p2, .Constant (.str msg) k0 p3] [] p4) env = (do
      let ov ← eval (.Name s0 p0) env
      standAt p1.atName
      let (f, first) ← holding [ov] (getMethod ov "__init__" (do return (← importBound (.Name s0 p0) env).getD true))
      callWith p4 f first (backTo p4 (starEach [.Name "self" p2, .Constant (.str msg) k0 p3] env)) (backToKw p4 (keywordEach [] env))) := by
  have h1 : methodCallPos true (.Name s0 p0) env p1 p4 = pure p4 := by
    unfold methodCallPos
    rw [h]
    rfl
  have h2 : eval (.Call (.Attribute (.Name s0 p0) "__init__" p1) [.Name "self" p2, .Constant (.str msg) k0 p3] [] p4) env = (do
      let ov ← eval (.Name s0 p0) env
      standAt p1.atName
      let (f, first) ← holding [ov] (getMethod ov "__init__" (do return (← importBound (.Name s0 p0) env).getD true))
      let callPos ← methodCallPos true (.Name s0 p0) env p1 p4
      callWith callPos f first (backTo p4 (starEach [.Name "self" p2, .Constant (.str msg) k0 p3] env)) (backToKw p4 (keywordEach [] env))) := rfl
  rw [h2, h1]
  rfl
section
variable [XT] {X : Cx} {A : Addr}
theorem visN {N ps : List Str} {sc : Scope} (S : FnScope N ps sc) {x : Str} (h : x ∈ ps) : Vis sc x := (S.par x h).elim .inl fun q => .inr (.inl q)
theorem ini_rest (oex : OexC X.K A) (hvis : ∀ x ∈ X.N, Vis X.env.scope x) (hok : ∀ x ∈ X.N, okName x = true) : ∀ (fs : List Str) (sts : List Stmt) (pre : List Str), iniB fs sts = true → X.N = ("self" : Str) :: (pre ++ fs) → (∀ f ∈ fs, PySem.W.findIn X.K (.ref A) f = some none) →
    ∃ t, PSs X sts t ∧ ∀ (D : Ends) (σ : L2.St) (H : Hp) (a : Addr) (us us' : List V), us.length = pre.length → us'.length = fs.length → σ = some (.ref a) :: ((us ++ us').map some) → ∀ (dx : Addr) (done : List (Str × V)), H a = some (exo a A (some dx)) → H dx = some (exd dx done) → done.length + fs.length ≤ 900 → dx ≠ a →
      (∀ H', H' a = some (exo a A (some dx)) → H' dx = some (exd dx ((fs.zip us').reverse ++ done)) → (∀ b, b ≠ a → b ≠ dx → H' b = H b) → D.nx σ H') → t D σ H
  | [], [], pre, _, hN, _ => ⟨_, pss_nil, fun D σ H a us us' h1 h2 hσ dx done ha hd hl hne k => k H ha (by cases us' with
      | nil => exact hd
      | cons => cases h2) fun _ _ _ => rfl⟩
  | f :: fs, [], _, h, _, _ => by cases h
  | [], s :: sts, _, h, _, _ => by unfold iniB at h; cases h
  | f :: fs, s :: sts, pre, h, hN, hno => by
    unfold iniB at h
    split at h
    · rename_i e; cases e
    · rename_i f' fs' s0 p0 g p1 hh p2 p3 sts' e1 e2
      cases e1
      cases e2
      simp only [Bool.and_eq_true] at h
      obtain ⟨⟨⟨h1, h2⟩, h3⟩, h4⟩ := h
      have h1 := eq_of_beq h1
      have h2 := eq_of_beq h2
      have h3 := eq_of_beq h3
      subst h1 h2 h3
      obtain ⟨t, ht, q⟩ := ini_rest oex hvis hok fs sts (pre ++ [hh]) h4 (by rw [hN]; simp) (fun f hf => hno f (List.mem_cons_of_mem _ hf))
      have i0 : X.N[0]? = some ("self" : Str) := by rw [hN]; rfl
      have i1 : X.N[pre.length + 1]? = some hh := by rw [hN]; simp
      have m0 : ("self" : Str) ∈ X.N := List.mem_of_getElem? i0
      have m1 : hh ∈ X.N := List.mem_of_getElem? i1
      refine ⟨_, pss_cons (ps_ost (pe_var (pos := p0) i0 (hvis _ m0) (okN (hok _ m0)).1 (okN (hok _ m0)).2.1) (pe_var (pos := p2) i1 (hvis _ m1) (okN (hok _ m1)).1 (okN (hok _ m1)).2.1)) ht, fun D σ H a us us' l1 l2 hσ dx done ha hd hl hne k => ?_⟩
      cases us' with
      | nil => cases l2
      | cons u us' =>
        have s0 : σ[0]? = some (some (.ref a)) := by rw [hσ]; rfl
        have s1 : σ[pre.length + 1]? = some (some u) := by rw [hσ]; simp [← l1]
        refine ⟨u, s1, .ref a, s0, a, A, rfl, oex, hno _ List.mem_cons_self, .inr ⟨dx, done, ha, hd, by simp at hl; omega, ?_⟩⟩
        refine q D σ _ a (us ++ [u]) us' (by simp [l1]) (by simpa using l2) (by rw [hσ]; simp) dx ((hh, u) :: done) (by rw [upd_ne (Ne.symm hne)]; exact ha) upd_same (by simp at hl ⊢; omega) hne fun H' q1 q2 q3 => k H' q1 (by rw [q2]; simp) fun b hb hbd => by rw [q3 b hb hbd, upd_ne hbd]
    · cases h
end
variable [XT] {P : Program} {w : World} {K : PySem.W.Frag} {mg : Str → Option Value} {base : Heap}
theorem init_ok {sup qual : Str} {f : Str} {fs : List Str} {st : Stmt} {fI A Dc : Addr} {fd : FuncData} (F : L2.Fun K "__init__" qual st fI fd) (S : FnScope ("self" :: f :: fs) ("self" :: f :: fs) (defScope st)) (hb : initB sup (f :: fs) (defBody st) = true)
    (hok : (("self" : Str) :: f :: fs).all okName = true) (hsu : okName sup = true) (hgl : (defScope st).names.lookup sup = some .globalImplicit) (oex : OexC K A) (hm : mg sup = some (.ref Dc)) (r : CRead K Dc (.type "type")) (vV : PySem.W.findCls K (.ref Dc) (.type "type") "__init__" = some (.val (.builtin "ValueError.__init__")))
    (hno : ∀ g ∈ f :: fs, PySem.W.findIn K (.ref A) g = some none) (hlen : fs.length ≤ 100) : FnOk P w K mg base (L2.CX P w) 1 fI fd ("self" :: f :: fs) (spInit A (f :: fs)) := by
  refine Fun.okX F S (fun vs H Q E ⟨a, us, h1, h2, _⟩ => by rw [h1]; simp [h2]) fun cdv A' outer s H vs Q E hr ⟨a, us, hv, hl, _, ha, k⟩ => ?_
  subst hv
  unfold initB at hb
  split at hb
  · rename_i s0 p0 m p1 o p2 msg k0 p3 p4 p5 sts hbody
    simp only [Bool.and_eq_true] at hb
    obtain ⟨⟨⟨⟨h1, h2⟩, h3⟩, h5⟩, h4⟩ := hb
    have h1 := eq_of_beq h1
    have h2 := eq_of_beq h2
    have h3 := eq_of_beq h3
    subst h1 h2 h3
    rw [hbody]
    cases sts with
    | nil => cases h4
    | cons st1 sts =>
      unfold iniB at h4
      split at h4
      · rename_i e; cases e
      · rename_i f' fs' t0 q0 g q1 hh q2 q3 sts' e1 e2
        cases e1
        cases e2
        simp only [Bool.and_eq_true] at h4
        obtain ⟨⟨⟨j1, j2⟩, j3⟩, j4⟩ := h4
        have j1 := eq_of_beq j1
        have j2 := eq_of_beq j2
        have j3 := eq_of_beq j3
        subst j1 j2 j3
        have hall := List.all_eq_true.mp hok
        generalize hX : cxOf (L2.CX P w) P w K mg base (("self" : Str) :: hh :: fs) qual (defScope st) fI cdv A' outer s H E = X
        have eK : X.K = K := by rw [← hX]; rfl
        have eN : X.N = ("self" : Str) :: hh :: fs := by rw [← hX]; rfl
        have eS : X.env.scope = defScope st := by rw [← hX]; rfl
        have em : X.mg = mg := by rw [← hX]; rfl
        have hvis : ∀ x ∈ X.N, Vis X.env.scope x := fun x hx => by rw [eS]; rw [eN] at hx; exact visN S hx
        have hok' : ∀ x ∈ X.N, okName x = true := fun x hx => by rw [eN] at hx; exact hall x hx
        have i0 : X.N[0]? = some ("self" : Str) := by rw [eN]; rfl
        have i1 : X.N[1]? = some hh := by rw [eN]; rfl
        have m0 : ("self" : Str) ∈ X.N := List.mem_of_getElem? i0
        have m1 : hh ∈ X.N := List.mem_of_getElem? i1
        obtain ⟨t, ht, q⟩ := ini_rest (X := X) (A := A) (by rw [eK]; exact oex) hvis hok' fs sts [hh] j4 (by rw [eN]; rfl) (fun f hf => by rw [eK]; exact hno f (List.mem_cons_of_mem _ hf))
        have pself : ∀ p, PE X (.Name "self" p) (tVar 0) := fun p => pe_var (pos := p) i0 (hvis _ m0) (okN (hok' _ m0)).1 (okN (hok' _ m0)).2.1
        have hg : Gl X s0 := by show X.env.scope.names.lookup s0 = some .globalImplicit; rw [eS]; exact hgl
        have su := pe_suinit (X := X) (sup := s0) (e := .Name "self" p2) (es := [.Constant (.str msg) k0 p3]) (p1 := p0) (p2 := p1) (pos := p4) hg (okN hsu).1 (by rw [em]; exact hm) (by rw [eK]; exact r) (by rw [eK]; exact vV) (pa_cons (pself p2) (pa_cons (pe_str (x := msg) (pos := p3)) pa_nil)) (init_call h5)
        refine ⟨_, pss_cons (ps_expr su) (pss_cons (ps_ost (pself q0) (pe_var (pos := q2) i1 (hvis _ m1) (okN (hok' _ m1)).1 (okN (hok' _ m1)).2.1)) ht), ?_⟩
        cases us with
        | nil => cases hl
        | cons u us =>
          have hst : L2.start (("self" : Str) :: hh :: fs) (V.ref a :: u :: us) = some (.ref a) :: ((([u] ++ us)).map some) := by
            have : us.length = fs.length := by simpa using hl
            unfold L2.start
            simp [this]
          rw [hst]
          refine ⟨.ref a, rfl, a, A, [.str msg], rfl, by simp, by rw [eK]; exact oex, ha, ?_⟩
          refine ⟨u, rfl, .ref a, rfl, a, A, rfl, by rw [eK]; exact oex, by rw [eK]; exact hno _ List.mem_cons_self, .inl ⟨ha, fun dx hdx hne => ?_⟩⟩
          refine q _ _ _ a [u] us rfl (by simpa using hl) rfl dx [(hh, u)] upd_same (by rw [upd_ne hne, upd_same]) (by simp; omega) hne fun H' q1 q2 q3 => ?_
          refine k dx hdx hne H' q1 (by rw [q2]; simp) fun b hb hbd => by rw [q3 b hb hbd, upd_ne hb, upd_ne hbd]
      · cases h4
  · cases hb
end MI
set_option Elab.async false
set_option linter.all false
set_option maxRecDepth 100000
set_option maxHeartbeats 2000000
/-! what the top has written, by computation -/
namespace MI
open PySem PySem.Spec PyProof.Rows L2 ClX
def relBs (f : D → Value → Bool) : List D → List Value → Bool
  | [], [] => true
  | d :: ds, v :: vs => f d v && relBs f ds vs
  | _, _ => false
def relB (K : PySem.W.Frag) : Nat → D → Value → Bool
  | 0, _, _ => false
  | _ + 1, .non, .none => true
  | _ + 1, .bl b, .bool c => b == c
  | _ + 1, .int i, .int j _ => decide (i = j)
  | _ + 1, .str x, .str y _ => decide (toStr x = y)
  | n + 1, .ktup ds, .ref a => match K.lookup a with
    | some ⟨.type c, _, .seq its _, _⟩ => decide (c = "tuple") && decide (its.size ≤ sizeLine) && relBs (relB K n) ds its.toList
    | _ => false
  | _, _, _ => false
theorem relBs_ok {K : PySem.W.Frag} {f : D → Value → Bool} (hf : ∀ d v, f d v = true → ∃ u : V, RelV u v ∧ ∀ mg B ρ H, RelD ⟨K, mg, B⟩ ρ H d u) : ∀ {ds : List D} {vs : List Value}, relBs f ds vs = true → ∃ us : List V, Vals us vs ∧ ∀ mg B ρ H, RelDs ⟨K, mg, B⟩ ρ H ds us
  | [], [], _ => ⟨[], .nil, fun _ _ _ _ => rfl⟩
  | [], _ :: _, h => by cases h
  | _ :: _, [], h => by cases h
  | d :: ds, v :: vs, h => by
    have h : (f d v && relBs f ds vs) = true := h
    rw [Bool.and_eq_true] at h
    obtain ⟨u, h1, h2⟩ := hf d v h.1
    obtain ⟨us, h3, h4⟩ := relBs_ok hf h.2
    exact ⟨u :: us, .cons h1 h3, fun mg B ρ H => ⟨u, us, rfl, h2 mg B ρ H, h4 mg B ρ H⟩⟩
theorem relB_ok {K : PySem.W.Frag} : ∀ (n : Nat) (d : D) (v : Value), relB K n d v = true → ∃ u : V, RelV u v ∧ ∀ mg B ρ H, RelD ⟨K, mg, B⟩ ρ H d u := by
  intro n
  induction n with
  | zero => intro d v h; unfold relB at h; cases h
  | succ n ih =>
    intro d v h
    unfold relB at h
    split at h
    · rename_i e; cases e
    · exact ⟨.non, rfl, fun _ _ _ _ => rfl⟩
    · rename_i b c
      cases eq_of_beq h
      exact ⟨.bl _, rfl, fun _ _ _ _ => rfl⟩
    · rename_i i j t
      cases of_decide_eq_true h
      exact ⟨.int _, ⟨_, rfl⟩, fun _ _ _ _ => rfl⟩
    · rename_i x y t
      cases of_decide_eq_true h
      exact ⟨.str _, ⟨_, rfl⟩, fun _ _ _ _ => rfl⟩
    · rename_i n' ds a e
      cases e
      split at h
      · rename_i c od its ep sl q
        simp only [Bool.and_eq_true, decide_eq_true_eq] at h
        obtain ⟨⟨rfl, h2⟩, h3⟩ := h
        obtain ⟨us, h4, h5⟩ := relBs_ok ih h3
        exact ⟨.ref a, rfl, fun mg B ρ H => ⟨a, us, rfl, .inr ⟨_, its, ep, q, rfl, rfl, h2, h4⟩, h5 mg B ρ H⟩⟩
      · cases h
    · cases h
/-- a constant of the module -/
theorem glb_mk {K : PySem.W.Frag} {h : Heap} {mg : Str → Option Value} {x : Str} {d : D} {v : Value} (X : K.In h) (G : h.Ns mainGlobals mg) (a : PySem.W.nsIn K mainGlobals x = some (some v)) (r : relB K 8 d v = true) :
    ∃ u v, mg x = some u ∧ RelV v u ∧ ∀ B ρ H, RelD ⟨K, mg, B⟩ ρ H d v := by
  obtain ⟨u, h1, h2⟩ := relB_ok 8 d v r
  exact ⟨v, u, PySem.W.mg_of X G a, h1, h2 mg⟩
/-- a def of the module -/
theorem dclw_mk [XT] {K : PySem.W.Frag} {mg : Str → Option Value} {x : Str} {st : Stmt} {C : TC} {ps : List Str} {f : Addr} {oc : Value} {od an : Option Addr} {osl : Array (Option Value)} {kV doc pm cdv ct : Value} {b : List MS} {Us : List Str}
    (l : K.lookup f = some ⟨oc, od, .func (PySem.W.fnOf x x (defArgs st) (defBody st) (defScope st) .none kV doc pm an cdv ct), osl⟩)
    (c : PySem.W.codeIn K cdv x = true) (k : PySem.W.keepIn K (.ref f) = true) (S : FnScope C.N ps (defScope st)) (tr : trSs C (defScope st) (defBody st) = b)
    (hb : ∀ (kV doc pm : Value) (an : Option Addr) (cdv ct : Value) (us : List Value), us.length = ps.length → bindArgs (PySem.W.fnOf x x (defArgs st) (defBody st) (defScope st) .none kV doc pm an cdv ct) ⟨us, []⟩ = pure (ps.zip us))
    (hU : ∀ y ∈ Us, mg y = none) (hF : ∀ y ∈ XT.fs, ∃ f, mg y = some (.ref f)) (hX : C.xs = XT.xs ∧ C.xn = XT.xn) (hU2 : (C.U.all fun y => Us.contains y) = true) (hF2 : (C.F.all fun y => XT.fs.contains y) = true) :
    DclW K mg x f ⟨ps.length, C.N.length, b⟩ st (PySem.W.fnOf x x (defArgs st) (defBody st) (defScope st) .none kV doc pm an cdv ct) C ps := by
  have F := fun_mk (st := st) l c k
  refine ⟨F, S, F.binds hb, by rw [tr], fun y hy => hU y ?_, fun y hy => hF y ?_, hX, fun y hy => ?_⟩
  · have := List.all_eq_true.mp hU2 y hy
    simpa using this
  · have := List.all_eq_true.mp hF2 y hy
    simpa using this
  · have := List.all_eq_true.mp hF2 y hy
    simpa using this
theorem dcl_of [XT] {K : PySem.W.Frag} {h : Heap} {mg : Str → Option Value} {x : Str} {st : Stmt} {C : TC} {ps : List Str} {f : Addr} {fn : Fn} {fd : FuncData} (X : K.In h) (G : h.Ns mainGlobals mg) (a : PySem.W.nsIn K mainGlobals x = some (some (.ref f))) (W : DclW K mg x f fn st fd C ps) :
    ∀ f', mg x = some (.ref f') → Dcl K mg x f' fn := fun f' hf' => by
  have e := hf'.symm.trans (PySem.W.mg_of X G a)
  cases e
  exact ⟨_, _, _, _, W⟩
theorem lookup_mem {α : Type} {x : Str} {y : α} : ∀ {l : List (Str × α)}, l.lookup x = some y → (x, y) ∈ l
  | [], h => by cases h
  | (a, b) :: l, h => by
    rw [List.lookup_cons] at h
    split at h
    · rename_i e
      cases h
      rw [eq_of_beq e]
      exact List.mem_cons_self
    · exact List.mem_cons_of_mem _ (lookup_mem h)
theorem defs_mk [XT] {K : PySem.W.Frag} {mg : Str → Option Value} {T : Str → Option Fn} {tT : List (Str × Fn)} (hT : ∀ x, T x = tT.lookup x) (h : ∀ p ∈ tT, ∀ f, mg p.1 = some (.ref f) → Dcl K mg p.1 f p.2) : ∀ x fn f, T x = some fn → mg x = some (.ref f) → Dcl K mg x f fn := fun x fn f e hf => by
  rw [hT] at e
  exact h _ (lookup_mem e) f hf
theorem glbs_mk {K : PySem.W.Frag} {mg : Str → Option Value} {gl : Str → Option D} {gT : List (Str × D)} (hT : ∀ x, gl x = gT.lookup x) (h : ∀ p ∈ gT, ∃ u v, mg p.1 = some u ∧ RelV v u ∧ ∀ B ρ H, RelD ⟨K, mg, B⟩ ρ H p.2 v) : ∀ x d, gl x = some d → ∃ u v, mg x = some u ∧ RelV v u ∧ ∀ B ρ H, RelD ⟨K, mg, B⟩ ρ H d v := fun x d e => by
  rw [hT] at e
  exact h _ (lookup_mem e)
/-- the head's look: what the top has written, and the table of modules -/
def sysClsB (h : Heap) : Bool := match h.get? sysModules with
  | some ⟨.type n, _, _, _⟩ => n == "dict"
  | _ => false
theorem sysClsB_ok {h : Heap} (e : sysClsB h = true) : SysK h := by
  unfold sysClsB at e
  split at e
  · rename_i n _ _ _ q
    exact ⟨_, q, by rw [eq_of_beq e]⟩
  · cases e
def sHook (K : Params → PySem.W.Frag) (as : List Addr) (e : ∀ P, as = (K P).map (·.1)) (_ : Unit) : PySem.W.Hook where
  α := List (Option Obj) × Bool
  obs := fun s => (as.map s.heap.get?, sysClsB s.heap)
  val := fun w => ((K w.params).map fun p => some p.2, true)
  says := fun w h => PySem.W.InK K w h ∧ SysK h
  of := fun w s x => ⟨PySem.W.InK.of e w s (Prod.mk.inj x).1, sysClsB_ok (Prod.mk.inj x).2⟩
  keeps := fun w h h' x k => ⟨PySem.W.InK.keeps w h h' x.1 k, let ⟨o, a, b⟩ := x.2; ⟨o, k _ _ a, b⟩⟩
theorem s_in_of {K : Params → PySem.W.Frag} {as : List Addr} {e : ∀ P, as = (K P).map (·.1)} {w : World} {h : Heap} {u : Unit} (Y : (sHook K as e u).says w h) : (K w.params).In h ∧ SysK h := Y
/-! exceptions -/
def oexB (K : PySem.W.Frag) (C : Addr) : Bool := (match K.lookup C with
  | some ⟨.type "type", _, .cls cd, sl⟩ => (match cd.mro, sl.toList with
    | .ref C' :: bm, [_, _, _, _, some (.builtin n), _] => C' == C && n == "ValueError.__new__" && !cd.hasDel && cd.hasDict && PySem.HandSPX.refsVE bm
    | _, _ => false)
  | _ => false) && decide (PySem.W.findIn K (.ref C) "__setattr__" = some (some (.builtin "object.__setattr__"))) && decide (PySem.W.subIn K (.ref C) (.type "BaseException") = some true) && decide (PySem.W.typeIn K (.ref C) = some (.type "type")) && PySem.W.keepIn K (.ref C)
theorem oexB_ok {K : PySem.W.Frag} {C : Addr} (h : oexB K C = true) : OexC K C := by
  unfold oexB at h
  simp only [Bool.and_eq_true, decide_eq_true_eq] at h
  obtain ⟨⟨⟨⟨h1, h2⟩, h3⟩, h4⟩, h5⟩ := h
  refine ⟨?_, h2, h3, h4, h5⟩
  split at h1
  · rename_i dd cd sl ho
    split at h1
    · rename_i C' bm k0 k1 k2 k3 n k5 hm hs
      simp only [Bool.and_eq_true, beq_iff_eq, Bool.not_eq_true'] at h1
      obtain ⟨⟨⟨⟨rfl, rfl⟩, hdel⟩, hdict⟩, hr⟩ := h1
      obtain ⟨nm, bs, mro, ns, qn, hd, sn, sb, ab, col, del⟩ := cd
      dsimp only at hm hdel hdict
      subst hm hdel hdict
      have hsl : sl = #[k0, k1, k2, k3, some (.builtin "ValueError.__new__"), k5] := by
        apply Array.toList_inj.mp
        rw [hs]
      subst hsl
      exact ⟨_, _, _, _, _, _, _, _, _, _, _, _, _, _, _, ho, hr⟩
    · cases h1
  · cases h1
def excB (K : PySem.W.Frag) (D : Addr) : Bool := decide (PySem.W.findIn K (.ref D) "__getattribute__" = some (some (.builtin "BaseException.__getattribute__"))) && decide (PySem.W.findIn K (.ref D) "__getattr__" = some none) && decide (PySem.W.subIn K (.ref D) (.type "BaseException") = some true) && PySem.W.hasDictIn K D &&
  decide (PySem.W.findIn K (.ref D) "__class__" = some (some (.builtin "object.__class__"))) && decide (PySem.W.specialIn K (.builtin "object.__class__") "__get__" = some (some (.builtin "getset_descriptor.__get__"))) && decide (PySem.W.takesIn K (.builtin "object.__class__") = some true) && decide (PySem.W.mroIn K D (.type "object") = some true)
theorem excB_ok {K : PySem.W.Frag} {D : Addr} (h : excB K D = true) : ExcC K D := by
  unfold excB at h
  simp only [Bool.and_eq_true, decide_eq_true_eq] at h
  obtain ⟨⟨⟨⟨⟨⟨⟨h1, h2⟩, h3⟩, h4⟩, h5⟩, h6⟩, h7⟩, h8⟩ := h
  exact ⟨h1, h2, h3, h4, h5, h6, h7, h8⟩
def supB (K : PySem.W.Frag) (D : Addr) : Bool := PySem.W.readsIn K D (.type "type") && decide (PySem.W.specialIn K (.ref D) "__getattribute__" = some (some (.builtin "type.__getattribute__"))) &&
  (match PySem.W.findCls K (.ref D) (.type "type") "__init__" with
    | some (.val (.builtin n)) => n == "ValueError.__init__"
    | _ => false)
theorem supB_ok {K : PySem.W.Frag} {D : Addr} (h : supB K D = true) : CRead K D (.type "type") ∧ PySem.W.findCls K (.ref D) (.type "type") "__init__" = some (.val (.builtin "ValueError.__init__")) := by
  unfold supB at h
  simp only [Bool.and_eq_true, decide_eq_true_eq] at h
  obtain ⟨⟨h1, h2⟩, h3⟩ := h
  refine ⟨⟨h1, h2⟩, ?_⟩
  split at h3
  · rename_i n hn
    rw [hn, eq_of_beq h3]
  · cases h3
def nmB (K : PySem.W.Frag) (n : Str) : Option Value := match PySem.W.nsIn K mainGlobals n with
  | some (some v) => some v
  | some none => bootBuiltins n
  | none => none
theorem nmB_ok {K : PySem.W.Frag} {h : Heap} {mg : Str → Option Value} {n : Str} {cv : Value} (X : K.In h) (G : h.Ns mainGlobals mg) (e : nmB K n = some cv) : nmV mg n = some cv := by
  unfold nmB at e
  unfold nmV
  split at e
  · rename_i v q; rw [PySem.W.mg_of X G q]; exact e
  · rename_i q; rw [PySem.W.mg_none_of X G q]; exact e
  · cases e
/-- the names that are asked for -/
def xnB (K : PySem.W.Frag) (n : Str) : Bool := okName n && (match PySem.W.nsIn K mainGlobals n with
  | some (some (.ref _)) => true
  | some none => (match bootBuiltins n with
    | some (.type _) => true
    | _ => false)
  | _ => false)
theorem xnB_ok {K : PySem.W.Frag} {h : Heap} {mg : Str → Option Value} {n : Str} (X : K.In h) (G : h.Ns mainGlobals mg) (e : xnB K n = true) : okName n = true ∧ ((∃ A, mg n = some (.ref A)) ∨ ∃ s, mg n = none ∧ bootBuiltins n = some (.type s)) := by
  unfold xnB at e
  rw [Bool.and_eq_true] at e
  refine ⟨e.1, ?_⟩
  have e := e.2
  split at e
  · rename_i A q; exact .inl ⟨A, PySem.W.mg_of X G q⟩
  · rename_i q
    split at e
    · rename_i s hb; exact .inr ⟨s, PySem.W.mg_none_of X G q, hb⟩
    · cases e
  · cases e
/-- a class that is raised -/
def xcB (K : PySem.W.Frag) (xn : List Str) (p : Str × List Str × List Str) : Bool := match PySem.W.nsIn K mainGlobals p.1 with
  | some (some (.ref A)) => oexB K A && xfB K A && excB K A && (p.2.2.all fun f => decide (PySem.W.findIn K (.ref A) f = some none)) && xn.all fun n => match nmB K n with
    | some cv => decide (PySem.W.exmOne K (.ref A) cv = some (p.2.1.contains n)) && decide (PySem.W.kitOne K (.ref A) cv = some (p.2.1.contains n))
    | none => false
  | _ => false
theorem xcB_ok {K : PySem.W.Frag} {h : Heap} {mg : Str → Option Value} {xn : List Str} {p : Str × List Str × List Str} (X : K.In h) (G : h.Ns mainGlobals mg) (e : xcB K xn p = true) : ∃ A, mg p.1 = some (.ref A) ∧ OexC K A ∧ XfC K A ∧ ExcC K A ∧ (∀ f ∈ p.2.2, PySem.W.findIn K (.ref A) f = some none) ∧
    ∀ n ∈ xn, ∀ cv, nmV mg n = some cv → PySem.W.exmOne K (.ref A) cv = some (p.2.1.contains n) ∧ PySem.W.kitOne K (.ref A) cv = some (p.2.1.contains n) := by
  unfold xcB at e
  split at e
  · rename_i A q
    simp only [Bool.and_eq_true] at e
    obtain ⟨⟨⟨⟨e1, e2⟩, e3⟩, e4⟩, e5⟩ := e
    refine ⟨A, PySem.W.mg_of X G q, oexB_ok e1, xfB_ok e2, excB_ok e3, fun f hf => of_decide_eq_true (List.all_eq_true.mp e4 f hf), fun n hn cv hcv => ?_⟩
    have z := List.all_eq_true.mp e5 n hn
    split at z
    · rename_i cv' hc
      have h1 := nmB_ok X G hc
      rw [hcv] at h1
      cases h1
      rw [Bool.and_eq_true, decide_eq_true_eq, decide_eq_true_eq] at z
      exact z
    · cases z
  · cases e
theorem xfacts_mk [XT] {P : Program} {w : World} {K : PySem.W.Frag} {h base : Heap} {mg : Str → Option Value} (X : K.In h) (G : h.Ns mainGlobals mg) (h1 : (XT.xn.all (xnB K)) = true) (h2 : (XT.xs.all (xcB K XT.xn)) = true)
    (h3 : ∀ c anc fs, (c, anc, fs) ∈ XT.xs → ∃ A fI fd ps, mg c = some (.ref A) ∧ OexC K A ∧ PySem.W.findIn K (.ref A) "__init__" = some (some (.ref fI)) ∧ PySem.W.typeIn K (.ref fI) = some (.type "function") ∧ Binds K fd ps [] ∧ FnOk P w K mg base (L2.CX P w) 1 fI fd ps (spInit A fs)) : XFacts P w K mg base := by
  refine ⟨fun n hn => xnB_ok X G (List.all_eq_true.mp h1 n hn), fun p hp n hn A cv hA hcv => ?_, fun p hp A hA => ?_, h3⟩
  · obtain ⟨A', q1, _, _, _, _, q2⟩ := xcB_ok X G (List.all_eq_true.mp h2 p hp)
    rw [hA] at q1
    cases q1
    exact q2 n hn cv hcv
  · obtain ⟨A', q1, _, q3, q4, q5, q2⟩ := xcB_ok X G (List.all_eq_true.mp h2 p hp)
    rw [hA] at q1
    cases q1
    exact ⟨q3, q4, q5⟩
theorem xmak_mk [XT] {P : Program} {w : World} {K : PySem.W.Frag} {h base : Heap} {mg : Str → Option Value} (X : K.In h) (G : h.Ns mainGlobals mg) {c sup f : Str} {anc fs : List Str} {st : Stmt} {A Dc fI : Addr} {qual : Str} {oc : Value} {od an : Option Addr} {osl : Array (Option Value)} {kV doc pm cdv ct : Value} {xn : List Str}
    (a : PySem.W.nsIn K mainGlobals c = some (some (.ref A))) (x : xcB K xn (c, anc, f :: fs) = true) (i : PySem.W.findIn K (.ref A) "__init__" = some (some (.ref fI))) (t : PySem.W.typeIn K (.ref fI) = some (.type "function"))
    (l : K.lookup fI = some ⟨oc, od, .func (PySem.W.fnOf "__init__" qual (defArgs st) (defBody st) (defScope st) .none kV doc pm an cdv ct), osl⟩) (cc : PySem.W.codeIn K cdv qual = true) (k : PySem.W.keepIn K (.ref fI) = true)
    (S : FnScope ("self" :: f :: fs) ("self" :: f :: fs) (defScope st)) (hb : initB sup (f :: fs) (defBody st) = true) (hok : (("self" : Str) :: f :: fs).all okName = true) (hsu : okName sup = true) (hgl : (defScope st).names.lookup sup = some .globalImplicit)
    (s : PySem.W.nsIn K mainGlobals sup = some (some (.ref Dc))) (sb : supB K Dc = true) (hlen : fs.length ≤ 100)
    (hbi : ∀ (kV doc pm : Value) (an : Option Addr) (cdv ct : Value) (us : List Value), us.length = (("self" : Str) :: f :: fs).length → bindArgs (PySem.W.fnOf "__init__" qual (defArgs st) (defBody st) (defScope st) .none kV doc pm an cdv ct) ⟨us, []⟩ = pure ((("self" : Str) :: f :: fs).zip us)) :
    ∃ A fI fd ps, mg c = some (.ref A) ∧ OexC K A ∧ PySem.W.findIn K (.ref A) "__init__" = some (some (.ref fI)) ∧ PySem.W.typeIn K (.ref fI) = some (.type "function") ∧ Binds K fd ps [] ∧ FnOk P w K mg base (L2.CX P w) 1 fI fd ps (spInit A (f :: fs)) := by
  have F := fun_mk (st := st) l cc k
  obtain ⟨A', q1, q2, _, _, q5, _⟩ := xcB_ok X G x
  have hA : mg c = some (.ref A) := PySem.W.mg_of X G a
  rw [hA] at q1
  cases q1
  obtain ⟨s1, s2⟩ := supB_ok sb
  exact ⟨A, fI, _, _, hA, q2, i, t, F.binds hbi, init_ok F S hb hok hsu hgl q2 (PySem.W.mg_of X G s) s1 s2 q5 hlen⟩
/-- T with the defs that may raise asked for their exceptions -/
def xfn (f : Fn) : Fn := ⟨f.ps, f.n, [.xret f.body]⟩
theorem bang_inj {x y : Str} (h : bang x = bang y) : x = y := by
  obtain ⟨a⟩ := x
  obtain ⟨b⟩ := y
  unfold bang at h
  have h : (#[33] ++ a : Array Nat) = #[33] ++ b := congrArg Str.cps h
  have := congrArg Array.toList h
  simp at this
  obtain rfl := this
  rfl
theorem lookup_app {α : Type} {x : Str} {y : α} : ∀ {l m : List (Str × α)}, l.lookup x = some y → (l ++ m).lookup x = some y
  | [], _, h => by cases h
  | (a, b) :: l, m, h => by
    rw [List.cons_append, List.lookup_cons]
    rw [List.lookup_cons] at h
    split
    · rename_i e; rw [e] at h; exact h
    · rename_i e; rw [e] at h; exact lookup_app h
def tX (t0 R : List (Str × Fn)) : List (Str × Fn) := t0 ++ R.map fun p => (bang p.1, xfn p.2)
theorem bang_mk {t0 R : List (Str × Fn)} (h0 : (t0.all fun p => p.1.cps[0]? != some 33) = true) (hR : ∀ p ∈ R, t0.lookup p.1 = some p.2) : BangOk fun x => (tX t0 R).lookup x := fun x fn' h => by
  have hm := lookup_mem h
  unfold tX at hm
  rcases List.mem_append.mp hm with hm | hm
  · have := List.all_eq_true.mp h0 _ hm
    simp [bang] at this
    refine absurd ?_ this
    rw [Array.getElem?_append_left (by simp)]
    rfl
  · obtain ⟨p, hp, e⟩ := List.mem_map.mp hm
    obtain ⟨e1, e2⟩ := Prod.mk.inj e
    have e3 := bang_inj e1
    refine ⟨p.2, lookup_app (by rw [← e3]; exact hR p hp), e2.symm⟩
end MI
set_option Elab.async false
set_option linter.all false
set_option maxRecDepth 100000
set_option maxHeartbeats 4000000
namespace K12
open PySem PySem.Spec PyProof.Rows L2 MI

def b_is_plain : List MS := [(.ret (.cmp (.idx (.var 0) (.int (0))) .In (.glob "PLAIN")))]
def b_sides_of : List MS := [(.ret (.ite (.val (.call "is_plain" [(.var 0)])) (.tup []) (.slc false (.var 0) (.at (.int (1))) .no)))]
def b_all_named : List MS := [(.asg (.tup [(.name 1), (.name 2)]) (.var 0)),
    (.asg (.name 3) (.comp2 false [4, 5] (.name 4) (.it (.var 2)) (.val (.bl true)) (.name 5) (.it (.call "sides_of" [(.var 4)])) (.val (.bl true)) (.var 5))),
    (.ret (.bin false .Add (.blt false "list" [(.var 1)]) (.comp2 false [5, 6] (.name 5) (.it (.var 3)) (.val (.bl true)) (.name 6) (.it (.call "all_named" [(.var 5)])) (.val (.bl true)) (.var 6))))]
def b_spots_in : List MS := [(.asg (.name 1) (.lst true [(.tup [])])),
    (.for (.tup [(.name 2), (.name 3)]) (.it (.blt false "enumerate" [(.idx (.var 0) (.int (1)))])) [(.for (.tup [(.name 4), (.name 5)]) (.it (.blt false "enumerate" [(.call "sides_of" [(.var 3)])])) [(.expr (.mth false (.var 1) "extend" [(.comp false [6] (.name 6) (.it (.call "spots_in" [(.var 5)])) (.val (.bl true)) (.bin false .Add (.tup [(.var 2), (.var 4)]) (.var 6)))]))])]),
    (.ret (.blt false "tuple" [(.var 1)]))]
def b_room_at : List MS := [(.asg (.name 2) (.var 0)),
    (.for (.name 3) (.it (.blt false "range" [(.int (0)), (.blt false "len" [(.var 1)]), (.int (2))])) [(.asg (.tup [(.name 4), (.name 5)]) (.slc false (.var 1) (.at (.var 3)) (.at (.bin false .Add (.var 3) (.int (2)))))),
    (.asg (.name 2) (.idx (.call "sides_of" [(.idx (.idx (.var 2) (.int (1))) (.var 4))]) (.var 5)))]),
    (.ret (.var 2))]
def b_figures_in : List MS := [(.ret (.blt false "tuple" [(.blt false "sorted" [(.call "all_named" [(.var 0)])])]))]
def b_law_deck : List MS := [(.asg (.name 2) (.int (0))),
    (.ifs (.val (.cmp (.var 1) .Lt (.blt false "len" [(.var 0)]))) [(.asg (.name 2) (.blt false "max" [(.int (0)), (.idx (.var 0) (.var 1))]))] []),
    (.ret (.lst true [(.bin false .Mult (.var 2) (.blt false "int" [(.cmp (.var 2) .GtE (.bin false .Pow (.int (10)) (.int (18))))])), (.bin false .Add (.bin false .Mod (.var 2) (.int (2147483647))) (.bin false .Mult (.int (7853)) (.var 1))), (.int (0))]))]
def b_law_draw : List MS := [(.ifs (.val (.cmp (.idx (.var 0) (.int (0))) .Gt (.int (0)))) [(.asg (.name 2) (.bin false .Mod (.idx (.var 0) (.int (0))) (.var 1))),
    (.asg (.sub (.var 0) (.int (0))) (.bin false .FloorDiv (.idx (.var 0) (.int (0))) (.var 1))),
    (.ret (.var 2))] []),
    (.asg (.sub (.var 0) (.int (2))) (.bin false .Add (.idx (.var 0) (.int (2))) (.int (1)))),
    (.asg (.name 3) (.bin false .Mod (.bin false .Mult (.bin false .Add (.idx (.var 0) (.int (1))) (.bin false .Mult (.int (104683)) (.idx (.var 0) (.int (2))))) (.int (48271))) (.int (2147483647)))),
    (.asg (.name 3) (.bin false .Mod (.bin false .Add (.bin false .Add (.bin false .Mult (.var 3) (.var 3)) (.bin false .Mult (.int (69621)) (.idx (.var 0) (.int (2))))) (.int (43))) (.int (2147483629)))),
    (.ret (.bin false .Mod (.bin false .FloorDiv (.bin false .Mod (.bin false .Add (.bin false .Mult (.var 3) (.var 3)) (.int (32749))) (.int (2147483587))) (.int (8))) (.var 1)))]
def b_law_kept : List MS := [(.ret (.mth false (.str [97, 32, 97, 108, 115, 111, 32, 97, 110, 100, 32, 98, 111, 116, 104, 32, 101, 105, 116, 104, 101, 114, 32, 101, 118, 101, 114, 121, 32, 104, 101, 32, 105, 102, 32, 105, 116, 32, 110, 111, 32, 110, 111, 116, 32, 111, 102, 32, 111, 114, 32, 115, 104, 101, 32, 116, 104, 101, 32, 116, 104, 101, 110, 32, 116, 104, 101, 121, 32, 116, 111, 111]) "split" [(.str [32])]))]
def b_law_texts : List MS := [(.asg (.name 2) (.str [97, 98, 99, 100, 101, 102, 103, 104, 105, 106, 107, 108, 109, 110, 111, 112, 113, 114, 115, 116, 117, 118, 119, 120, 121, 122])),
    (.asg (.name 3) (.call "_law_draw" [(.var 0), (.int (3))])),
    (.asg (.name 4) (.call "_law_draw" [(.var 0), (.int (26))])),
    (.asg (.name 5) (.mth false (.str []) "join" [(.comp false [6] (.name 6) (.it (.blt false "range" [(.int (8))])) (.val (.bl true)) (.idx (.var 2) (.call "_law_draw" [(.var 0), (.int (26))])))])),
    (.asg (.name 7) (.call "_law_draw" [(.var 0), (.int (8))])),
    (.asg (.name 8) (.lst true [])),
    (.for (.name 6) (.it (.blt false "range" [(.int (26))])) [(.asg (.name 9) (.idx (.var 2) (.bin false .Mod (.bin false .Add (.var 4) (.bin false .Mult (.int (3)) (.var 6))) (.int (26))))),
    (.asg (.name 10) (.slc false (.idx (.lst false [(.var 9), (.bin false .Add (.slc false (.bin false .Add (.var 5) (.var 5)) .no (.at (.bin false .Add (.int (1)) (.bin false .Mod (.var 6) (.int (8)))))) (.bin false .Mult (.var 9) (.blt false "int" [(.cmp (.var 6) .Gt (.int (7)))]))), (.bin false .Add (.bin false .Add (.slc false (.var 5) .no (.at (.var 7))) (.var 9)) (.slc false (.var 5) (.at (.bin false .Add (.var 7) (.int (1)))) .no))]) (.var 3)) .no (.at (.int (8))))),
    (.ifs (.and (.val (.cmp (.var 10) .NotIn (.var 8))) (.val (.cmp (.var 10) .NotIn (.call "_law_kept" [])))) [(.expr (.mth false (.var 8) "append" [(.var 10)]))] [])]),
    (.ret (.slc false (.var 8) .no (.at (.var 1))))]
def b_law_words : List MS := [(.asg (.name 1) (.call "_law_texts" [(.var 0), (.int (8))])),
    (.asg (.name 2) (.comp false [3] (.name 3) (.it (.call "_law_texts" [(.var 0), (.int (6))])) (.val (.bl true)) (.bin false .Add (.mth false (.slc false (.var 3) .no (.at (.int (1)))) "upper" []) (.slc false (.var 3) (.at (.int (1))) .no)))),
    (.ret (.tup [(.ite (.val (.bl true)) (.blt false "evens 0" [(.var 1)]) .non), (.ite (.val (.bl true)) (.blt false "sorted set" [(.var 2)]) .non), (.ite (.val (.bl true)) (.blt false "evens 1" [(.var 1)]) .non)]))]
def b_law_figures : List MS := [(.asg (.name 1) (.bin false .Add (.idx (.lst false [(.int (0)), (.int (0)), (.int (7)), (.int (95)), (.int (998)), (.bin false .Pow (.int (10)) (.int (6)))]) (.call "_law_draw" [(.var 0), (.int (6))])) (.call "_law_draw" [(.var 0), (.int (4))]))),
    (.asg (.name 2) (.bin false .Add (.int (1)) (.call "_law_draw" [(.var 0), (.int (3))]))),
    (.asg (.name 3) (.comp true [4] (.name 4) (.it (.blt false "range" [(.int (12))])) (.val (.bl true)) (.bin false .Add (.var 1) (.bin false .Mult (.var 2) (.var 4))))),
    (.ret (.comp true [4] (.name 4) (.it (.blt false "range" [(.int (12))])) (.val (.bl true)) (.mth false (.var 3) "pop" [(.call "_law_draw" [(.var 0), (.blt false "len" [(.var 3)])])])))]
def b_law_pick : List MS := [(.ret (.idx (.var 1) (.call "_law_draw" [(.var 0), (.blt false "len" [(.var 1)])])))]
def b_law_plain : List MS := [(.par 3 4 (.call "_law_pick" [(.var 0), (.var 1)]) (.call "_law_pick" [(.var 0), (.var 1)])),
    (.asg (.name 5) (.lst false [(.tup [(.str [105, 115]), (.call "_law_pick" [(.var 0), (.idx (.var 2) (.int (0)))]), (.var 3)]), (.tup [(.str [99, 97, 108, 108, 101, 100]), (.call "_law_pick" [(.var 0), (.idx (.var 2) (.int (1)))]), (.var 3)]), (.tup [(.str [111, 102]), (.var 3), (.var 4)])])),
    (.asg (.name 5) (.bin false .Add (.var 5) (.lst false [(.tup [(.str [100, 111, 101, 115]), (.call "_law_pick" [(.var 0), (.idx (.var 2) (.int (2)))]), (.var 3)]), (.tup [(.str [100, 111, 101, 115]), (.call "_law_pick" [(.var 0), (.idx (.var 2) (.int (2)))]), (.var 3), (.var 4)])]))),
    (.ret (.call "_law_pick" [(.var 0), (.var 5)]))]
def b_law_room : List MS := [(.asg (.name 6) (.blt false "tuple" [(.comp false [7] (.name 7) (.it (.blt false "range" [(.blt false "min" [(.blt false "len" [(.var 2)]), (.call "_law_draw" [(.var 0), (.int (4))])])])) (.val (.bl true)) (.mth false (.var 2) "pop" [(.int (0))]))])),
    (.asg (.name 3) (.bin false .Add (.var 3) (.blt false "list" [(.var 6)]))),
    (.asg (.name 8) (.lst true [])),
    (.for (.name 7) (.it (.blt false "range" [(.call "_law_draw" [(.var 0), (.int (4))])])) [(.asg (.name 9) (.call "_law_draw" [(.var 0), (.int (7))])),
    (.asg (.sub (.var 5) (.int (0))) (.bin false .Sub (.idx (.var 5) (.int (0))) (.int (1)))),
    (.ifs (.and (.val (.cmp (.idx (.var 5) (.int (0))) .GtE (.int (0)))) (.and (.val (.cmp (.var 1) .Gt (.int (0)))) (.val (.cmp (.var 9) .Lt (.int (3)))))) [(.asg (.name 10) (.call "_law_room" [(.var 0), (.bin false .Sub (.var 1) (.int (1))), (.var 2), (.var 3), (.var 4), (.var 5)])),
    (.asg (.name 11) (.tup [(.str [110, 111, 116]), (.var 10)])),
    (.ifs (.val (.cmp (.var 9) .Gt (.int (0)))) [(.asg (.name 12) (.bin false .Add (.var 3) (.bin false .Mult (.blt false "list" [(.idx (.var 10) (.int (0)))]) (.bin false .Sub (.int (2)) (.var 9))))),
    (.asg (.name 13) (.call "_law_room" [(.var 0), (.bin false .Sub (.var 1) (.int (1))), (.var 2), (.var 12), (.var 4), (.var 5)])),
    (.asg (.name 11) (.tup [(.idx (.lst false [(.str [105, 102]), (.str [111, 114])]) (.bin false .Sub (.var 9) (.int (1)))), (.var 10), (.var 13)]))] []),
    (.expr (.mth false (.var 8) "append" [(.var 11)]))] [(.ifs (.and (.val (.cmp (.idx (.var 5) (.int (0))) .GtE (.int (0)))) (.val (.cmp (.var 3) .NotEq (.lst false [])))) [(.expr (.mth false (.var 8) "append" [(.call "_law_plain" [(.var 0), (.var 3), (.var 4)])]))] [])])]),
    (.ret (.tup [(.var 6), (.blt false "tuple" [(.var 8)])]))]
def b_law_any_room : List MS := [(.asg (.name 1) (.call "_law_words" [(.var 0)])),
    (.ret (.call "_law_room" [(.var 0), (.idx (.lst false [(.int (1)), (.int (2)), (.int (4))]) (.call "_law_draw" [(.var 0), (.int (3))])), (.call "_law_figures" [(.var 0)]), (.lst false []), (.var 1), (.lst true [(.int (24))])]))]
def b_law_spots : List MS := [(.asg (.name 1) (.lst false [(.tup [(.tup []), (.var 0)])])),
    (.for (.tup [(.name 2), (.name 3)]) (.it (.blt false "enumerate" [(.idx (.var 0) (.int (1)))])) [(.ifs (.val (.cmp (.idx (.var 3) (.int (0))) .In (.tup [(.str [110, 111, 116]), (.str [105, 102]), (.str [111, 114])]))) [(.for (.tup [(.name 4), (.name 5)]) (.it (.blt false "enumerate" [(.slc false (.var 3) (.at (.int (1))) .no)])) [(.asg (.name 1) (.bin false .Add (.var 1) (.comp false [6, 7] (.tup [(.name 6), (.name 7)]) (.it (.call "_law_spots" [(.var 5)])) (.val (.bl true)) (.tup [(.bin false .Add (.tup [(.var 2), (.var 4)]) (.var 6)), (.var 7)]))))])] [])]),
    (.ret (.var 1))]
def b_law_named : List MS := [(.asg (.name 1) (.lst false [])),
    (.for (.tup [(.name 2), (.name 3)]) (.it (.call "_law_spots" [(.var 0)])) [(.asg (.name 1) (.bin false .Add (.var 1) (.blt false "list" [(.idx (.var 3) (.int (0)))])))]),
    (.ret (.blt false "tuple" [(.blt false "sorted" [(.var 1)])]))]
def b_law_right : List MS := [(.asg (.name 1) (.blt false "repr" [(.var 0)])),
    (.asg (.name 2) (.call "_law_spots" [(.var 0)])),
    (.ifs (.val (.cmp (.blt false "repr" [(.call "spots_in" [(.var 0)])]) .NotEq (.blt false "repr" [(.blt false "tuple" [(.blt false "sorted" [(.comp false [3, 4] (.tup [(.name 3), (.name 4)]) (.it (.var 2)) (.val (.bl true)) (.var 3))])])]))) [(.ret (.bl false))] []),
    (.ifs (.val (.cmp (.blt false "repr" [(.call "figures_in" [(.var 0)])]) .NotEq (.blt false "repr" [(.call "_law_named" [(.var 0)])]))) [(.ret (.bl false))] []),
    (.for (.tup [(.name 3), (.name 4)]) (.it (.var 2)) [(.ifs (.val (.cmp (.blt false "repr" [(.call "room_at" [(.var 0), (.var 3)])]) .NotEq (.blt false "repr" [(.var 4)]))) [(.ret (.bl false))] []),
    (.asg (.name 5) (.blt false "tuple" [(.comp false [6, 7] (.tup [(.name 6), (.name 7)]) (.it (.call "_law_spots" [(.var 4)])) (.val (.bl true)) (.bin false .Add (.var 3) (.var 6)))])),
    (.ifs (.val (.cmp (.comp false [8] (.name 8) (.it (.var 5)) (.val (.cmp (.var 8) .NotIn (.call "spots_in" [(.var 0)]))) (.var 8)) .NotEq (.lst false []))) [(.ret (.bl false))] []),
    (.ifs (.val (.cmp (.blt false "repr" [(.call "spots_in" [(.var 4)])]) .NotEq (.blt false "repr" [(.blt false "tuple" [(.comp false [8] (.name 8) (.it (.var 5)) (.val (.bl true)) (.slc false (.var 8) (.at (.blt false "len" [(.var 3)])) .no))])]))) [(.ret (.bl false))] [])]),
    (.ret (.cmp (.blt false "repr" [(.var 0)]) .Eq (.var 1)))]
def b_law_long_room : List MS := [(.asg (.tup [(.name 1), (.name 2)]) (.tup [(.call "_law_words" [(.var 0)]), (.slc false (.call "_law_figures" [(.var 0)]) .no (.at (.int (2))))])),
    (.asg (.name 3) (.comp false [4] (.name 4) (.it (.blt false "range" [(.int (12))])) (.val (.bl true)) (.tup [(.str [110, 111, 116]), (.tup [(.tup []), (.tup [(.call "_law_plain" [(.var 0), (.var 2), (.var 1)])])])]))),
    (.ret (.tup [(.blt false "tuple" [(.var 2)]), (.blt false "tuple" [(.var 3)])]))]
def b_law : List MS := [(.for (.name 1) (.it (.blt false "range" [(.blt false "max" [(.int (2)), (.blt false "min" [(.blt false "len" [(.var 0)]), (.int (6))])])])) [(.asg (.name 2) (.call "_law_deck" [(.var 0), (.var 1)])),
    (.par 3 4 (.call "_law_any_room" [(.var 2)]) (.call "_law_any_room" [(.var 2)])),
    (.for (.name 5) (.it (.tup [(.var 3), (.var 4), (.call "_law_long_room" [(.var 2)]), (.var 3)])) [(.ifs (.not (.val (.call "_law_right" [(.var 5)]))) [(.ret (.bl false))] [])])]),
    (.ret (.and (.cmp (.call "spots_in" [(.tup [(.tup []), (.tup [])])]) .Eq (.tup [(.tup [])])) (.cmp (.call "figures_in" [(.tup [(.tup []), (.tup [])])]) .Eq (.tup []))))]
def xsL : List (Str × List Str × List Str) := []
def xnL : List Str := []
def fnames : List Str := ["is_plain", "sides_of", "all_named", "spots_in", "room_at", "figures_in", "_law_deck", "_law_draw", "_law_kept", "_law_texts", "_law_words", "_law_figures", "_law_pick", "_law_plain", "_law_room", "_law_any_room", "_law_spots", "_law_named", "_law_right", "_law_long_room", "law"]
instance xtI : XT := ⟨xsL, xnL, fnames⟩
def t0 : List (Str × Fn) := [("is_plain", ⟨1, 1, b_is_plain⟩),
  ("sides_of", ⟨1, 1, b_sides_of⟩),
  ("all_named", ⟨1, 7, b_all_named⟩),
  ("spots_in", ⟨1, 7, b_spots_in⟩),
  ("room_at", ⟨2, 6, b_room_at⟩),
  ("figures_in", ⟨1, 1, b_figures_in⟩),
  ("_law_deck", ⟨2, 3, b_law_deck⟩),
  ("_law_draw", ⟨2, 4, b_law_draw⟩),
  ("_law_kept", ⟨0, 0, b_law_kept⟩),
  ("_law_texts", ⟨2, 11, b_law_texts⟩),
  ("_law_words", ⟨1, 4, b_law_words⟩),
  ("_law_figures", ⟨1, 5, b_law_figures⟩),
  ("_law_pick", ⟨2, 2, b_law_pick⟩),
  ("_law_plain", ⟨3, 6, b_law_plain⟩),
  ("_law_room", ⟨6, 14, b_law_room⟩),
  ("_law_any_room", ⟨1, 2, b_law_any_room⟩),
  ("_law_spots", ⟨1, 8, b_law_spots⟩),
  ("_law_named", ⟨1, 4, b_law_named⟩),
  ("_law_right", ⟨1, 9, b_law_right⟩),
  ("_law_long_room", ⟨1, 5, b_law_long_room⟩),
  ("law", ⟨1, 6, b_law⟩)]
def tR : List (Str × Fn) := []
def T (x : Str) : Option Fn := (tX t0 tR).lookup x
theorem bangT : BangOk T := bang_mk (t0 := t0) (R := tR) (by decide +kernel) (by intro p hp; simp only [tR, List.mem_cons, List.not_mem_nil, or_false] at hp)
theorem inT : ∀ y ∈ XT.fs, T y ≠ none := fun y hy => by
  have h : (fnames.all fun y => (T y).isSome) = true := by decide +kernel
  have := List.all_eq_true.mp h y hy
  intro z; rw [z] at this; cases this
theorem T_is_plain : T "is_plain" = some ⟨1, 1, b_is_plain⟩ := by kernel_rfl
theorem T_sides_of : T "sides_of" = some ⟨1, 1, b_sides_of⟩ := by kernel_rfl
theorem T_all_named : T "all_named" = some ⟨1, 7, b_all_named⟩ := by kernel_rfl
theorem T_spots_in : T "spots_in" = some ⟨1, 7, b_spots_in⟩ := by kernel_rfl
theorem T_room_at : T "room_at" = some ⟨2, 6, b_room_at⟩ := by kernel_rfl
theorem T_figures_in : T "figures_in" = some ⟨1, 1, b_figures_in⟩ := by kernel_rfl
theorem T_law_deck : T "_law_deck" = some ⟨2, 3, b_law_deck⟩ := by kernel_rfl
theorem T_law_draw : T "_law_draw" = some ⟨2, 4, b_law_draw⟩ := by kernel_rfl
theorem T_law_kept : T "_law_kept" = some ⟨0, 0, b_law_kept⟩ := by kernel_rfl
theorem T_law_texts : T "_law_texts" = some ⟨2, 11, b_law_texts⟩ := by kernel_rfl
theorem T_law_words : T "_law_words" = some ⟨1, 4, b_law_words⟩ := by kernel_rfl
theorem T_law_figures : T "_law_figures" = some ⟨1, 5, b_law_figures⟩ := by kernel_rfl
theorem T_law_pick : T "_law_pick" = some ⟨2, 2, b_law_pick⟩ := by kernel_rfl
theorem T_law_plain : T "_law_plain" = some ⟨3, 6, b_law_plain⟩ := by kernel_rfl
theorem T_law_room : T "_law_room" = some ⟨6, 14, b_law_room⟩ := by kernel_rfl
theorem T_law_any_room : T "_law_any_room" = some ⟨1, 2, b_law_any_room⟩ := by kernel_rfl
theorem T_law_spots : T "_law_spots" = some ⟨1, 8, b_law_spots⟩ := by kernel_rfl
theorem T_law_named : T "_law_named" = some ⟨1, 4, b_law_named⟩ := by kernel_rfl
theorem T_law_right : T "_law_right" = some ⟨1, 9, b_law_right⟩ := by kernel_rfl
theorem T_law_long_room : T "_law_long_room" = some ⟨1, 5, b_law_long_room⟩ := by kernel_rfl
theorem T_law : T "law" = some ⟨1, 6, b_law⟩ := by kernel_rfl
def gT : List (Str × D) := [("PLAIN", (.ktup [(.str [105, 115]), (.str [99, 97, 108, 108, 101, 100]), (.str [111, 102]), (.str [100, 111, 101, 115])]))]
def gl (x : Str) : Option D := gT.lookup x
theorem g_PLAIN : gl (Str.ofString "PLAIN") = some (.ktup [(.str [105, 115]), (.str [99, 97, 108, 108, 101, 100]), (.str [111, 102]), (.str [100, 111, 101, 115])]) := by kernel_rfl
end K12
set_option Elab.async false
set_option linter.all false
set_option maxRecDepth 100000
set_option maxHeartbeats 2000000
/-! stores; more rules by which `simp` runs the evaluator -/
namespace MI
open PySem PyProof.Rows L2
/-- the store goes on: what was there is as it was but for some -/
structure Chg (ls : List Nat) (S S' : Sto) : Prop where
  len : S.length ≤ S'.length
  same : ∀ l, l < S.length → l ∉ ls → S'[l]? = S[l]?
theorem Chg.refl {ls : List Nat} {S : Sto} : Chg ls S S := ⟨Nat.le_refl _, fun _ _ _ => rfl⟩
theorem Chg.trans {ls : List Nat} {S S1 S2 : Sto} (a : Chg ls S S1) (b : Chg ls S1 S2) : Chg ls S S2 :=
  ⟨Nat.le_trans a.len b.len, fun l h n => (b.same l (Nat.lt_of_lt_of_le h a.len) n).trans (a.same l h n)⟩
theorem Chg.set {ls : List Nat} {S : Sto} {l : Nat} {o : O} (h : l ∈ ls) : Chg ls S (S.set l o) :=
  ⟨by simp, fun i hi n => by
    have hne : l ≠ i := fun e => n (by rw [← e]; exact h)
    exact List.getElem?_set_ne hne⟩
theorem Chg.app {ls : List Nat} {S τ : Sto} : Chg ls S (S ++ τ) := ⟨by simp, fun i hi n => by rw [List.getElem?_append_left hi]⟩
theorem Chg.mono {ls ms : List Nat} {S S' : Sto} (a : Chg ls S S') (h : ∀ l ∈ ls, l ∈ ms) : Chg ms S S' := ⟨a.len, fun l hl n => a.same l hl fun z => n (h l z)⟩
/-- .. new ones may be among those that change -/
theorem Chg.new {ls ms : List Nat} {S S1 S2 : Sto} (a : Chg ls S S1) (b : Chg ms S1 S2) (h : ∀ l ∈ ms, l ∈ ls ∨ S.length ≤ l) : Chg ls S S2 :=
  ⟨Nat.le_trans a.len b.len, fun l hl n => (b.same l (Nat.lt_of_lt_of_le hl a.len) fun z => (h l z).elim n fun q => by omega).trans (a.same l hl n)⟩
theorem Chg.get {ls : List Nat} {S S' : Sto} (a : Chg ls S S') {l : Nat} {o : O} (h : S[l]? = some o) (n : l ∉ ls) : S'[l]? = some o :=
  (a.same l (List.getElem?_eq_some_iff.mp h).1 n).trans h
theorem lt_sto {S : Sto} {l : Nat} {o : O} (h : S[l]? = some o) : l < S.length := (List.getElem?_eq_some_iff.mp h).1
theorem set_self {S : Sto} {l : Nat} {o u : O} (h : S[l]? = some u) : (S.set l o)[l]? = some o := List.getElem?_set_self (lt_sto h)
section
variable {S : Sto} {l : Nat} {xs : List D}
theorem idx_loc {i : Int} {d : D} (e : S[l]? = some (.lst xs)) (h : atI xs i = some d) : idxM (.loc l) (.int i) S = .ok d S := by
  show bnd (look fun S => seqOf S (.loc l)) (fun xs => ofO (atI xs i)) S = _
  rw [bnd_t (look_t (k := xs) (by simp only [seqOf, e]))]
  unfold ofO
  rw [h]
theorem set_loc {i : Int} {j : Nat} {d : D} (e : S[l]? = some (.lst xs)) (h : ixN xs.length i = some j) (hz : xs.length ≤ sizeLine) : setM (.loc l) (.int i) d S = .ok () (S.set l (.lst (xs.set j d))) := by
  show bnd (locL (.loc l)) _ S = _
  have e1 : locL (.loc l) S = .ok (l, xs) S := by unfold locL; simp only [e]
  rw [bnd_t e1]
  simp only [h]
  show bnd (putL l (xs.set j d)) _ S = _
  have e2 : putL l (xs.set j d) S = .ok .non (S.set l (.lst (xs.set j d))) := by
    unfold putL
    rw [if_pos (by simpa using hz)]
  rw [bnd_t e2]
  rfl
theorem app_loc {d : D} (e : S[l]? = some (.lst xs)) (hz : xs.length + 1 ≤ sizeLine) : appM (.loc l) [d] S = .ok .non (S.set l (.lst (xs ++ [d]))) := by
  show bnd (locL (.loc l)) _ S = _
  have e1 : locL (.loc l) S = .ok (l, xs) S := by unfold locL; simp only [e]
  rw [bnd_t e1]
  unfold putL
  rw [if_pos (by simpa using hz)]
theorem pop_loc {y : D} (e : S[l]? = some (.lst (xs ++ [y]))) (hz : xs.length ≤ sizeLine) : popM (.loc l) [] S = .ok y (S.set l (.lst xs)) := by
  show bnd (locL (.loc l)) _ S = _
  have e1 : locL (.loc l) S = .ok (l, xs ++ [y]) S := by unfold locL; simp only [e]
  rw [bnd_t e1]
  show bnd (ofO (xs ++ [y]).getLast?) _ S = _
  rw [List.getLast?_concat]
  show bnd (putL l (xs ++ [y]).dropLast) _ S = _
  rw [List.dropLast_concat]
  have e2 : putL l xs S = .ok .non (S.set l (.lst xs)) := by
    unfold putL
    rw [if_pos hz]
  rw [bnd_t e2]
  rfl
theorem popAt_loc {i : Int} {j : Nat} {y : D} (e : S[l]? = some (.lst xs)) (hi : -(2 ^ 63) ≤ i ∧ i < 2 ^ 63) (h : ixN xs.length i = some j) (hy : xs[j]? = some y) (hz : xs.length ≤ sizeLine) : popM (.loc l) [.int i] S = .ok y (S.set l (.lst (xs.eraseIdx j))) := by
  show gd _ _ S = _
  rw [gd_t (decide_eq_true hi)]
  have e1 : locL (.loc l) S = .ok (l, xs) S := by unfold locL; simp only [e]
  rw [bnd_t e1]
  have e2 : putL l (xs.eraseIdx j) S = .ok .non (S.set l (.lst (xs.eraseIdx j))) := by
    unfold putL
    rw [if_pos (by have := List.length_eraseIdx_le xs j; omega)]
  simp [h, hy, e2]
end
@[simp] theorem cmp_gt {i j : Int} {S : Sto} : cmpM .Gt (.int i) (.int j) S = .ok (.bl (decide (j < i))) S := rfl
@[simp] theorem cmp_lt {i j : Int} {S : Sto} : cmpM .Lt (.int i) (.int j) S = .ok (.bl (decide (i < j))) S := rfl
@[simp] theorem cmp_ge {i j : Int} {S : Sto} : cmpM .GtE (.int i) (.int j) S = .ok (.bl (decide (j ≤ i))) S := rfl
@[simp] theorem cmp_le {i j : Int} {S : Sto} : cmpM .LtE (.int i) (.int j) S = .ok (.bl (decide (i ≤ j))) S := rfl
@[simp] theorem bin_add {m : Bool} {i j : Int} {S : Sto} : binM m .Add (.int i) (.int j) S = .ok (.int (i + j)) S := rfl
@[simp] theorem bin_sub {m : Bool} {i j : Int} {S : Sto} : binM m .Sub (.int i) (.int j) S = .ok (.int (i - j)) S := rfl
theorem bin_mul {m : Bool} {i j : Int} {S : Sto} (h : (Builtin.Int.intBits i : Int) + (Builtin.Int.intBits j : Int) ≤ 134217728) : binM m .Mult (.int i) (.int j) S = .ok (.int (i * j)) S := by
  show gd _ _ S = _
  rw [gd_t (decide_eq_true h)]
  rfl
theorem bin_mod {m : Bool} {i j : Int} {S : Sto} (h : 0 < j) : binM m .Mod (.int i) (.int j) S = .ok (.int (i % j)) S := by
  show gd _ _ S = _
  rw [gd_t (decide_eq_true h)]
  rfl
theorem bin_fdiv {m : Bool} {i j : Int} {S : Sto} (h : 0 < j ∧ j.natAbs.log2 < 9000) : binM m .FloorDiv (.int i) (.int j) S = .ok (.int (i / j)) S := by
  show gd _ _ S = _
  rw [gd_t (decide_eq_true h)]
  rfl
theorem bits_of {i : Int} {k : Nat} (h : i.natAbs < 2 ^ k) : Builtin.Int.intBits i ≤ k := by
  unfold Builtin.Int.intBits
  by_cases hi : i = 0
  · simp [hi]
  · have hi' : i.natAbs ≠ 0 := by omega
    simp only [beq_iff_eq, hi, if_false]
    have := (Nat.log2_lt hi').mpr h
    omega
theorem bits_abs {i j : Int} (h : i.natAbs ≤ j.natAbs) : Builtin.Int.intBits i ≤ Builtin.Int.intBits j := by
  by_cases hi : i = 0
  · simp [hi, Builtin.Int.intBits]
  · refine bits_of (Nat.lt_of_le_of_lt h ?_)
    unfold Builtin.Int.intBits
    have hj : j ≠ 0 := by omega
    simp only [beq_iff_eq, hj, if_false]
    exact Nat.lt_log2_self
end MI
set_option Elab.async false
set_option linter.all false
set_option maxRecDepth 100000
set_option maxHeartbeats 2000000
/-! what a run ends in -/
namespace MI
open PySem PyProof.Rows L2
def Wr {α : Type} (r : R α) (Q : α → Sto → Prop) : Prop := ∃ a S, r = .ok a S ∧ Q a S
theorem Wr_congr {α : Type} {r r' : R α} {Q : α → Sto → Prop} (h : r = r') : Wr r Q = Wr r' Q := by rw [h]
section
variable {α β : Type} {Q P : α → Sto → Prop} {r : R α} {S : Sto}
@[simp] theorem Wr_ok {a : α} : Wr (.ok a S) Q = Q a S := by
  apply propext
  constructor
  · rintro ⟨a', S', h, q⟩
    cases h
    exact q
  · intro q
    exact ⟨a, S, rfl, q⟩
@[simp] theorem Wr_err : Wr (.err : R α) Q = False := by
  apply propext
  constructor
  · rintro ⟨a', S', h, q⟩; cases h
  · exact False.elim
@[simp] theorem Wr_then {f : α → M β} {Q : β → Sto → Prop} : Wr (r.then f) Q = Wr r fun a S => Wr (f a S) Q := by
  apply propext
  cases r with
  | ok a S => simp
  | err => simp [R.then]
theorem Wr.mono (h : Wr r P) (hq : ∀ a S, P a S → Q a S) : Wr r Q := by
  obtain ⟨a, S, e, p⟩ := h
  exact ⟨a, S, e, hq a S p⟩
theorem Wr.of {a : α} {S' : Sto} (h : r = .ok a S') (q : Q a S') : Wr r Q := ⟨a, S', h, q⟩
theorem Wr.eqv {a : α} {S' : Sto} (h : r = .ok a S') : Wr r Q = Q a S' := by rw [h, Wr_ok]
/-- a call's end -/
def Qe (Q : D → Sto → Prop) : Fl × MI.Env → Sto → Prop := fun p S => match p.1 with
  | .ret v => Q v S
  | .nx => Q .non S
  | _ => False
@[simp] theorem Qe_ret {Q : D → Sto → Prop} {d : D} {σ : MI.Env} : Qe Q (.ret d, σ) S = Q d S := rfl
@[simp] theorem Qe_nx {Q : D → Sto → Prop} {σ : MI.Env} : Qe Q (.nx, σ) S = Q .non S := rfl
theorem Wr_endC {r : R (Fl × MI.Env)} {Q : D → Sto → Prop} (w : Wr r (Qe Q)) : Wr (endC r) Q := by
  obtain ⟨⟨fl, σ⟩, S, e, q⟩ := w
  subst e
  cases fl with
  | ret v => exact ⟨v, S, rfl, q⟩
  | nx => exact ⟨.non, S, rfl, q⟩
  | brk => exact q.elim
  | cont => exact q.elim
@[simp] theorem Wr_ofO {o : Option α} : Wr (ofO o S) Q = ∃ a, o = some a ∧ Q a S := by
  cases o with
  | none => simp [ofO]
  | some a => simp
theorem Wr_bnd {m : M α} {f : α → M β} {Q : β → Sto → Prop} (h : Wr (m S) fun a S => Wr (f a S) Q) : Wr (bnd m f S) Q := by
  rw [bnd_app, Wr_then]
  exact h
end
section
variable {cf : Cf} {gl : Str → Option D} {σ : MI.Env} {S : Sto}
@[simp] theorem evI_blt {m : Bool} {x : Str} {es : List ME} : evI cf gl σ (.it (.blt m x es)) S = (evEs cf gl σ es S).then fun vs => itBlt m x vs := by rw [evI.eq_def]; rfl
@[simp] theorem evI_var {i : Nat} : evI cf gl σ (.it (.var i)) S = (ofO (getV σ i) S).then itOf := by
  rw [evI.eq_def]
  dsimp only
  rw [bnd_app, evE_var]
@[simp] theorem evI_call {x : Str} {es : List ME} : evI cf gl σ (.it (.call x es)) S = ((evEs cf gl σ es S).then fun vs => cf x vs).then itOf := by
  rw [evI.eq_def]
  dsimp only
  rw [bnd_app, evE_call]
@[simp] theorem evI_lst {m : Bool} {es : List ME} : evI cf gl σ (.it (.lst m es)) S = ((evEs cf gl σ es S).then (mkList m)).then itOf := by
  rw [evI.eq_def]
  dsimp only
  rw [bnd_app, evE_lst]
@[simp] theorem evI_idx {a b : ME} : evI cf gl σ (.it (.idx a b)) S = (evE cf gl σ (.idx a b) S).then itOf := by
  rw [evI.eq_def]
  dsimp only
  rw [bnd_app]
@[simp] theorem evI_bin {m : Bool} {op : Operator} {a b : ME} : evI cf gl σ (.it (.bin m op a b)) S = (evE cf gl σ (.bin m op a b) S).then itOf := by
  rw [evI.eq_def]
  dsimp only
  rw [bnd_app]
@[simp] theorem ib_range {m : Bool} {vs : List D} : itBlt m "range" vs = (match vs with
    | [b] => rngM (.int 0) b
    | [a, b] => rngM a b
    | [a, b, c] => rng3M a b c
    | _ => fail) := by unfold itBlt; rfl
@[simp] theorem ib_enumT {m : Bool} {xs : List D} : itBlt m "enumerate" [.tup xs] S = .ok (.items (enumD 0 xs)) S := rfl
@[simp] theorem ib_enumL {m : Bool} {xs : List D} : itBlt m "enumerate" [.lst xs] S = .ok (.items (enumD 0 xs)) S := rfl
@[simp] theorem ib_revT {m : Bool} {xs : List D} : itBlt m "reversed" [.tup xs] S = .ok (.items xs.reverse) S := rfl
@[simp] theorem ib_revL {m : Bool} {xs : List D} : itBlt m "reversed" [.lst xs] S = .ok (.items xs.reverse) S := rfl
@[simp] theorem itOf_tup {xs : List D} : itOf (.tup xs) S = .ok (.items xs) S := rfl
@[simp] theorem itOf_lst {xs : List D} : itOf (.lst xs) S = .ok (.items xs) S := rfl
@[simp] theorem itOf_dtt {ks : List (List Int)} {vs : List D} : itOf (.dtt ks vs) S = .ok (.items (ks.map fun k => .tup (k.map D.int))) S := rfl
theorem itOf_loc {l : Nat} {xs : List D} (h : S[l]? = some (.lst xs)) : itOf (.loc l) S = .ok (.live l) S := by
  unfold itOf
  simp [listOf, h]
theorem rng_at {n : Int} (h : 0 ≤ n ∧ n < 2 ^ 62) : rngM (.int 0) (.int n) S = .ok (.items (intsUp 0 n.toNat)) S := by
  unfold rngM
  dsimp only
  rw [gd_t (decide_eq_true (by omega)), Int.sub_zero]
  rfl
@[simp] theorem intsUp_len : ∀ {n : Nat} {lo : Int}, (intsUp lo n).length = n
  | 0, _ => rfl
  | n + 1, lo => by rw [intsUp, List.length_cons, intsUp_len]
theorem intsUp_get : ∀ {n i : Nat} {lo : Int} {d : D}, (intsUp lo n)[i]? = some d → d = .int (lo + i) ∧ i < n
  | 0, _, _, _, h => by simp [intsUp] at h
  | n + 1, 0, lo, d, h => by
    rw [intsUp, List.getElem?_cons_zero] at h
    cases h
    simp
  | n + 1, i + 1, lo, d, h => by
    rw [intsUp, List.getElem?_cons_succ] at h
    obtain ⟨e, hi⟩ := intsUp_get h
    refine ⟨e.trans ?_, by omega⟩
    congr 1
    omega
theorem enumD_get : ∀ {xs : List D} {i j : Nat} {d : D}, (enumD j xs)[i]? = some d → ∃ x, xs[i]? = some x ∧ d = .tup [.int ((j + i : Nat)), x]
  | [], i, _, d, h => by simp [enumD] at h
  | x :: xs, 0, j, d, h => by
    rw [enumD, List.getElem?_cons_zero] at h
    cases h
    exact ⟨x, rfl, rfl⟩
  | x :: xs, i + 1, j, d, h => by
    rw [enumD, List.getElem?_cons_succ] at h
    obtain ⟨y, e, rfl⟩ := enumD_get h
    refine ⟨y, e, ?_⟩
    rw [show j + 1 + i = j + (i + 1) by omega]
@[simp] theorem enumD_len : ∀ {xs : List D} {j : Nat}, (enumD j xs).length = xs.length
  | [], _ => rfl
  | x :: xs, j => by rw [enumD, List.length_cons, List.length_cons, enumD_len]
/-- a loop: I what holds ahead of a turn, J at the end, or behind a break -/
theorem wr_for {f : D → MI.Env → SR} {I : Nat → MI.Env → Sto → Prop} {J : MI.Env → Sto → Prop} : ∀ {ds : List D} {k : Nat} {σ : MI.Env} {S : Sto},
    (∀ i d σ S, ds[i]? = some d → I (k + i) σ S → Wr (f d σ S) fun r S' => (r.1 = .nx ∧ I (k + i + 1) r.2 S') ∨ (r.1 = .brk ∧ J r.2 S')) →
    (∀ σ S, I (k + ds.length) σ S → J σ S) → I k σ S → Wr (forL f ds σ S) fun r S' => r.1 = .nx ∧ J r.2 S'
  | [], k, σ, S, h, hj, i => by
    rw [forL]
    simp only [ret_app, Wr_ok, true_and]
    exact hj _ _ i
  | d :: ds, k, σ, S, h, hj, i => by
    rw [forL]
    refine Wr_bnd ((h 0 d σ S rfl i).mono ?_)
    rintro ⟨fl, σ2⟩ S2 (⟨e, i2⟩ | ⟨e, j⟩)
    · simp only at e i2
      subst e
      dsimp only
      refine wr_for (k := k + 1) (I := I) (J := J) (fun i d σ S hd hi => ?_) (fun σ S hi => hj σ S ?_) i2
      · have := h (i + 1) d σ S (by simpa using hd) (by rwa [show k + (i + 1) = k + 1 + i by omega])
        rwa [show k + (i + 1) + 1 = k + 1 + i + 1 by omega] at this
      · rwa [List.length_cons, show k + (ds.length + 1) = k + 1 + ds.length by omega]
    · simp only at e j
      subst e
      simpa using j
theorem wr_forS {t : MG} {it : MT} {body : List MS} {ds : List D} {S1 : Sto} {Q : Fl × MI.Env → Sto → Prop} (hi : evI cf gl σ it S = .ok (.items ds) S1)
    (h : Wr (forL (fun d σ => bnd (evG cf gl σ t d) fun σ2 => exSs cf gl body σ2) ds σ S1) Q) : Wr (exS cf gl (.for t it body) σ S) Q := by
  rw [exS]
  exact Wr_bnd (Wr.of hi h)
/-- a comprehension -/
theorem wr_compL {f : D → M (Option D)} {I : Nat → List D → Sto → Prop} : ∀ {ds : List D} {acc : List D} {k : Nat} {S : Sto}, acc.length + ds.length ≤ sizeLine →
    (∀ i d acc S, ds[i]? = some d → I (k + i) acc S → Wr (f d S) fun o S' => ∃ y, o = some y ∧ I (k + i + 1) (acc ++ [y]) S') → I k acc S →
    Wr (compL f ds acc S) fun r S' => r.length = acc.length + ds.length ∧ I (k + ds.length) r S'
  | [], acc, k, S, hz, h, i => by
    rw [compL]
    simp only [ret_app, Wr_ok, List.length_nil, Nat.add_zero, true_and]
    exact i
  | d :: ds, acc, k, S, hz, h, i => by
    rw [List.length_cons] at hz
    rw [compL]
    refine Wr_bnd ((h 0 d acc S rfl i).mono ?_)
    rintro o S2 ⟨y, rfl, i2⟩
    dsimp only
    rw [gd_t (decide_eq_true (by omega))]
    refine (wr_compL (k := k + 1) (I := I) (by simp; omega) (fun i d acc S hd hi => ?_) i2).mono ?_
    · have := h (i + 1) d acc S (by simpa using hd) (by rwa [show k + (i + 1) = k + 1 + i by omega])
      rwa [show k + (i + 1) + 1 = k + 1 + i + 1 by omega] at this
    · rintro r S3 ⟨e, i3⟩
      refine ⟨by simp at e ⊢; omega, ?_⟩
      rwa [List.length_cons, show k + (ds.length + 1) = k + 1 + ds.length by omega]
theorem wr_comp {m : Bool} {own : List Nat} {tg : MG} {it : MT} {elt : ME} {ds : List D} {S1 : Sto} {Q : D → Sto → Prop} {I : Nat → List D → Sto → Prop} (hz : ds.length ≤ sizeLine) (hi : evI cf gl σ it S = .ok (.items ds) S1)
    (h : ∀ i d acc S, ds[i]? = some d → I i acc S → Wr (evG cf gl (wipeD σ own) tg d S) fun σ2 S => Wr (evE cf gl σ2 elt S) fun y S' => I (i + 1) (acc ++ [y]) S') (h0 : I 0 [] S1)
    (hq : ∀ r S, r.length = ds.length → I ds.length r S → Wr (mkList m r S) Q) :
    Wr (evE cf gl σ (.comp m own tg it (.val (.bl true)) elt) S) Q := by
  rw [evE]
  refine Wr_bnd (Wr.of hi ?_)
  dsimp only
  refine Wr_bnd ((wr_compL (k := 0) (I := I) (by simpa using hz) (fun i d acc S hd hi => ?_) h0).mono ?_)
  · rw [Nat.zero_add] at hi ⊢
    refine Wr_bnd ((h i d acc S hd hi).mono fun σ2 S2 h2 => ?_)
    simp only [bnd_app, evT_val, evE_bl, then_ok, look_app, truthOf_bl, ofO_some, if_true, Wr_then]
    refine h2.mono fun y S3 h3 => ?_
    simp only [ret_app, Wr_ok]
    exact ⟨y, rfl, h3⟩
  · rintro r S2 ⟨e, i2⟩
    exact hq r S2 (by simpa using e) (by simpa using i2)
theorem wr_cons {s : MS} {r : List MS} {σ2 : MI.Env} {S2 : Sto} {Q : Fl × MI.Env → Sto → Prop} (h : exS cf gl s σ S = .ok (.nx, σ2) S2) (w : Wr (exSs cf gl r σ2 S2) Q) : Wr (exSs cf gl (s :: r) σ S) Q := by
  rw [exSs_cons, h]
  exact w
theorem wr_seq {s : MS} {r : List MS} {P : MI.Env → Sto → Prop} {Q : Fl × MI.Env → Sto → Prop} (h : Wr (exS cf gl s σ S) fun p S' => p.1 = .nx ∧ P p.2 S') (w : ∀ σ2 S2, P σ2 S2 → Wr (exSs cf gl r σ2 S2) Q) : Wr (exSs cf gl (s :: r) σ S) Q := by
  obtain ⟨⟨fl, σ2⟩, S2, e, e2, p⟩ := h
  simp only at e2 p
  subst e2
  exact wr_cons e (w _ _ p)
theorem ev_bin {m : Bool} {op : Operator} {a b : ME} {x y z : D} {S1 S2 S3 : Sto} (h1 : evE cf gl σ a S = .ok x S1) (h2 : evE cf gl σ b S1 = .ok y S2) (h3 : binM m op x y S2 = .ok z S3) : evE cf gl σ (.bin m op a b) S = .ok z S3 := by
  rw [evE_bin, h1, then_ok, bnd_app, h2, then_ok, h3]
theorem ev_idx {a b : ME} {x y z : D} {S1 S2 S3 : Sto} (h1 : evE cf gl σ a S = .ok x S1) (h2 : evE cf gl σ b S1 = .ok y S2) (h3 : idxM x y S2 = .ok z S3) : evE cf gl σ (.idx a b) S = .ok z S3 := by
  rw [evE_idx, h1, then_ok, bnd_app, h2, then_ok, h3]
theorem ev_var {i : Nat} {d : D} (h : getV σ i = some d) : evE cf gl σ (.var i) S = .ok d S := by
  rw [evE_var, h]
  rfl
theorem ex_asg {i : Nat} {e : ME} {d : D} {S2 : Sto} (h : evE cf gl σ e S = .ok d S2) : exS cf gl (.asg (.name i) e) σ S = .ok (.nx, σ.set i (some d)) S2 := by
  rw [exS_asg, h, then_ok, bnd_app, evG_name, then_ok]
  rfl
theorem wr_ret {e : ME} {d : D} {S2 : Sto} {r : List MS} {Q : D → Sto → Prop} (h : evE cf gl σ e S = .ok d S2) (q : Q d S2) : Wr (exSs cf gl (.ret e :: r) σ S) (Qe Q) := by
  rw [exSs_cons, exS_ret, h]
  simp [q]
@[simp] theorem mkList_f {xs : List D} (h : xs.length ≤ sizeLine) : mkList false xs S = .ok (.lst xs) S := by
  unfold mkList
  rw [if_pos h]
  rfl
@[simp] theorem mkList_t {xs : List D} (h : xs.length ≤ sizeLine) : mkList true xs S = .ok (.loc S.length) (S ++ [.lst xs]) := by
  unfold mkList
  rw [if_pos h]
  rfl
@[simp] theorem mkTup_ok {xs : List D} (h : xs.length ≤ sizeLine) : mkTup xs S = .ok (.tup xs) S := by
  unfold mkTup
  rw [if_pos h]
theorem wr_call {T : Str → Option Fn} {k : Nat} {x : Str} {f : Fn} {vs : List D} {Q : D → Sto → Prop} (h : T x = some f) (hl : vs.length = f.ps)
    (w : Wr (exSs (callN T gl k) gl f.body (vs.map some ++ List.replicate (f.n - vs.length) none) S) (Qe Q)) : Wr (callN T gl (k + 1) x vs S) Q := by
  rw [call_of h hl]
  exact Wr_endC w
end
end MI
set_option Elab.async false
set_option linter.all false
set_option maxRecDepth 100000
set_option maxHeartbeats 2000000
namespace K12
open PySem PyProof.Rows L2 MI
/-- a deck from which n more cards may be drawn -/
def Deck (n : Nat) (l : Nat) (S : Sto) : Prop := ∃ a b c : Int, S[l]? = some (.lst [.int a, .int b, .int c]) ∧ 0 ≤ b ∧ b < 2147583629 ∧ 0 ≤ c ∧ c + n ≤ 1099511627776
theorem Deck.mono {n m l : Nat} {S : Sto} (h : Deck n l S) (hm : m ≤ n) : Deck m l S := by
  obtain ⟨a, b, c, e, h1, h2, h3, h4⟩ := h
  exact ⟨a, b, c, e, h1, h2, h3, by omega⟩
theorem Deck.chg {n l : Nat} {ls : List Nat} {S S' : Sto} (h : Deck n l S) (c : Chg ls S S') (hl : l ∉ ls) : Deck n l S' := by
  obtain ⟨a, b, c', e, r⟩ := h
  exact ⟨a, b, c', c.get e hl, r⟩
theorem Deck.lt {n l : Nat} {S : Sto} (h : Deck n l S) : l < S.length := by
  obtain ⟨a, b, c', e, r⟩ := h
  exact lt_sto e
/-- what a draw ends in -/
def Drawn (n l : Nat) (S : Sto) (P : D → Prop) (d : D) (S' : Sto) : Prop := Deck n l S' ∧ Chg [l] S S' ∧ P d
theorem bits31 {i : Int} (h : 0 ≤ i) (h2 : i < 2 ^ 200) : Builtin.Int.intBits i ≤ 200 := bits_of (by omega)
theorem mul_ok {m : Bool} {i j : Int} {S : Sto} (h1 : 0 ≤ i) (h2 : i < 2 ^ 200) (h3 : 0 ≤ j) (h4 : j < 2 ^ 200) : binM m .Mult (.int i) (.int j) S = .ok (.int (i * j)) S := by
  have := bits31 h1 h2
  have := bits31 h3 h4
  exact bin_mul (by omega)
theorem mul_lt {i j a b : Int} (h1 : 0 ≤ i) (h2 : i < a) (h3 : 0 ≤ j) (h4 : j < b) : 0 ≤ i * j ∧ i * j < a * b := by
  refine ⟨Int.mul_nonneg h1 h3, ?_⟩
  have e1 : i * j ≤ i * b := Int.mul_le_mul_of_nonneg_left (Int.le_of_lt h4) h1
  have e2 : i * b < a * b := Int.mul_lt_mul_of_pos_right h2 (by omega)
  omega
theorem draw_ok {k n l : Nat} {m : Int} {S : Sto} (hd : Deck (n + 1) l S) (hm : 0 < m) (hm2 : m < 2 ^ 100) :
    Wr (callN T gl (k + 1) "_law_draw" [.loc l, .int m] S) (Drawn n l S fun d => ∃ v : Nat, d = .int v ∧ (v : Int) < m) := by
  obtain ⟨a, b, c, e, h1, h2, h3, h4⟩ := hd
  have hml : m.natAbs.log2 < 9000 := by
    have : m.natAbs.log2 < 100 := (Nat.log2_lt (by omega)).mpr (by omega)
    omega
  have nat : ∀ z : Int, ∃ v : Nat, D.int (z % m) = .int v ∧ (v : Int) < m := fun z => ⟨(z % m).toNat, by rw [Int.toNat_of_nonneg (Int.emod_nonneg _ (by omega))], by rw [Int.toNat_of_nonneg (Int.emod_nonneg _ (by omega))]; exact Int.emod_lt_of_pos _ hm⟩
  refine wr_call T_law_draw rfl ?_
  have i0 : idxM (.loc l) (.int 0) S = .ok (.int a) S := idx_loc e rfl
  by_cases ha : 0 < a
  · have s0 : ∀ d, setM (.loc l) (.int 0) d S = .ok () (S.set l (.lst [d, .int b, .int c])) := fun d => set_loc e (j := 0) rfl (by show 3 ≤ sizeLine; decide)
    simp [b_law_draw, i0, ha, bin_mod hm, bin_fdiv ⟨hm, hml⟩, s0]
    exact ⟨⟨a / m, b, c, set_self e, h1, h2, h3, by omega⟩, Chg.set (by simp), nat a⟩
  · have i2 : idxM (.loc l) (.int 2) S = .ok (.int c) S := idx_loc e rfl
    have s2 : setM (.loc l) (.int 2) (.int (c + 1)) S = .ok () (S.set l (.lst [.int a, .int b, .int (c + 1)])) := set_loc e (j := 2) rfl (by show 3 ≤ sizeLine; decide)
    have e2 : (S.set l (.lst [.int a, .int b, .int (c + 1)]))[l]? = some (.lst [.int a, .int b, .int (c + 1)]) := set_self e
    have j1 : idxM (.loc l) (.int 1) (S.set l (.lst [.int a, .int b, .int (c + 1)])) = .ok (.int b) (S.set l (.lst [.int a, .int b, .int (c + 1)])) := idx_loc e2 rfl
    have j2 : idxM (.loc l) (.int 2) (S.set l (.lst [.int a, .int b, .int (c + 1)])) = .ok (.int (c + 1)) (S.set l (.lst [.int a, .int b, .int (c + 1)])) := idx_loc e2 rfl
    have m1 := fun S => mul_ok (m := false) (i := 104683) (j := c + 1) (S := S) (by omega) (by omega) (by omega) (by omega)
    have q1 : 0 ≤ 104683 * (c + 1) ∧ 104683 * (c + 1) < 2 ^ 60 := by omega
    generalize hx : 104683 * (c + 1) = x at *
    have m3 := fun S => mul_ok (m := false) (i := b + x) (j := 48271) (S := S) (by omega) (by omega) (by omega) (by omega)
    generalize hy : (b + x) * 48271 = y at *
    have q3 : 0 ≤ y % 2147483647 ∧ y % 2147483647 < 2147483647 := by omega
    generalize hz : y % 2147483647 = z at *
    have m4 := fun S => mul_ok (m := false) (i := z) (j := z) (S := S) (by omega) (by omega) (by omega) (by omega)
    have m6 := fun S => mul_ok (m := false) (i := 69621) (j := c + 1) (S := S) (by omega) (by omega) (by omega) (by omega)
    generalize hw : z * z = w at *
    have q4 : 0 ≤ (w + 69621 * (c + 1) + 43) % 2147483629 ∧ (w + 69621 * (c + 1) + 43) % 2147483629 < 2147483629 := by omega
    generalize hu : (w + 69621 * (c + 1) + 43) % 2147483629 = u at *
    have m5 := fun S => mul_ok (m := false) (i := u) (j := u) (S := S) (by omega) (by omega) (by omega) (by omega)
    have f8 : ∀ (i : Int) S, binM false .FloorDiv (.int i) (.int 8) S = .ok (.int (i / 8)) S := fun i S => bin_fdiv ⟨by decide, by decide⟩
    have p1 : (0 : Int) < 2147483647 := by omega
    have p2 : (0 : Int) < 2147483587 := by omega
    have p3 : (0 : Int) < 2147483629 := by omega
    unfold b_law_draw
    refine wr_cons (S2 := S) (σ2 := [some (.loc l), some (.int m), none, none]) ?_ ?_
    · simp [i0, ha]
    refine wr_cons (S2 := S.set l (.lst [.int a, .int b, .int (c + 1)])) (σ2 := [some (.loc l), some (.int m), none, none]) ?_ ?_
    · simp [i2, s2]
    have v0 : ∀ {o3 : Option D} {S : Sto}, evE (callN T gl k) gl [some (.loc l), some (.int m), none, o3] (.var 0) S = .ok (.loc l) S := ev_var rfl
    have v3 : ∀ {d : D} {S : Sto}, evE (callN T gl k) gl [some (.loc l), some (.int m), none, some d] (.var 3) S = .ok d S := ev_var rfl
    have ii : ∀ {σ : MI.Env} {S : Sto} (i : Int), evE (callN T gl k) gl σ (.int i) S = .ok (.int i) S := fun i => evE_int i
    refine wr_cons (ex_asg (ev_bin (ev_bin (ev_bin (ev_idx v0 (ii _) j1) (ev_bin (ii _) (ev_idx v0 (ii _) j2) (m1 _)) bin_add) (ii _) (m3 _)) (ii _) (bin_mod p1))) ?_
    rw [hz]
    refine wr_cons (ex_asg (ev_bin (ev_bin (ev_bin (ev_bin v3 v3 (m4 _)) (ev_bin (ii _) (ev_idx v0 (ii _) j2) (m6 _)) bin_add) (ii _) bin_add) (ii _) (bin_mod p3))) ?_
    rw [hu]
    refine wr_ret (ev_bin (ev_bin (ev_bin (ev_bin (ev_bin v3 v3 (m5 _)) (ii _) bin_add) (ii _) (bin_mod p2)) (ii _) (f8 _ _)) (ev_var rfl) (bin_mod hm)) ?_
    exact ⟨⟨a, b, c + 1, e2, h1, h2, by omega, by omega⟩, Chg.set (by simp), nat _⟩
theorem lenM_lst {xs : List D} {S : Sto} (h : xs.length ≤ sizeLine) : lenM [.lst xs] S = .ok (.int (xs.length : Int)) S := by
  show bnd (look fun S => lenOf S (.lst xs)) _ S = _
  rw [bnd_t (look_t (k := xs.length) rfl), gd_t (decide_eq_true h)]
  rfl
theorem lenM_str {xs : List Nat} {S : Sto} (h : xs.length ≤ sizeLine) : lenM [.str xs] S = .ok (.int (xs.length : Int)) S := by
  show bnd (look fun S => lenOf S (.str xs)) _ S = _
  rw [bnd_t (look_t (k := xs.length) rfl), gd_t (decide_eq_true h)]
  rfl
theorem atI_nat {α : Type} {xs : List α} {i : Nat} {y : α} (h : xs[i]? = some y) : atI xs (i : Int) = some y := by
  have hl := (List.getElem?_eq_some_iff.mp h).1
  unfold atI ixN
  rw [if_pos (Int.natCast_nonneg i), if_pos (by omega)]
  simpa using h
theorem idx_lst {xs : List D} {i : Nat} {y : D} {S : Sto} (h : xs[i]? = some y) : idxM (.lst xs) (.int (i : Int)) S = .ok y S := by
  show bnd (look fun S => seqOf S (.lst xs)) (fun xs => ofO (atI xs (i : Int))) S = _
  rw [bnd_t (look_t (k := xs) rfl), atI_nat h]
  rfl
theorem idx_tup {xs : List D} {i : Nat} {y : D} {S : Sto} (h : xs[i]? = some y) : idxM (.tup xs) (.int (i : Int)) S = .ok y S := by
  show bnd (look fun S => seqOf S (.tup xs)) (fun xs => ofO (atI xs (i : Int))) S = _
  rw [bnd_t (look_t (k := xs) rfl), atI_nat h]
  rfl
theorem idx_str {xs : List Nat} {i : Nat} {y : Nat} {S : Sto} (hz : xs.length ≤ sizeLine) (h : xs[i]? = some y) : idxM (.str xs) (.int (i : Int)) S = .ok (.str [y]) S := by
  show gd _ _ S = _
  rw [gd_t (decide_eq_true hz), atI_nat h]
  rfl
theorem pick_ok {k n l : Nat} {xs : List D} {S : Sto} (hd : Deck (n + 1) l S) (h0 : xs ≠ []) (hz : xs.length ≤ sizeLine) :
    Wr (callN T gl (k + 2) "_law_pick" [.loc l, .lst xs] S) (Drawn n l S fun d => d ∈ xs) := by
  refine wr_call T_law_pick rfl ?_
  have hp : 0 < xs.length := List.length_pos_iff.mpr h0
  have hzz : sizeLine < 2 ^ 100 := by decide
  simp [b_law_pick, lenM_lst hz]
  refine (draw_ok hd (by omega) (by omega)).mono ?_
  rintro d S' ⟨q1, q2, v, rfl, hv⟩
  have hv' : v < xs.length := by omega
  rw [idx_lst (List.getElem?_eq_getElem hv')]
  simp
  exact ⟨q1, q2, List.getElem_mem hv'⟩
theorem pickS_ok {k n l : Nat} {xs : List Nat} {S : Sto} (hd : Deck (n + 1) l S) (h0 : xs ≠ []) (hz : xs.length ≤ sizeLine) :
    Wr (callN T gl (k + 2) "_law_pick" [.loc l, .str xs] S) (Drawn n l S fun d => ∃ c ∈ xs, d = .str [c]) := by
  refine wr_call T_law_pick rfl ?_
  have hp : 0 < xs.length := List.length_pos_iff.mpr h0
  have hzz : sizeLine < 2 ^ 100 := by decide
  simp [b_law_pick, lenM_str hz]
  refine (draw_ok hd (by omega) (by omega)).mono ?_
  rintro d S' ⟨q1, q2, v, rfl, hv⟩
  have hv' : v < xs.length := by omega
  rw [idx_str hz (List.getElem?_eq_getElem hv')]
  simp
  exact ⟨q1, q2, _, List.getElem_mem hv', rfl⟩
end K12
set_option Elab.async false
set_option linter.all false
set_option maxRecDepth 100000
set_option maxHeartbeats 2000000
namespace K12
open PySem PyProof.Rows L2 MI
theorem joinS_nil : ∀ cs : List Nat, joinS [] (cs.map fun c => [c]) = cs := by
  intro cs
  have h : ∀ ys : List (List Nat), joinS [] ys = TL.joinL [] ys := fun ys => by
    show (Txt.join (SX.S []) (ys.map SX.S)).cps.toList = _
    rw [SX.join_S]
  rw [h]
  induction cs with
  | nil => rfl
  | cons c r ih =>
    cases r with
    | nil => rfl
    | cons d r => simpa [TL.joinL] using ih
theorem sum_ones (cs : List Nat) : (List.map List.length (cs.map fun c => [c])).sum = cs.length := by
  induction cs with
  | nil => rfl
  | cons c r ih => simp only [List.map_cons, List.sum_cons, ih, List.length_cons, List.length_nil]; omega
theorem strsOf_map : ∀ ws : List (List Nat), strsOf (ws.map .str) = some ws
  | [] => rfl
  | w :: ws => by simp [strsOf, strsOf_map ws]
theorem eqD_str {a b : List Nat} : eqD (.str a) (.str b) = (a == b) := by unfold eqD; rfl
theorem in_seq {w : List Nat} {y : D} {ws : List (List Nat)} {S : Sto} (h : seqOf S y = some (ws.map .str)) : inM (.str w) y S = .ok (decide (w ∈ ws)) S := by
  have e : inM (.str w) y = bnd (look fun S => seqOf S y) fun ys => gd (flatD (.str w) && ys.all flatD) (ret (ys.any fun y => eqD y (.str w))) := by
    cases y
    case str x => simp [seqOf] at h
    all_goals (cases w with
      | nil => rfl
      | cons c r => cases r <;> rfl)
  rw [e, bnd_t (look_t (f := fun S => seqOf S y) h), gd_t]
  · show MI.R.ok _ S = _
    congr 1
    rw [List.any_map, Bool.eq_iff_iff, List.any_eq_true, decide_eq_true_iff]
    constructor
    · rintro ⟨x, hx, hb⟩
      rw [Function.comp, eqD_str, beq_iff_eq] at hb
      exact hb ▸ hx
    · intro hw
      exact ⟨w, hw, by simp [eqD_str]⟩
  · simp [flatD]
@[simp] theorem cmp_in {x y : D} {S : Sto} : cmpM .In x y S = (inM x y S).then fun b => ret (.bl b) := by
  have : cmpB .In x y = inM x y := by unfold cmpB; cases x <;> cases y <;> rfl
  unfold cmpM
  rw [this]
  rfl
@[simp] theorem cmp_nin {x y : D} {S : Sto} : cmpM .NotIn x y S = (inM x y S).then fun b => ret (.bl (!b)) := by
  have : cmpB .NotIn x y = bnd (inM x y) fun b => ret (!b) := by unfold cmpB; cases x <;> cases y <;> rfl
  unfold cmpM
  rw [this]
  simp only [bnd_app]
  cases inM x y S <;> rfl
@[simp] theorem mm_join {m : Bool} {o : D} {vs : List D} : mthM m "str" o "join" vs = joiM o vs := by unfold mthM; rfl
@[simp] theorem mm_split {m : Bool} {o : D} {vs : List D} : mthM m "str" o "split" vs = splM m o vs := by unfold mthM; rfl
@[simp] theorem mm_upper {m : Bool} {o : D} {vs : List D} : mthM m "str" o "upper" vs = uppM o vs := by unfold mthM; rfl
@[simp] theorem mm_index {m : Bool} {o : D} {vs : List D} : mthM m "str" o "index" vs = sinM o vs := by unfold mthM; rfl
@[simp] theorem mm_append {m : Bool} {o : D} {vs : List D} : mthM m "list" o "append" vs = appM o vs := by unfold mthM; rfl
@[simp] theorem mm_pop {m : Bool} {o : D} {vs : List D} : mthM m "list" o "pop" vs = popM o vs := by unfold mthM; rfl
@[simp] theorem mm_extend {m : Bool} {o : D} {vs : List D} : mthM m "list" o "extend" vs = extM o vs := by unfold mthM; rfl
@[simp] theorem tyOf_str {u : List Nat} {S : Sto} : tyOf S (.str u) = some "str" := rfl
theorem tyOf_loc {l : Nat} {xs : List D} {S : Sto} (h : S[l]? = some (.lst xs)) : tyOf S (.loc l) = some "list" := by
  unfold tyOf
  simp [h]
abbrev small : List Nat := [97, 98, 99, 100, 101, 102, 103, 104, 105, 106, 107, 108, 109, 110, 111, 112, 113, 114, 115, 116, 117, 118, 119, 120, 121, 122]
def Sm (c : Nat) : Prop := 97 ≤ c ∧ c ≤ 122
theorem small_of {c : Nat} (h : c ∈ small) : Sm c := by unfold Sm; simp at h; omega
theorem of_small {c : Nat} (h : Sm c) : c ∈ small := by unfold Sm at h; simp; omega
abbrev kwz : List Nat := [97, 32, 97, 108, 115, 111, 32, 97, 110, 100, 32, 98, 111, 116, 104, 32, 101, 105, 116, 104, 101, 114, 32, 101, 118, 101, 114, 121, 32, 104, 101, 32, 105, 102, 32, 105, 116, 32, 110, 111, 32, 110, 111, 116, 32, 111, 102, 32, 111, 114, 32, 115, 104, 101, 32, 116, 104, 101, 32, 116, 104, 101, 110, 32, 116, 104, 101, 121, 32, 116, 111, 111]
def KW : List (List Nat) := splitS kwz [32]
theorem kw_len {w : List Nat} (h : w ∈ KW) : w.length ≤ 6 := by
  have : (splitS kwz [32]).all (fun w => decide (w.length ≤ 6)) = true := by decide +kernel
  simpa using List.all_eq_true.mp this w h
theorem kw_spl {S : Sto} : splM false (.str kwz) [.str [32]] S = .ok (.lst (KW.map .str)) S := by
  show gd _ (mkList false ((splitS kwz [32]).map .str)) S = _
  rw [gd_t (by decide)]
  refine mkList_f ?_
  have : (splitS kwz [32]).length ≤ 100 := by decide +kernel
  rw [List.length_map]
  have e : sizeLine = 16777216 := by decide
  omega
theorem find_small {c : Nat} (h : Sm c) : findS small [c] = some (c - 97) := by
  have : ∀ c ∈ small, findS small [c] = some (c - 97) := by decide +kernel
  exact this c (of_small h)
theorem sz : sizeLine = 16777216 := by decide
theorem kept_ok {k : Nat} {S : Sto} : callN T gl (k + 1) "_law_kept" [] S = .ok (.lst (KW.map .str)) S := by
  rw [call_of T_law_kept rfl]
  show endC (exSs _ gl b_law_kept [] S) = _
  simp only [b_law_kept, exSs_cons, exS_ret, evE_mth, evE_str, then_ok, bnd_app, look_app, tyOf_str, ofO_some, evEs_cons, evEs_nil, ret_app, mm_split]
  rw [kw_spl]
  rfl
theorem letter_at {v : Nat} (h : v < 26) {S : Sto} : idxM (.str small) (.int (v : Int)) S = .ok (.str [97 + v]) S := by
  refine idx_str (by decide) ?_
  have : ∀ q < 26, small[q]? = some (97 + q) := by decide
  exact this v h
theorem word_ok {k n l : Nat} {S : Sto} {d1 d3 d4 : Option D} (hd : Deck (n + 8) l S) :
    Wr (evE (callN T gl (k + 1)) gl [some (.loc l), d1, some (.str small), d3, d4, none, none, none, none, none, none] (.mth false (.str []) "join" [(.comp false [6] (.name 6) (.it (.blt false "range" [(.int (8))])) (.val (.bl true)) (.idx (.var 2) (.call "_law_draw" [(.var 0), (.int (26))])))]) S)
      (Drawn n l S fun d => ∃ cs : List Nat, cs.length = 8 ∧ (∀ c ∈ cs, Sm c) ∧ d = .str cs) := by
  simp only [evE_mth, evE_str, then_ok, bnd_app, look_app, tyOf_str, ofO_some, evEs_cons, Wr_then]
  refine wr_comp (ds := intsUp 0 8) (S1 := S) (I := fun i acc S' => ∃ cs : List Nat, cs.length = i ∧ (∀ c ∈ cs, Sm c) ∧ acc = cs.map (fun c => .str [c]) ∧ (i ≤ 8 → Deck (n + (8 - i)) l S') ∧ Chg [l] S S') (by decide) (by simp [rng_at]) ?_ ⟨[], rfl, by simp, rfl, fun _ => hd, Chg.refl⟩ ?_
  · rintro i d acc S' hd ⟨cs, h1, h2, h3, h4, h5⟩
    obtain ⟨rfl, hi⟩ := intsUp_get hd
    have hdk : Deck (n + (7 - i) + 1) l S' := (h4 (by omega)).mono (by omega)
    simp [wipeD]
    refine (draw_ok hdk (by decide) (by decide)).mono ?_
    rintro d S2 ⟨q1, q2, v, rfl, hv⟩
    have hv' : v < 26 := by omega
    rw [letter_at hv']
    simp
    refine ⟨cs ++ [97 + v], by simp [h1], ?_, by simp [h3], fun _ => q1.mono (by omega), h5.trans q2⟩
    intro x hx
    rcases List.mem_append.mp hx with h | h
    · exact h2 x h
    · simp at h
      subst h
      unfold Sm
      omega
  · rintro r S' hr ⟨cs, h1, h2, rfl, h4, h5⟩
    have h1' : cs.length = 8 := h1
    rw [mkList_f (by rw [List.length_map, h1']; decide)]
    simp
    have e : cs.map (fun c => D.str [c]) = (cs.map fun c => [c]).map .str := by simp [Function.comp_def]
    have hsz : (List.map List.length (cs.map fun c => [c])).sum + (cs.map fun c => [c]).length * ([] : List Nat).length ≤ sizeLine := by
      have := sz
      rw [sum_ones]
      simp
      omega
    have hj : joiM (.str []) [.lst (cs.map fun c => .str [c])] S' = .ok (.str cs) S' := by
      unfold joiM
      dsimp only
      rw [bnd_t (look_t (k := cs.map fun c => [c]) (by show strsOf _ = _; rw [e, strsOf_map])), gd_t (decide_eq_true hsz), joinS_nil]
      rfl
    rw [hj]
    simp
    exact ⟨h4 (by simp), h5, cs, h1', h2, rfl⟩
end K12
set_option Elab.async false
set_option linter.all false
set_option maxRecDepth 100000
set_option maxHeartbeats 4000000
namespace K12
open PySem PyProof.Rows L2 MI
def WordL (w : List Nat) : Prop := w ≠ [] ∧ w.length ≤ 8 ∧ ∀ c ∈ w, Sm c
theorem sIx_nat {n i : Nat} {d : Nat} : HT.sIx n d (some (i : Int)) = min i n := by
  unfold HT.sIx
  simp
  try omega
theorem cut_take {α : Type} {xs : List α} {i : Nat} : cut xs none (some (i : Int)) = xs.take i := by
  unfold cut
  rw [sIx_nat]
  show (xs.drop 0).take (min i xs.length - 0) = _
  rw [List.drop_zero, Nat.sub_zero]
  by_cases h : i ≤ xs.length
  · rw [Nat.min_eq_left h]
  · rw [Nat.min_eq_right (by omega), List.take_length, List.take_of_length_le (by omega)]
theorem cut_drop {α : Type} {xs : List α} {i : Nat} : cut xs (some (i : Int)) none = xs.drop i := by
  unfold cut
  rw [sIx_nat]
  show (xs.drop (min i xs.length)).take (xs.length - min i xs.length) = _
  rw [List.take_of_length_le (by simp)]
  by_cases h : i ≤ xs.length
  · rw [Nat.min_eq_left h]
  · rw [Nat.min_eq_right (by omega), List.drop_length, List.drop_eq_nil_of_le (by omega)]
theorem slc_str {m : Bool} {z : List Nat} {l h : Option Int} {S : Sto} (hz : z.length ≤ sizeLine) : slcM m (.str z) l h S = .ok (.str (cut z l h)) S := by
  show gd _ _ S = _
  rw [gd_t (decide_eq_true hz)]
  rfl
theorem add_str {m : Bool} {a b : List Nat} {S : Sto} (hz : (a ++ b).length ≤ sizeLine) : binM m .Add (.str a) (.str b) S = .ok (.str (a ++ b)) S := by
  show MI.mkStr (a ++ b) S = _
  unfold MI.mkStr
  rw [if_pos hz]
theorem mul_strB {m b : Bool} {c : Nat} {S : Sto} : binM m .Mult (.str [c]) (.int (if b = true then 1 else 0)) S = .ok (.str (if b = true then [c] else [])) S := by
  cases b <;> rfl
def sgn (first k : Nat) : Nat := 97 + (first + 3 * k) % 26
theorem sgn_sm {first k : Nat} : Sm (sgn first k) := by
  unfold sgn Sm
  have := Nat.mod_lt (first + 3 * k) (show 26 > 0 by decide)
  omega
def w1 (first : Nat) (st : List Nat) (k : Nat) : List Nat := (st ++ st).take (1 + k % 8) ++ if decide (7 < k) = true then [sgn first k] else []
def w2 (first at_ : Nat) (st : List Nat) (k : Nat) : List Nat := st.take at_ ++ [sgn first k] ++ st.drop (at_ + 1)
def wD (way first at_ : Nat) (st : List Nat) (k : Nat) : List Nat := (if way = 0 then [sgn first k] else if way = 1 then w1 first st k else w2 first at_ st k).take 8
section
variable {way first at_ k : Nat} {st : List Nat}
theorem w1_len (h : st.length = 8) (hk : k < 26) : (w1 first st k).length ≤ 9 := by
  unfold w1
  rw [List.length_append, List.length_take]
  split <;> simp <;> omega
theorem w2_len (h : st.length = 8) (ha : at_ < 8) : (w2 first at_ st k).length = 8 := by
  unfold w2
  simp
  omega
theorem wD_ok (h : st.length = 8) (hs : ∀ c ∈ st, Sm c) (ha : at_ < 8) : WordL (wD way first at_ st k) := by
  unfold wD
  refine ⟨?_, by rw [List.length_take]; omega, fun c hc => ?_⟩
  · intro e
    have e := congrArg List.length e
    rw [List.length_take, List.length_nil] at e
    split at e
    · simp at e
    · split at e
      · unfold w1 at e
        rw [List.length_append, List.length_take, List.length_append] at e
        omega
      · rw [w2_len h ha] at e
        omega
  · have hc := List.mem_of_mem_take hc
    split at hc
    · rw [List.mem_singleton] at hc
      exact hc ▸ sgn_sm
    · split at hc
      · unfold w1 at hc
        rcases List.mem_append.mp hc with hc | hc
        · have := List.mem_of_mem_take hc
          rcases List.mem_append.mp this with h | h
          · exact hs c h
          · exact hs c h
        · split at hc
          · rw [List.mem_singleton] at hc
            exact hc ▸ sgn_sm
          · cases hc
      · unfold w2 at hc
        simp only [List.mem_append, List.mem_singleton] at hc
        rcases hc with (hc | rfl) | hc
        · exact hs c (List.mem_of_mem_take hc)
        · exact sgn_sm
        · exact hs c (List.mem_of_mem_drop hc)
/-- two of them at least are unlike, and none of the kept ones -/
theorem wD_two (h : st.length = 8) (ha : at_ < 8) (hf : first < 26) : ∃ i < 26, ∃ j < 26, wD way first at_ st i ∉ KW ∧ wD way first at_ st j ∉ KW ∧ wD way first at_ st i ≠ wD way first at_ st j := by
  by_cases h0 : way = 0
  · subst h0
    have key : ∀ f < 26, ∃ i < 26, ∃ j < 26, [sgn f i] ∉ KW ∧ [sgn f j] ∉ KW ∧ [sgn f i] ≠ [sgn f j] := by decide +kernel
    obtain ⟨i, hi, j, hj, k1, k2, k3⟩ := key first hf
    have e : ∀ k, wD 0 first at_ st k = [sgn first k] := fun k => by unfold wD; rw [if_pos rfl]; rfl
    exact ⟨i, hi, j, hj, by rw [e]; exact k1, by rw [e]; exact k2, by rw [e, e]; exact k3⟩
  · by_cases h1 : way = 1
    · subst h1
      have l6 : (wD 1 first at_ st 6).length = 7 := by
        unfold wD w1
        rw [if_neg (by decide), if_pos rfl, if_neg (by decide)]
        simp
        omega
      have l7 : (wD 1 first at_ st 7).length = 8 := by
        unfold wD w1
        rw [if_neg (by decide), if_pos rfl, if_neg (by decide)]
        simp
        omega
      exact ⟨6, by decide, 7, by decide, fun m => by have := kw_len m; omega, fun m => by have := kw_len m; omega, fun e => by have := congrArg List.length e; omega⟩
    · have e : ∀ k, wD way first at_ st k = w2 first at_ st k := fun k => by
        unfold wD
        rw [if_neg h0, if_neg h1]
        exact List.take_of_length_le (by rw [w2_len h ha]; omega)
      have g : ∀ k, (w2 first at_ st k)[at_]? = some (sgn first k) := fun k => by
        unfold w2
        rw [List.append_assoc, List.getElem?_append_right (by simp; omega)]
        have : at_ - (List.take at_ st).length = 0 := by simp; omega
        rw [this]
        rfl
      refine ⟨0, by decide, 1, by decide, fun m => ?_, fun m => ?_, fun q => ?_⟩
      · have := kw_len m
        rw [e, w2_len h ha] at this
        omega
      · have := kw_len m
        rw [e, w2_len h ha] at this
        omega
      · rw [e, e] at q
        have q := congrArg (fun x : List Nat => x[at_]?) q
        simp only [g, sgn] at q
        injection q with q
        omega
end
/-- the words that are found so far -/
structure Fnd (way first at_ : Nat) (st : List Nat) (k : Nat) (fs : List (List Nat)) : Prop where
  wd : ∀ x ∈ fs, WordL x
  has : ∀ j < k, wD way first at_ st j ∉ KW → wD way first at_ st j ∈ fs
  most : fs.length ≤ k
def texts_b : List MS := [(.asg (.name 9) (.idx (.var 2) (.bin false .Mod (.bin false .Add (.var 4) (.bin false .Mult (.int (3)) (.var 6))) (.int (26))))),
    (.asg (.name 10) (.slc false (.idx (.lst false [(.var 9), (.bin false .Add (.slc false (.bin false .Add (.var 5) (.var 5)) .no (.at (.bin false .Add (.int (1)) (.bin false .Mod (.var 6) (.int (8)))))) (.bin false .Mult (.var 9) (.blt false "int" [(.cmp (.var 6) .Gt (.int (7)))]))), (.bin false .Add (.bin false .Add (.slc false (.var 5) .no (.at (.var 7))) (.var 9)) (.slc false (.var 5) (.at (.bin false .Add (.var 7) (.int (1)))) .no))]) (.var 3)) .no (.at (.int (8))))),
    (.ifs (.and (.val (.cmp (.var 10) .NotIn (.var 8))) (.val (.cmp (.var 10) .NotIn (.call "_law_kept" [])))) [(.expr (.mth false (.var 8) "append" [(.var 10)]))] [])]
def Wenv (l : Nat) (m : Int) (way first : Nat) (st : List Nat) (at_ f : Nat) (o6 o9 o10 : Option D) : MI.Env := [some (.loc l), some (.int m), some (.str small), some (.int (way : Int)), some (.int (first : Int)), some (.str st), o6, some (.int (at_ : Int)), some (.loc f), o9, o10]
section
variable {kk l f at_ way first : Nat} {m : Int} {st : List Nat} {S : Sto} {o6 o9 o10 : Option D}
theorem texts_l (h : st.length = 8) (hs : ∀ c ∈ st, Sm c) (ha : at_ < 8) (hw : way < 3) (hf : first < 26) (hF : S[f]? = some (.lst [])) :
    Wr (exS (callN T gl (kk + 1)) gl (.for (.name 6) (.it (.blt false "range" [(.int (26))])) texts_b) (Wenv l m way first st at_ f o6 o9 o10) S) fun r S' =>
      r.1 = .nx ∧ (∃ (o6' o9' o10' : Option D) (fs : List (List Nat)), r.2 = Wenv l m way first st at_ f o6' o9' o10' ∧ S'[f]? = some (.lst (fs.map .str)) ∧ Fnd way first at_ st 26 fs) ∧ Chg [f] S S' := by
  have hz : st.length ≤ sizeLine := by rw [sz]; omega
  refine wr_forS (ds := intsUp 0 26) (S1 := S) (by simp [rng_at]) ?_
  refine (wr_for (k := 0) (I := fun i σ S' => (∃ (o6' o9' o10' : Option D) (fs : List (List Nat)), σ = Wenv l m way first st at_ f o6' o9' o10' ∧ S'[f]? = some (.lst (fs.map .str)) ∧ Fnd way first at_ st i fs) ∧ Chg [f] S S')
      (J := fun σ S' => (∃ (o6' o9' o10' : Option D) (fs : List (List Nat)), σ = Wenv l m way first st at_ f o6' o9' o10' ∧ S'[f]? = some (.lst (fs.map .str)) ∧ Fnd way first at_ st 26 fs) ∧ Chg [f] S S') ?_ ?_ ?_).mono ?_
  · rintro i d σ S' hd ⟨⟨o6', o9', o10', fs, rfl, h1, h2⟩, h5⟩
    obtain ⟨rfl, hi⟩ := intsUp_get hd
    simp only [Nat.zero_add] at h2 ⊢
    have e3 : ∀ S, binM false .Mult (.int 3) (.int (i : Int)) S = .ok (.int (3 * (i : Int))) S := fun S => mul_ok (by omega) (by omega) (by omega) (by omega)
    obtain ⟨q, hq⟩ : ∃ q : Nat, q = (first + 3 * i) % 26 := ⟨_, rfl⟩
    have e4 : ∀ S, binM false .Mod (.int ((first : Int) + 3 * (i : Int))) (.int 26) S = .ok (.int (q : Int)) S := fun S => by
      rw [bin_mod (by decide), hq]
      congr 2
    have hm : q < 26 := hq ▸ Nat.mod_lt _ (by decide)
    obtain ⟨g, hg⟩ : ∃ g : Nat, g = sgn first i := ⟨_, rfl⟩
    have e5 : ∀ S, idxM (.str small) (.int (q : Int)) S = .ok (.str [g]) S := fun S => by
      rw [letter_at hm, hg, hq]
      rfl
    have a1 : ∀ S, binM false .Add (.str st) (.str st) S = .ok (.str (st ++ st)) S := fun S => add_str (by rw [sz]; simp; omega)
    obtain ⟨r8, hr8⟩ : ∃ r : Nat, r = i % 8 := ⟨_, rfl⟩
    obtain ⟨bb, hbb⟩ : ∃ b : Bool, b = decide (7 < i) := ⟨_, rfl⟩
    have a2 : ∀ S, binM false .Mod (.int (i : Int)) (.int 8) S = .ok (.int (r8 : Int)) S := fun S => by
      rw [bin_mod (by decide), hr8]
      congr 2
    have a3 : ∀ S, slcM false (.str (st ++ st)) none (some (1 + (r8 : Int))) S = .ok (.str ((st ++ st).take (1 + r8))) S := fun S => by
      rw [slc_str (by rw [sz]; simp; omega), show (1 + (r8 : Int)) = ((1 + r8 : Nat) : Int) by omega, cut_take]
    have a4 : cmpM .Gt (.int (i : Int)) (.int 7) = ret (.bl bb) := by
      funext S
      show MI.R.ok (D.bl (decide ((7 : Int) < (i : Int)))) S = _
      rw [show decide ((7 : Int) < (i : Int)) = decide (7 < i) by rw [decide_eq_decide]; omega, hbb]
      rfl
    obtain ⟨e1, he1⟩ : ∃ e : Int, e = if bb = true then 1 else 0 := ⟨_, rfl⟩
    obtain ⟨e2, he2⟩ : ∃ e : List Nat, e = if bb = true then [g] else [] := ⟨_, rfl⟩
    have a5 : intM [.bl (decide ((7 : Int) < (i : Int)))] = ret (.int e1) := by
      rw [show decide ((7 : Int) < (i : Int)) = bb by rw [hbb, decide_eq_decide]; omega, he1]
      rfl
    have a5' : ∀ S, binM false .Mult (.str [g]) (.int e1) S = .ok (.str e2) S := fun S => by rw [he1, he2]; exact mul_strB
    have a6 : ∀ S, binM false .Add (.str ((st ++ st).take (1 + r8))) (.str e2) S = .ok (.str (w1 first st i)) S := fun S => by
      rw [he2, add_str (by rw [sz, List.length_append, List.length_take]; split <;> simp <;> omega), hg, hbb, hr8]
      rfl
    have e6 : ∀ S, slcM false (.str st) none (some (at_ : Int)) S = .ok (.str (st.take at_)) S := fun S => by rw [slc_str hz, cut_take]
    have e7 : ∀ S, slcM false (.str st) (some ((at_ : Int) + 1)) none S = .ok (.str (st.drop (at_ + 1))) S := fun S => by rw [slc_str hz, show (at_ : Int) + 1 = ((at_ + 1 : Nat) : Int) by omega, cut_drop]
    have e8 : ∀ S, binM false .Add (.str (st.take at_)) (.str [g]) S = .ok (.str (st.take at_ ++ [g])) S := fun S => add_str (by rw [sz]; simp; omega)
    have e9 : ∀ S, binM false .Add (.str (st.take at_ ++ [g])) (.str (st.drop (at_ + 1))) S = .ok (.str (w2 first at_ st i)) S := fun S => by
      rw [add_str (by rw [sz]; simp; omega), hg]
      rfl
    obtain ⟨u, hu, hul⟩ : ∃ u, u = (if way = 0 then [g] else if way = 1 then w1 first st i else w2 first at_ st i) ∧ u.length ≤ 9 := ⟨_, rfl, by
      split
      · simp
      · split
        · exact w1_len h hi
        · rw [w2_len h ha]; omega⟩
    have b1 : ∀ S, idxM (.lst [.str [g], .str (w1 first st i), .str (w2 first at_ st i)]) (.int (way : Int)) S = .ok (.str u) S := fun S => by
      rw [hu]
      match way, hw with
      | 0, _ => exact idx_lst (i := 0) rfl
      | 1, _ => exact idx_lst (i := 1) rfl
      | 2, _ => exact idx_lst (i := 2) rfl
      | w + 3, hw => omega
    have b2 : ∀ S, slcM false (.str u) none (some 8) S = .ok (.str (wD way first at_ st i)) S := fun S => by
      rw [slc_str (by rw [sz]; omega), show (8 : Int) = ((8 : Nat) : Int) by rfl, cut_take, hu, hg]
      rfl
    have nW := wD_ok (way := way) (first := first) (k := i) h hs ha
    obtain ⟨w, hwd, hwe⟩ : ∃ w, w = wD way first at_ st i ∧ True := ⟨_, rfl, trivial⟩
    rw [← hwd] at nW b2
    have g1 : inM (.str w) (.loc f) S' = .ok (decide (w ∈ fs)) S' := in_seq (by unfold seqOf; simp only [h1])
    have g2 : inM (.str w) (.lst (KW.map .str)) S' = .ok (decide (w ∈ KW)) S' := in_seq rfl
    have kp : callN T gl (kk + 1) "_law_kept" [] S' = .ok (.lst (KW.map .str)) S' := kept_ok
    have hlast : ∀ j < i + 1, wD way first at_ st j ∉ KW → wD way first at_ st j ∈ fs ∨ wD way first at_ st j = w := fun j hj hk => by
      by_cases h : j < i
      · exact .inl (h2.has j h hk)
      · right
        rw [hwd, show j = i by omega]
    by_cases hx : w ∈ fs
    · refine Wr.of (a := (.nx, Wenv l m way first st at_ f (some (.int (i : Int))) (some (.str [g])) (some (.str w)))) (S' := S') ?_ (.inl ⟨rfl, ⟨_, _, _, fs, rfl, h1, h2.wd, fun j hj hk => ?_, by have := h2.most; omega⟩, h5⟩)
      · simp [Wenv, texts_b, e3, e4, e5, e6, e7, e8, e9, a1, a2, a3, a4, a5, a5', a6, b1, b2, g1, hx, mkList_f, sz]
      · rcases hlast j hj hk with h | h
        · exact h
        · exact h ▸ hx
    · by_cases hy : w ∈ KW
      · refine Wr.of (a := (.nx, Wenv l m way first st at_ f (some (.int (i : Int))) (some (.str [g])) (some (.str w)))) (S' := S') ?_ (.inl ⟨rfl, ⟨_, _, _, fs, rfl, h1, h2.wd, fun j hj hk => ?_, by have := h2.most; omega⟩, h5⟩)
        · simp [Wenv, texts_b, e3, e4, e5, e6, e7, e8, e9, a1, a2, a3, a4, a5, a5', a6, b1, b2, g1, g2, kp, hx, hy, mkList_f, sz]
        · rcases hlast j hj hk with h | h
          · exact h
          · rw [h] at hk; exact absurd hy hk
      · have ap : appM (.loc f) [.str w] S' = .ok .non (S'.set f (.lst ((fs ++ [w]).map .str))) := by
          rw [app_loc h1 (by have := h2.most; rw [sz]; simp; omega)]
          simp
        refine Wr.of (a := (.nx, Wenv l m way first st at_ f (some (.int (i : Int))) (some (.str [g])) (some (.str w)))) (S' := S'.set f (.lst ((fs ++ [w]).map .str))) ?_ (.inl ⟨rfl, ⟨_, _, _, fs ++ [w], rfl, set_self h1, fun x hx => ?_, fun j hj hk => ?_, by have := h2.most; simp; omega⟩, h5.trans (Chg.set (by simp))⟩)
        · simp [Wenv, texts_b, e3, e4, e5, e6, e7, e8, e9, a1, a2, a3, a4, a5, a5', a6, b1, b2, g1, g2, kp, hx, hy, mkList_f, sz, tyOf_loc h1, ap]
        · rcases List.mem_append.mp hx with hx | hx
          · exact h2.wd x hx
          · rw [List.mem_singleton] at hx
            exact hx ▸ nW
        · rcases hlast j hj hk with h | h
          · exact List.mem_append_left _ h
          · exact List.mem_append_right _ (by rw [h]; simp)
  · rintro σ S' h
    simpa using h
  · exact ⟨⟨_, _, _, [], rfl, hF, by simp, fun j hj => by omega, by simp⟩, Chg.refl⟩
  · rintro r S' h
    exact h
end
end K12
set_option Elab.async false
set_option linter.all false
set_option maxRecDepth 100000
set_option maxHeartbeats 2000000
/-! exceptions: rules by which `simp` runs the evaluator -/
namespace MI
open PySem PyProof.Rows L2
theorem orM_err {α : Type} {a b : M α} {S : Sto} (h : a S = .err) : orM a b S = b S := by unfold orM; rw [h]
theorem orM_fst {α : Type} {a b : M α} {S S' : Sto} {x : α} (h : a S = .ok x S') : orM a b S = .ok x S' := by unfold orM; rw [h]
section
variable {cf : Cf} {gl : Str → Option D} {σ : MI.Env} {S : Sto}
/-- an expression of which no call is a part -/
def noCall : ME → Bool
  | .call .. | .tup .. => false
  | _ => true
theorem xE_no {m : ME} (h : noCall m = true) : xE cf gl σ m S = .err := by
  cases m <;> first | (unfold xE; rfl) | cases h
theorem xEs_no : ∀ {es : List ME} {S : Sto}, es.all noCall = true → xEs cf gl σ es S = .err
  | [], S, _ => by unfold xEs; rfl
  | e :: es, S, h => by
    rw [List.all_cons, Bool.and_eq_true] at h
    unfold xEs
    rw [orM_err (xE_no h.1), bnd_app]
    cases evE cf gl σ e S with
    | ok v S1 => exact xEs_no (S := S1) h.2
    | err => rfl
theorem xE_callno {x : Str} {es : List ME} (h : es.all noCall = true) (hb : ∀ vs S, cf (bang x) vs S = .err) : xE cf gl σ (.call x es) S = .err := by
  unfold xE
  rw [orM_err (xEs_no h), bnd_app]
  cases evEs cf gl σ es S with
  | ok v S1 => exact hb v S1
  | err => rfl
theorem xE_call {x : Str} {es : List ME} {vs : List D} {d : D} {S1 S2 : Sto} (h : es.all noCall = true) (he : evEs cf gl σ es S = .ok vs S1) (hb : cf (bang x) vs S1 = .ok d S2) : xE cf gl σ (.call x es) S = .ok d S2 := by
  unfold xE
  rw [orM_err (xEs_no h), bnd_t he]
  exact hb
theorem xS_asg {t : MG} {e : ME} : xS cf gl (.asg t e) σ S = (gd (!gBad t) (bnd (xE cf gl σ e) fun d => ret (d, σ)) : XR) S := by rw [xS]
theorem xS_asgno {t : MG} {e : ME} (h : xE cf gl σ e S = .err) : xS cf gl (.asg t e) σ S = .err := by
  rw [xS_asg]
  unfold gd
  split
  · rw [bnd_app, h]; rfl
  · rfl
theorem xS_exprno {e : ME} (h : xE cf gl σ e S = .err) : xS cf gl (.expr e) σ S = .err := by
  rw [xS, bnd_app, h]; rfl
theorem xS_ifs {c : MC} {a b : List MS} {k : Bool} {S1 : Sto} (h : evT cf gl σ c S = .ok k S1) : xS cf gl (.ifs c a b) σ S = if k = true then xSs cf gl a σ S1 else xSs cf gl b σ S1 := by
  rw [xS, bnd_t h]
  split <;> rfl
theorem xS_raise {x : Str} {anc fs : List Str} {es : List ME} {vs : List D} {S1 : Sto} (h : evEs cf gl σ es S = .ok vs S1) (hv : rsOk fs vs = true) : xS cf gl (.raise x anc fs es) σ S = .ok (mkX x anc fs vs, σ) S1 := by
  rw [xS, bnd_t h, gd_t hv]
  rfl
theorem xSs_fst {s : MS} {r : List MS} {p : D × MI.Env} {S1 : Sto} (h : xS cf gl s σ S = .ok p S1) : xSs cf gl (s :: r) σ S = .ok p S1 := by
  rw [xSs, orM_fst h]
theorem xSs_nxt {s : MS} {r : List MS} {σ2 : MI.Env} {S1 : Sto} (h : xS cf gl s σ S = .err) (e : exS cf gl s σ S = .ok (.nx, σ2) S1) : xSs cf gl (s :: r) σ S = xSs cf gl r σ2 S1 := by
  rw [xSs, orM_err h, bnd_t e]
theorem xSs_nil : xSs cf gl [] σ S = .err := by rw [xSs]; rfl
/-- a def's exception -/
theorem xcall_of {T : Str → Option Fn} {k ps n : Nat} {x : Str} {b : List MS} {vs : List D} {d : D} {σ' : MI.Env} {S1 : Sto} (h : T (bang x) = some ⟨ps, n, [.xret b]⟩) (hl : vs.length = ps) (e : xSs (callN T gl k) gl b (vs.map some ++ List.replicate (n - vs.length) none) S = .ok (d, σ') S1) :
    callN T gl (k + 1) (bang x) vs S = .ok d S1 := by
  rw [call_of h hl]
  rw [exSs_cons, exS]
  rw [bnd_t e]
  rfl
theorem xcall_no {T : Str → Option Fn} {k : Nat} {x : Str} (h : T (bang x) = none) (vs : List D) (S : Sto) : callN T gl k (bang x) vs S = .err := by
  cases k with
  | zero => unfold callN; rfl
  | succ k => unfold callN; rw [h]; rfl
theorem xcall_err {T : Str → Option Fn} {k ps n : Nat} {x : Str} {b : List MS} {vs : List D} (h : T (bang x) = some ⟨ps, n, [.xret b]⟩) (e : xSs (callN T gl k) gl b (vs.map some ++ List.replicate (n - vs.length) none) S = .err) :
    callN T gl (k + 1) (bang x) vs S = .err := by
  unfold callN
  rw [h]
  dsimp only
  by_cases hl : vs.length = ps
  · rw [if_pos hl, bnd_app, exSs_cons, exS]
    rw [bnd_app, e]
    rfl
  · rw [if_neg hl]; rfl
/-- a def ends: no exception leaves it -/
theorem try_ok {body : List MS} {c : Str} {i : Option Nat} {su : List HS} {p : Fl × MI.Env} {S1 : Sto} (h : exSs cf gl body σ S = .ok p S1) : exS cf gl (.tryx body c i su) σ S = .ok p S1 := by
  rw [exS, orM_fst h]
theorem try_x {body : List MS} {c : Str} {i : Option Nat} {su : List HS} {d : D} {σ1 σ2 : MI.Env} {fl : Fl} {S1 S2 : Sto} (h : exSs cf gl body σ S = .err) (hx : xSs cf gl body σ S = .ok (d, σ1) S1) (hc : (xIs c d && hasV i σ1) = true) (hs : hSs d su (offV i σ1) S1 = .ok (fl, σ2) S2) :
    exS cf gl (.tryx body c i su) σ S = .ok (fl, offV i σ2) S2 := by
  rw [exS, orM_err h, bnd_t hx]
  dsimp only
  rw [if_pos hc, bnd_t hs]
  rfl
end
end MI
set_option Elab.async false
set_option linter.all false
set_option maxRecDepth 100000
set_option maxHeartbeats 2000000
/-! running sorted -/
namespace MI
open PySem PyProof.Rows L2
@[simp] theorem bm_sorted {m : Bool} {vs : List D} : bltM m "sorted" vs = sortM m vs := by unfold bltM; rfl
@[simp] theorem bm_sortedL {m : Bool} {vs : List D} : bltM m "sorted len" vs = sortLM m vs := by unfold bltM; rfl
theorem sortLM_ok {x : D} {xs : List D} {S : Sto} (h : itemsK S x = some xs) (ht : ∀ y ∈ xs, isTupD y = true) (hz : xs.length ≤ sizeLine) : ∃ ys, sortLM false [x] S = .ok (.lst ys) S ∧ ys.Perm xs := by
  refine ⟨xs.mergeSort (PySem.W.dataLe true tupLn), ?_, List.mergeSort_perm _ _⟩
  show bnd (look fun S => itemsK S x) _ S = _
  rw [bnd_t (look_t h), gd_t (List.all_eq_true.mpr ht)]
  exact mkList_f (by rw [(List.mergeSort_perm _ _).length_eq]; exact hz)
theorem sortM_ok {x : D} {xs : List D} {ps : List PyData} {S : Sto} (h : itemsK S x = some xs) (hp : toPysA (fun _ => none) xs = some ps) (hs : sortsOk ps = true) (hz : xs.length ≤ sizeLine) :
    sortM false [x] S = .ok (.lst (xs.mergeSort (PySem.W.dataLe false pyOf))) S := by
  show bnd (look fun S => itemsK S x) _ S = _
  rw [bnd_t (look_t h), bnd_app, hp]
  show (gd (sortsOk ps) _) S = _
  rw [gd_t hs]
  exact mkList_f (by rw [(List.mergeSort_perm _ _).length_eq]; exact hz)
/-! tuples of ints, the first of no items -/
def intsT (ts : List Int) : D := .tup (ts.map .int)
theorem toPys_ints {f : Nat → Option PyData} : ∀ ts : List Int, toPysA f (ts.map .int) = some (ts.map .int)
  | [] => rfl
  | t :: ts => by
    rw [List.map_cons, toPysA, toPys_ints ts]
    rfl
theorem toPys_tups {f : Nat → Option PyData} : ∀ tss : List (List Int), toPysA f (tss.map intsT) = some (tss.map fun ts => .tuple (ts.map .int))
  | [] => rfl
  | ts :: tss => by
    rw [List.map_cons, toPysA, toPys_tups tss, show toPyA f (intsT ts) = some (.tuple (ts.map .int)) by
      unfold intsT
      rw [toPyA, toPys_ints ts]
      rfl]
    rfl
theorem sorts_tups {tss : List (List Int)} (h : ∀ ts r, tss = ts :: r → ts = [] ∨ ∀ us ∈ tss, us ≠ []) : sortsOk (tss.map fun ts => .tuple (ts.map .int)) = true := by
  have a1 : ∀ xs ys : List Int, PySem.W.alike (.tuple (xs.map .int)) (.tuple (ys.map .int)) = true := fun xs ys => by
    rw [PySem.W.alike]
    exact PySem.W.alike_ints xs ys
  unfold sortsOk
  simp only [Bool.and_eq_true, Bool.or_eq_true, List.all_eq_true, decide_eq_true_eq]
  refine ⟨⟨fun p hp q hq => ?_, ?_⟩, fun p hp => ?_⟩
  · obtain ⟨xs, _, rfl⟩ := List.mem_map.mp hp
    obtain ⟨ys, _, rfl⟩ := List.mem_map.mp hq
    exact a1 xs ys
  · cases tss with
    | nil => exact .inl (.inl fun p hp => nomatch hp)
    | cons ts r =>
      rcases h ts r rfl with rfl | h
      · refine .inr ?_
        show (r.map fun ts => PyData.tuple (ts.map .int)).all isTP = true
        rw [List.all_eq_true]
        intro p hp
        obtain ⟨xs, _, rfl⟩ := List.mem_map.mp hp
        rfl
      · refine .inl (.inl fun p hp => ?_)
        obtain ⟨xs, hx, rfl⟩ := List.mem_map.mp hp
        have := h xs hx
        cases xs with
        | nil => exact absurd rfl this
        | cons x xs => rfl
  · obtain ⟨xs, _, rfl⟩ := List.mem_map.mp hp
    rw [PyData.depth, PySem.W.depth_ints]
    decide
theorem cut_mem {α : Type} {xs : List α} {lo hi : Option Int} {x : α} (h : x ∈ cut xs lo hi) : x ∈ xs := List.mem_of_mem_drop (List.mem_of_mem_take h)
theorem cut_len {α : Type} {xs : List α} {lo hi : Option Int} : (cut xs lo hi).length ≤ xs.length := by
  unfold cut
  rw [List.length_take, List.length_drop]
  omega
theorem slc_lst {xs : List D} {lo hi : Option Int} {S : Sto} (hz : xs.length ≤ sizeLine) : slcM false (.lst xs) lo hi S = .ok (.lst (cut xs lo hi)) S := by
  show bnd (look fun S => listOf S (.lst xs)) _ S = _
  rw [bnd_t (look_t (k := xs) rfl)]
  exact mkList_f (Nat.le_trans cut_len hz)
end MI
namespace MI
open PySem PyProof.Rows L2
section
variable {cf : Cf} {gl : Str → Option D} {σ : MI.Env} {S : Sto}
/-- a comprehension whose condition holds at each turn -/
theorem wr_compY {m : Bool} {own : List Nat} {tg : MG} {it : MT} {cond : MC} {elt : ME} {ds : List D} {S1 : Sto} {Q : D → Sto → Prop} {I : Nat → List D → Sto → Prop} (hz : ds.length ≤ sizeLine) (hi : evI cf gl σ it S = .ok (.items ds) S1)
    (h : ∀ i d acc S, ds[i]? = some d → I i acc S → Wr (evG cf gl (wipeD σ own) tg d S) fun σ2 S => evT cf gl σ2 cond S = .ok true S ∧ Wr (evE cf gl σ2 elt S) fun y S' => I (i + 1) (acc ++ [y]) S') (h0 : I 0 [] S1)
    (hq : ∀ r S, r.length = ds.length → I ds.length r S → Wr (mkList m r S) Q) :
    Wr (evE cf gl σ (.comp m own tg it cond elt) S) Q := by
  rw [evE]
  refine Wr_bnd (Wr.of hi ?_)
  dsimp only
  refine Wr_bnd ((wr_compL (k := 0) (I := I) (by simpa using hz) (fun i d acc S hd hi => ?_) h0).mono ?_)
  · rw [Nat.zero_add] at hi ⊢
    refine Wr_bnd ((h i d acc S hd hi).mono fun σ2 S2 h2 => ?_)
    rw [bnd_app, h2.1, then_ok]
    simp only [if_true, bnd_app, Wr_then]
    refine h2.2.mono fun y S3 h3 => ?_
    simp only [ret_app, Wr_ok]
    exact ⟨y, rfl, h3⟩
  · rintro r S2 ⟨e, i2⟩
    exact hq r S2 (by simpa using e) (by simpa using i2)
theorem compL_none {f : D → M (Option D)} : ∀ {ds acc : List D}, (∀ d ∈ ds, f d S = .ok none S) → compL f ds acc S = .ok acc S
  | [], acc, _ => by rw [compL]; rfl
  | d :: ds, acc, h => by
    rw [compL, bnd_app, h d List.mem_cons_self, then_ok]
    exact compL_none fun d hd => h d (List.mem_cons_of_mem _ hd)
/-- .. whose condition never holds -/
theorem ev_compN {m : Bool} {own : List Nat} {tg : MG} {it : MT} {cond : MC} {elt : ME} {ds : List D} {S1 : Sto} (hi : evI cf gl σ it S = .ok (.items ds) S1)
    (h : ∀ d ∈ ds, ∃ σ2, evG cf gl (wipeD σ own) tg d S1 = .ok σ2 S1 ∧ evT cf gl σ2 cond S1 = .ok false S1) : evE cf gl σ (.comp m own tg it cond elt) S = mkList m [] S1 := by
  rw [evE, bnd_app, hi, then_ok]
  dsimp only
  rw [bnd_app, compL_none fun d hd => ?_, then_ok]
  obtain ⟨σ2, e1, e2⟩ := h d hd
  rw [bnd_app, e1, then_ok, bnd_app, e2, then_ok]
  rfl
theorem wr_live {F : D → MI.Env → SR} {I : MI.Env → Sto → Prop} {l : Nat} {xs : List D} (hl : ∀ σ S, I σ S → S[l]? = some (.lst xs)) (hF : ∀ d ∈ xs, ∀ σ S, I σ S → Wr (F d σ S) fun r S' => r.1 = .nx ∧ I r.2 S') : ∀ {m n i : Nat} {σ : MI.Env} {S : Sto}, m = xs.length - i → m < n → I σ S → Wr (forLive F l n i σ S) fun r S' => r.1 = .nx ∧ I r.2 S'
  | m, 0, i, σ, S, hm, hn, h => by omega
  | m, n + 1, i, σ, S, hm, hn, h => by
    rw [forLive]
    refine Wr_bnd (Wr.of (look_t (k := xs) (by simp only [MI.listOf, hl σ S h])) ?_)
    cases hx : xs[i]? with
    | none =>
      simp only [ret_app, Wr_ok, true_and]
      exact h
    | some d =>
      have hi : i < xs.length := (List.getElem?_eq_some_iff.mp hx).1
      refine Wr_bnd ((hF d (List.mem_of_getElem? hx) σ S h).mono ?_)
      rintro ⟨fl, σ2⟩ S2 ⟨e, h2⟩
      simp only at e h2
      subst e
      exact wr_live hl hF (m := m - 1) (i := i + 1) (by omega) (by omega) h2
theorem lenM_loc {l : Nat} {xs : List D} (e : S[l]? = some (.lst xs)) (h : xs.length ≤ sizeLine) : lenM [.loc l] S = .ok (.int (xs.length : Int)) S := by
  show bnd (look fun S => lenOf S (.loc l)) _ S = _
  rw [bnd_t (look_t (k := xs.length) (by simp [lenOf, seqOf, e])), gd_t (decide_eq_true h)]
  rfl
/-- xs != [] of a mutable list of numbers -/
theorem cmp_neLoc {l : Nat} {ts : List Int} (e : S[l]? = some (.lst (ts.map .int))) : cmpM .NotEq (.loc l) (.lst []) S = .ok (.bl (!ts.isEmpty)) S := by
  show bnd (bnd (eqM (.loc l) (.lst [])) _) _ S = _
  have hp : toPy S (.loc l) = some (.list (ts.map .int)) := by
    unfold toPy
    rw [toPyA, locPy, e]
    simp only [toPys_ints, Option.map_some]
  have hq : eqM (.loc l) (.lst []) S = .ok ts.isEmpty S := by
    show bnd (look fun S => toPy S (.loc l)) _ S = _
    rw [bnd_t (look_t (k := PyData.list (ts.map .int)) hp), bnd_t (look_t (k := PyData.list []) (by rfl)), gd_t]
    · show R.ok _ S = _
      congr 1
      cases ts with
      | nil => rfl
      | cons t ts => simp [PyData.eqv, PyData.eqvAll]
    · have a1 : ∀ ts : List Int, PyData.canLayAll0 (ts.map .int) = true := fun ts => by
        induction ts with
        | nil => rfl
        | cons t ts ih => simp only [List.map_cons, PyData.canLayAll0, ih, PyData.canLay0, Bool.and_self]
      simp [SeqAt.shaped, PyData.canLay0, a1, PyData.depth, PySem.W.depth_ints, PyData.canLayAll0, PyData.depthAll]
  rw [bnd_app, bnd_app, hq]
  rfl
end
end MI
namespace MI
open PySem PyProof.Rows L2
section
variable {cf : Cf} {gl : Str → Option D} {σ : MI.Env} {S : Sto}
theorem compL_filt {f : D → M (Option D)} {k : D → Bool} : ∀ {ds acc : List D}, (∀ d ∈ ds, f d S = .ok (if k d = true then some d else none) S) → acc.length + ds.length ≤ sizeLine → compL f ds acc S = .ok (acc ++ ds.filter k) S
  | [], acc, _, _ => by rw [compL, List.filter_nil, List.append_nil]; rfl
  | d :: ds, acc, h, hz => by
    rw [List.length_cons] at hz
    rw [compL, bnd_app, h d List.mem_cons_self, then_ok]
    by_cases hk : k d = true
    · rw [if_pos hk]
      dsimp only
      rw [gd_t (decide_eq_true (by omega)), compL_filt (fun y hy => h y (List.mem_cons_of_mem _ hy)) (by simp; omega), List.filter_cons_of_pos hk, List.append_assoc]
      rfl
    · rw [if_neg hk]
      dsimp only
      rw [compL_filt (fun y hy => h y (List.mem_cons_of_mem _ hy)) (by omega), List.filter_cons_of_neg hk]
/-- [x for x in ds if k(x)] -/
theorem ev_compF {own : List Nat} {tg : MG} {it : MT} {cond : MC} {elt : ME} {ds : List D} {k : D → Bool} {S1 : Sto} (hi : evI cf gl σ it S = .ok (.items ds) S1) (hz : ds.length ≤ sizeLine)
    (h : ∀ d ∈ ds, ∃ σ2, evG cf gl (wipeD σ own) tg d S1 = .ok σ2 S1 ∧ evT cf gl σ2 cond S1 = .ok (k d) S1 ∧ evE cf gl σ2 elt S1 = .ok d S1) : evE cf gl σ (.comp false own tg it cond elt) S = .ok (.lst (ds.filter k)) S1 := by
  rw [evE, bnd_app, hi, then_ok]
  dsimp only
  rw [bnd_app, compL_filt (k := k) (fun d hd => ?_) (by simpa using hz), then_ok, List.nil_append]
  · exact mkList_f (Nat.le_trans (List.length_filter_le _ _) hz)
  · obtain ⟨σ2, e1, e2, e3⟩ := h d hd
    rw [bnd_app, e1, then_ok, bnd_app, e2, then_ok]
    by_cases hk : k d = true
    · rw [if_pos hk, if_pos hk, bnd_app, e3, then_ok]
      rfl
    · rw [if_neg hk, if_neg hk]
      rfl
/-- a comprehension whose turns may change the store: an item, or none -/
theorem wr_compLI {f : D → M (Option D)} {I : Nat → List D → Sto → Prop} : ∀ {ds : List D} {acc : List D} {k : Nat} {S : Sto}, acc.length + ds.length ≤ sizeLine →
    (∀ i d acc S, ds[i]? = some d → I (k + i) acc S → Wr (f d S) fun o S' => (∃ y, o = some y ∧ I (k + i + 1) (acc ++ [y]) S') ∨ (o = none ∧ I (k + i + 1) acc S')) → I k acc S →
    Wr (compL f ds acc S) fun r S' => r.length ≤ acc.length + ds.length ∧ I (k + ds.length) r S'
  | [], acc, k, S, hz, h, i => by
    rw [compL]
    simp only [ret_app, Wr_ok, List.length_nil, Nat.add_zero]
    exact ⟨Nat.le_refl _, i⟩
  | d :: ds, acc, k, S, hz, h, i => by
    rw [List.length_cons] at hz
    rw [compL]
    refine Wr_bnd ((h 0 d acc S rfl i).mono ?_)
    rintro o S2 (⟨y, rfl, i2⟩ | ⟨rfl, i2⟩)
    · dsimp only
      rw [gd_t (decide_eq_true (by omega))]
      refine (wr_compLI (k := k + 1) (I := I) (by simp; omega) (fun i d acc S hd hi => ?_) i2).mono ?_
      · have := h (i + 1) d acc S (by simpa using hd) (by rwa [show k + (i + 1) = k + 1 + i by omega])
        rwa [show k + (i + 1) + 1 = k + 1 + i + 1 by omega] at this
      · rintro r S3 ⟨e, i3⟩
        refine ⟨by simp at e ⊢; omega, ?_⟩
        rwa [List.length_cons, show k + (ds.length + 1) = k + 1 + ds.length by omega]
    · dsimp only
      refine (wr_compLI (k := k + 1) (I := I) (by omega) (fun i d acc S hd hi => ?_) i2).mono ?_
      · have := h (i + 1) d acc S (by simpa using hd) (by rwa [show k + (i + 1) = k + 1 + i by omega])
        rwa [show k + (i + 1) + 1 = k + 1 + i + 1 by omega] at this
      · rintro r S3 ⟨e, i3⟩
        refine ⟨by simp at e ⊢; omega, ?_⟩
        rwa [List.length_cons, show k + (ds.length + 1) = k + 1 + ds.length by omega]
theorem wr_compI {m : Bool} {own : List Nat} {tg : MG} {it : MT} {cond : MC} {elt : ME} {ds : List D} {S1 : Sto} {Q : D → Sto → Prop} {I : Nat → List D → Sto → Prop} (hz : ds.length ≤ sizeLine) (hi : evI cf gl σ it S = .ok (.items ds) S1)
    (h : ∀ i d acc S, ds[i]? = some d → I i acc S → Wr (evG cf gl (wipeD σ own) tg d S) fun σ2 S => Wr (evT cf gl σ2 cond S) fun b S => (b = true → Wr (evE cf gl σ2 elt S) fun y S' => I (i + 1) (acc ++ [y]) S') ∧ (b = false → I (i + 1) acc S)) (h0 : I 0 [] S1)
    (hq : ∀ r S, r.length ≤ ds.length → I ds.length r S → Wr (mkList m r S) Q) :
    Wr (evE cf gl σ (.comp m own tg it cond elt) S) Q := by
  rw [evE]
  refine Wr_bnd (Wr.of hi ?_)
  dsimp only
  refine Wr_bnd ((wr_compLI (k := 0) (I := I) (by simpa using hz) (fun i d acc S hd hi => ?_) h0).mono ?_)
  · rw [Nat.zero_add] at hi ⊢
    refine Wr_bnd ((h i d acc S hd hi).mono fun σ2 S2 h2 => ?_)
    refine Wr_bnd (h2.mono fun b S3 h3 => ?_)
    cases b with
    | true =>
      rw [if_pos rfl]
      refine Wr_bnd ((h3.1 rfl).mono fun y S4 h4 => ?_)
      rw [ret_app, Wr_ok]
      exact .inl ⟨y, rfl, h4⟩
    | false =>
      rw [if_neg (by decide), ret_app, Wr_ok]
      exact .inr ⟨rfl, h3.2 rfl⟩
  · rintro r S2 ⟨e, i2⟩
    exact hq r S2 (by simpa using e) (by simpa using i2)
end
end MI
set_option Elab.async false
set_option linter.all false
set_option maxRecDepth 100000
set_option maxHeartbeats 4000000
namespace K12
open PySem PyProof.Rows L2 MI
/-- some words -/
def WordsD (lo hi : Nat) (d : D) : Prop := ∃ ws : List (List Nat), d = .lst (ws.map .str) ∧ lo ≤ ws.length ∧ ws.length ≤ hi ∧ ∀ x ∈ ws, WordL x
theorem b_texts_eq : b_law_texts = [(.asg (.name 2) (.str small)),
    (.asg (.name 3) (.call "_law_draw" [(.var 0), (.int (3))])),
    (.asg (.name 4) (.call "_law_draw" [(.var 0), (.int (26))])),
    (.asg (.name 5) (.mth false (.str []) "join" [(.comp false [6] (.name 6) (.it (.blt false "range" [(.int (8))])) (.val (.bl true)) (.idx (.var 2) (.call "_law_draw" [(.var 0), (.int (26))])))])),
    (.asg (.name 7) (.call "_law_draw" [(.var 0), (.int (8))])),
    (.asg (.name 8) (.lst true [])),
    (.for (.name 6) (.it (.blt false "range" [(.int (26))])) texts_b),
    (.ret (.slc false (.var 8) .no (.at (.var 1))))] := rfl
theorem two_le {α : Type} {xs : List α} {x y : α} (hx : x ∈ xs) (hy : y ∈ xs) (h : x ≠ y) : 2 ≤ xs.length := by
  match xs, hx, hy with
  | [a], hx, hy =>
    rw [List.mem_singleton] at hx hy
    exact absurd (hx.trans hy.symm) h
  | a :: b :: r, _, _ => simp
theorem texts_ok {k n l m : Nat} {S : Sto} (hd : Deck (n + 11) l S) (hm : m ≤ 8) (hm2 : 2 ≤ m) : Wr (callN T gl (k + 2) "_law_texts" [.loc l, .int (m : Int)] S) (Drawn n l S (WordsD 2 m)) := by
  refine wr_call T_law_texts rfl ?_
  show Wr (exSs _ gl b_law_texts _ S) _
  rw [b_texts_eq]
  refine wr_cons (S2 := S) (σ2 := [some (.loc l), some (.int m), some (.str small), none, none, none, none, none, none, none, none]) (by simp) ?_
  simp only [exSs_cons, exS_asg, evE_call, evEs_cons, evEs_nil, evE_var, evE_int, getV_0, getV_s, ofO_some, then_ok, bnd_app, ret_app, evG_name, Wr_then, Wr_ok, List.set_cons_zero, List.set_cons_succ]
  refine (draw_ok (n := n + 10) hd (by decide) (by decide)).mono ?_
  rintro d S1 ⟨d1, c1, w, rfl, hw⟩
  try simp only [Wr_ok, Wr_then]
  refine (draw_ok (n := n + 9) d1 (by decide) (by decide)).mono ?_
  rintro d S2 ⟨d2, c2, t, rfl, ht⟩
  try simp only [Wr_ok, Wr_then]
  refine (word_ok (n := n + 1) (k := k) d2).mono ?_
  rintro d S3 ⟨d3, c3, st, h8, hst, rfl⟩
  try simp only [bnd_app, evG_name, then_ok, ret_app, Wr_ok, evE_var, exSs_cons, exS_asg, evE_call, evEs_cons, evEs_nil, Wr_then, getV_0, getV_s, ofO_some, evE_int, List.set_cons_succ, List.set_cons_zero]
  refine (draw_ok (n := n) d3 (by decide) (by decide)).mono ?_
  rintro d S4 ⟨d4, c4, a, rfl, ha⟩
  simp [mkList_t]
  have hf : (S4 ++ [O.lst []])[S4.length]? = some (.lst []) := by simp
  have hS : S.length ≤ S4.length := (c1.trans (c2.trans (c3.trans c4))).len
  refine (texts_l (kk := k) (l := l) (m := m) (o6 := none) (o9 := none) (o10 := none) h8 hst (by omega) (by omega) (by omega) hf).mono ?_
  rintro ⟨fl, σ⟩ S5 ⟨e, ⟨o6', o9', o10', fs, e2, g1, g2⟩, c5⟩
  simp only at e e2
  subst e e2
  have gl8 : slcM false (.loc S4.length) none (some (m : Int)) S5 = .ok (.lst ((fs.take m).map .str)) S5 := by
    show bnd (look fun S => MI.listOf S _) _ S5 = _
    rw [bnd_t (look_t (k := fs.map .str) (by simp only [MI.listOf, g1])), cut_take, ← List.map_take]
    refine mkList_f ?_
    rw [sz]
    simp
    omega
  simp [Wenv, gl8]
  have cd : Chg [S4.length] S4 S5 := (Chg.app (τ := [O.lst []])).trans c5
  have cc : Chg [l] S S5 := (c1.trans (c2.trans (c3.trans c4))).new (ms := [S4.length]) cd (by simp [hS])
  refine ⟨d4.chg cd (by have := d4.lt; simp; omega), cc, fs.take m, by rw [List.map_take], ?_, by simp; omega, fun x hx => g2.wd x (List.mem_of_mem_take hx)⟩
  obtain ⟨i, hi, j, hj, k1, k2, k3⟩ := wD_two (way := w) (first := t) (at_ := a) h8 (by omega) (by omega)
  have := two_le (g2.has i hi k1) (g2.has j hj k2) k3
  simp
  omega
/-- texts of at most 8 signs -/
def TxtOk (x : List Nat) : Prop := x.length ≤ 8 ∧ ∀ c ∈ x, c < 128
def Txts (d : D) : Prop := ∃ ws : List (List Nat), d = .lst (ws.map .str) ∧ ws ≠ [] ∧ ws.length ≤ 8 ∧ ∀ x ∈ ws, TxtOk x
theorem WordL.txt {w : List Nat} (h : WordL w) : TxtOk w := ⟨h.2.1, fun c hc => by have := h.2.2 c hc; unfold Sm at this; omega⟩
def VocD (d : D) : Prop := ∃ a b c : D, d = .tup [a, b, c] ∧ Txts a ∧ Txts b ∧ Txts c
theorem up_small {c : Nat} (h : Sm c) : upS [c] = [c - 32] := by
  have : ∀ c ∈ small, upS [c] = [c - 32] := by decide +kernel
  exact this c (of_small h)
theorem evens_map {α β : Type} (f : α → β) : ∀ xs : List α, evens (xs.map f) = (evens xs).map f
  | [] => rfl
  | [x] => rfl
  | x :: y :: r => by
    show f x :: evens (r.map f) = f x :: (evens r).map f
    rw [evens_map f r]
theorem evens_mem {α : Type} {z : α} : ∀ {xs : List α}, z ∈ evens xs → z ∈ xs
  | [], h => h
  | [x], h => h
  | x :: y :: r, h => by
    rcases List.mem_cons.mp (show z ∈ x :: evens r from h) with rfl | h
    · exact List.mem_cons_self
    · exact List.mem_cons_of_mem _ (List.mem_cons_of_mem _ (evens_mem h))
theorem evens_ne {α : Type} : ∀ {xs : List α}, xs ≠ [] → evens xs ≠ []
  | [], h => h
  | [x], h => h
  | x :: y :: r, h => by simp [evens]
theorem step_ok {k : Nat} {ws : List (List Nat)} {S : Sto} (hz : ws.length ≤ 100) : stepM false k [.lst (ws.map .str)] S = .ok (.lst ((evens (ws.drop k)).map .str)) S := by
  show bnd (look fun S => MI.listOf S (.lst (ws.map .str))) _ S = _
  rw [bnd_t (look_t (k := ws.map D.str) rfl), ← List.map_drop, evens_map]
  refine mkList_f ?_
  have := evens_len (ws.drop k)
  rw [List.length_drop] at this
  rw [List.length_map, sz]
  omega
theorem ssM_ok {ws : List (List Nat)} {S : Sto} (hz : ws.length ≤ 100) : ssetM false [.lst (ws.map .str)] S = .ok (.lst ((ssort ws).map .str)) S := by
  show bnd (look fun S => (MI.listOf S (.lst (ws.map .str))).bind strsOf) _ S = _
  rw [bnd_t (look_t (k := ws) (by show (some (ws.map .str)).bind strsOf = _; rw [Option.bind_some, strsOf_map])), gd_t (decide_eq_true (by omega))]
  refine mkList_f ?_
  have := STX.ssort_len ws
  rw [List.length_map, sz]
  omega
@[simp] theorem bm_ev0 {m : Bool} {vs : List D} : bltM m "evens 0" vs = stepM m 0 vs := by unfold bltM; rfl
@[simp] theorem bm_ev1 {m : Bool} {vs : List D} : bltM m "evens 1" vs = stepM m 1 vs := by unfold bltM; rfl
@[simp] theorem bm_sset {m : Bool} {vs : List D} : bltM m "sorted set" vs = ssetM m vs := by unfold bltM; rfl
theorem words_ok {k n l : Nat} {S : Sto} (hd : Deck (n + 22) l S) : Wr (callN T gl (k + 3) "_law_words" [.loc l] S) (Drawn n l S VocD) := by
  refine wr_call T_law_words rfl ?_
  simp [b_law_words]
  refine (texts_ok (n := n + 11) (m := 8) hd (by decide) (by decide)).mono ?_
  rintro d S1 ⟨d1, c1, ws, rfl, w1, w2, w3⟩
  have hcall : Wr (callN T gl (k + 2) "_law_texts" [.loc l, .int 6] S1) (Drawn n l S1 (WordsD 2 6)) := texts_ok (n := n) (m := 6) d1 (by decide) (by decide)
  obtain ⟨d, S2, ecall, d2, c2, vs, rfl, v1, v2, v3⟩ := hcall
  have hz2 : vs.length ≤ sizeLine := by rw [sz]; omega
  refine wr_comp (ds := vs.map .str) (S1 := S2) (I := fun i acc S' => S' = S2 ∧ ∃ us : List (List Nat), acc = us.map .str ∧ us.length = i ∧ ∀ x ∈ us, TxtOk x) (by simpa using hz2) (by simp [ecall]) ?_ ⟨rfl, [], rfl, rfl, by simp⟩ ?_
  · rintro i d acc S' hd ⟨rfl, us, rfl, u1, u2⟩
    rw [List.getElem?_map] at hd
    obtain ⟨v, hv, rfl⟩ := Option.map_eq_some_iff.mp hd
    have hw : WordL v := v3 v (List.mem_of_getElem? hv)
    match v, hw with
    | [], hw => exact absurd rfl hw.1
    | c :: r, hw =>
      have hz : (c :: r).length ≤ sizeLine := by have := hw.2.1; rw [sz]; omega
      have e1 : cut (c :: r) none (some 1) = [c] := cut_take (i := 1)
      have e2 : cut (c :: r) (some 1) none = r := cut_drop (i := 1)
      have hc : Sm c := hw.2.2 c List.mem_cons_self
      have e3 : uppM (.str [c]) [] S' = .ok (.str [c - 32]) S' := by
        show gd _ _ S' = _
        rw [gd_t (by simp), up_small hc]
        rfl
      have e4 : binM false .Add (.str [c - 32]) (.str r) S' = .ok (.str ((c - 32) :: r)) S' := add_str (by simpa using hz)
      simp [wipeD, slc_str hz, e1, e2, e3, e4]
      refine ⟨us ++ [(c - 32) :: r], by simp, by simp [u1], fun x hx => ?_⟩
      rcases List.mem_append.mp hx with hx | hx
      · exact u2 x hx
      · rw [List.mem_singleton] at hx
        subst hx
        have h8 := hw.2.1
        refine ⟨by simpa using h8, fun y hy => ?_⟩
        unfold Sm at hc
        rcases List.mem_cons.mp hy with rfl | hy
        · omega
        · have := hw.2.2 y (List.mem_cons_of_mem _ hy)
          unfold Sm at this
          omega
  · rintro r S' hr ⟨rfl, us, rfl, u1, u2⟩
    have hu : us.length = vs.length := by simpa using u1
    rw [mkList_f (by rw [List.length_map, sz]; omega)]
    have hl := STX.ssort_len us
    have hne : ssort us ≠ [] := fun e => by
      obtain ⟨x, hx⟩ : ∃ x, x ∈ us := by
        cases us with
        | nil => simp at hu; omega
        | cons x r => exact ⟨x, List.mem_cons_self⟩
      have := STX.mem_ssort.mpr hx
      rw [e] at this
      cases this
    simp [step_ok (k := 0) (ws := ws) (S := S') (by omega), step_ok (k := 1) (ws := ws) (S := S') (by omega), ssM_ok (ws := us) (S := S') (by omega), sz]
    have el := evens_len ws
    have el1 := evens_len (ws.drop 1)
    rw [List.length_drop] at el1
    refine ⟨d2, c1.trans c2, _, _, _, rfl, ⟨evens ws, rfl, evens_ne fun e => ?_, by omega, fun x hx => (w3 x (evens_mem hx)).txt⟩, ⟨ssort us, rfl, hne, by omega, fun x hx => u2 x (STX.mem_ssort.mp hx)⟩, ⟨evens (ws.drop 1), by rw [List.drop_one], evens_ne fun e => ?_, by omega, fun x hx => (w3 x (List.mem_of_mem_drop (evens_mem hx))).txt⟩⟩
    · rw [e] at w1; simp at w1
    · have := congrArg List.length e
      rw [List.length_drop, List.length_nil] at this
      omega
end K12
set_option Elab.async false
set_option linter.all false
set_option maxRecDepth 100000
set_option maxHeartbeats 2000000
namespace K12
open PySem PyProof.Rows L2 MI
/-- the numbers that are left -/
def Left (l : Nat) (S : Sto) : Prop := ∃ xs : List Nat, S[l]? = some (.lst (xs.map fun x => .int (x : Nat))) ∧ xs.length ≤ 12 ∧ ∀ x ∈ xs, x ≤ 1000099
theorem Left.lt {l : Nat} {S : Sto} (h : Left l S) : l < S.length := by
  obtain ⟨xs, e, r⟩ := h
  exact lt_sto e
theorem Left.chg {l : Nat} {ls : List Nat} {S S' : Sto} (h : Left l S) (c : Chg ls S S') (hl : l ∉ ls) : Left l S' := by
  obtain ⟨xs, e, r⟩ := h
  exact ⟨xs, c.get e hl, r⟩
theorem lenM_loc {l : Nat} {xs : List D} {S : Sto} (e : S[l]? = some (.lst xs)) (h : xs.length ≤ sizeLine) : lenM [.loc l] S = .ok (.int (xs.length : Int)) S := by
  show bnd (look fun S => lenOf S (.loc l)) _ S = _
  rw [bnd_t (look_t (k := xs.length) (by simp only [lenOf, seqOf, e]; rfl)), gd_t (decide_eq_true h)]
  rfl
theorem erase_map {α β : Type} (f : α → β) : ∀ (xs : List α) (i : Nat), (xs.map f).eraseIdx i = (xs.eraseIdx i).map f
  | [], _ => rfl
  | x :: xs, 0 => rfl
  | x :: xs, i + 1 => by simp [erase_map f xs i]
theorem pow_lit {m : Bool} {S : Sto} : binM m .Pow (.int 10) (.int 6) S = .ok (.int 1000000) S := rfl
theorem figures_ok' {k n l : Nat} {S : Sto} (hd : Deck (n + 15) l S) : Wr (callN T gl (k + 2) "_law_figures" [.loc l] S) fun d S' => Deck n l S' ∧ Chg [l] S S' ∧ ∃ l2, d = .loc l2 ∧ S.length ≤ l2 ∧ ∃ xs : List Nat, S'[l2]? = some (.lst (xs.map fun x => .int (x : Nat))) ∧ xs.length = 12 ∧ ∀ x ∈ xs, x ≤ 1000099 := by
  refine wr_call T_law_figures rfl ?_
  simp [b_law_figures, pow_lit, mkList_f, sz]
  refine (draw_ok (n := n + 14) hd (by decide) (by decide)).mono ?_
  rintro d S1 ⟨d1, c1, v, rfl, hv⟩
  obtain ⟨x0, hx, hx2⟩ : ∃ x : Nat, ([.int 0, .int 0, .int 7, .int 95, .int 998, .int 1000000] : List D)[v]? = some (.int (x : Nat)) ∧ x ≤ 1000000 := by
    match v, hv with
    | 0, _ => exact ⟨0, rfl, by decide⟩
    | 1, _ => exact ⟨0, rfl, by decide⟩
    | 2, _ => exact ⟨7, rfl, by decide⟩
    | 3, _ => exact ⟨95, rfl, by decide⟩
    | 4, _ => exact ⟨998, rfl, by decide⟩
    | 5, _ => exact ⟨1000000, rfl, by decide⟩
    | v + 6, hv => omega
  rw [idx_lst hx]
  simp
  refine (draw_ok (n := n + 13) d1 (by decide) (by decide)).mono ?_
  rintro d Sa ⟨da, ca, va, rfl, hva⟩
  obtain ⟨x, hxe, hx3⟩ : ∃ x : Nat, (x0 : Int) + (va : Int) = (x : Int) ∧ x ≤ 1000003 := ⟨x0 + va, by omega, by omega⟩
  simp [hxe]
  refine (draw_ok (n := n + 12) da (by decide) (by decide)).mono ?_
  rintro d S2 ⟨d2, c2', v2, rfl, hv2⟩
  have c2 := ca.trans c2'
  obtain ⟨y, hye, hy2⟩ : ∃ y : Nat, (1 : Int) + (v2 : Int) = (y : Int) ∧ y ≤ 3 := ⟨1 + v2, by omega, by omega⟩
  simp [hye]
  refine wr_comp (ds := intsUp 0 12) (S1 := S2) (I := fun i acc S' => S' = S2 ∧ ∃ us : List Nat, acc = us.map (fun x => .int (x : Nat)) ∧ us.length = i ∧ ∀ x ∈ us, x ≤ 1000099) (by decide) (by simp [rng_at]) ?_ ⟨rfl, [], rfl, rfl, by simp⟩ ?_
  · rintro i d acc S' hd ⟨rfl, us, rfl, u1, u2⟩
    obtain ⟨rfl, hi⟩ := intsUp_get hd
    have em : binM false .Mult (.int (y : Int)) (.int (i : Int)) S' = .ok (.int ((y : Int) * (i : Int))) S' := mul_ok (by omega) (by omega) (by omega) (by omega)
    have hyi : y * i ≤ 3 * 11 := Nat.mul_le_mul hy2 (by omega)
    simp [wipeD, em]
    refine ⟨us ++ [x + y * i], by simp, by simp [u1], fun z hz => ?_⟩
    rcases List.mem_append.mp hz with hz | hz
    · exact u2 z hz
    · rw [List.mem_singleton] at hz
      omega
  · rintro r S' hr ⟨rfl, us, rfl, u1, u2⟩
    have hu : us.length = 12 := u1
    rw [mkList_t (by rw [sz]; simp; omega)]
    have hl : (S' ++ [O.lst (us.map fun x => .int (x : Nat))])[S'.length]? = some (.lst (us.map fun x => .int (x : Nat))) := by simp
    have hc0 : Chg [S'.length] S' (S' ++ [O.lst (us.map fun x => .int (x : Nat))]) := Chg.app
    have dl := d2.lt
    simp
    refine wr_comp (ds := intsUp 0 12) (S1 := S' ++ [O.lst (us.map fun x => .int (x : Nat))]) (I := fun i acc T => (i ≤ 12 → Deck (n + (12 - i)) l T) ∧ Chg [l, S'.length] S' T ∧ (∃ us : List Nat, T[S'.length]? = some (.lst (us.map fun x => .int (x : Nat))) ∧ us.length + i = 12 ∧ ∀ x ∈ us, x ≤ 1000099) ∧ ∃ vs : List Nat, acc = vs.map (fun x => .int (x : Nat)) ∧ vs.length = i ∧ ∀ x ∈ vs, x ≤ 1000099) (by decide) (by simp [rng_at]) ?_ ⟨fun _ => d2.chg hc0 (by simp; omega), hc0.mono (by simp), ⟨us, hl, by omega, u2⟩, [], rfl, rfl, by simp⟩ ?_
    · rintro i d acc S3 hd ⟨i1, i2, ⟨ts, t1, t2, t3⟩, vs, rfl, v1, v2⟩
      obtain ⟨rfl, hi⟩ := intsUp_get hd
      have hD : Deck (n + (12 - (i + 1)) + 1) l S3 := (i1 (by omega)).mono (by omega)
      have hL := lenM_loc t1 (by rw [sz]; simp; omega)
      rw [List.length_map] at hL
      simp [wipeD, tyOf_loc t1, hL]
      refine (draw_ok hD (by omega) (by omega)).mono ?_
      rintro d S4 ⟨d4, c4, w, rfl, hw⟩
      have hw' : w < ts.length := by omega
      have t4 : S4[S'.length]? = some (.lst (ts.map fun x => .int (x : Nat))) := c4.get t1 (by simp; omega)
      have hp : popM (.loc S'.length) [.int (w : Int)] S4 = .ok (.int (ts[w] : Nat)) (S4.set S'.length (.lst ((ts.map fun x => D.int (x : Nat)).eraseIdx w))) := by
        refine popAt_loc t4 (by omega) ?_ (by simp [hw']) (by rw [sz]; simp; omega)
        unfold ixN
        rw [if_pos (by omega), if_pos (by simp; omega)]
        simp
      rw [hp]
      simp
      refine ⟨fun _ => (d4.mono (by omega)).chg (Chg.set (l := S'.length) (ls := [S'.length]) (by simp)) (by simp; omega), (i2.trans (c4.mono (by simp))).trans (Chg.set (by simp)), ⟨ts.eraseIdx w, ?_, ?_, fun x hx => t3 x (List.mem_of_mem_eraseIdx hx)⟩, vs ++ [ts[w]], by simp, by simp [v1], ?_⟩
      · rw [set_self t4, erase_map]
      · rw [List.length_eraseIdx_of_lt hw']
        omega
      · intro z hz
        rcases List.mem_append.mp hz with hz | hz
        · exact v2 z hz
        · rw [List.mem_singleton] at hz
          exact hz ▸ t3 _ (List.getElem_mem hw')
    · rintro r S3 hr ⟨i1, i2, ⟨ts, t1, t2, t3⟩, vs, rfl, v1, v2⟩
      have hv12 : vs.length = 12 := v1
      rw [mkList_t (by rw [sz]; simp; omega)]
      have hc3 : Chg [] S3 (S3 ++ [O.lst (vs.map fun x => .int (x : Nat))]) := Chg.app
      simp
      have cA : Chg [l] S S3 := (c1.trans c2).new i2 (by have := (c1.trans c2).len; simp; omega)
      refine ⟨(i1 (by simp)).chg hc3 (by simp), cA.trans (hc3.mono (by simp)), cA.len, vs, by simp, hv12, v2⟩
theorem figures_ok {k n l : Nat} {S : Sto} (hd : Deck (n + 15) l S) : Wr (callN T gl (k + 2) "_law_figures" [.loc l] S) fun d S' => Deck n l S' ∧ Chg [l] S S' ∧ ∃ l2, d = .loc l2 ∧ S.length ≤ l2 ∧ Left l2 S' :=
  (figures_ok' hd).mono fun d S' ⟨h1, h2, l2, h3, h4, xs, x1, x2, x3⟩ => ⟨h1, h2, l2, h3, h4, xs, x1, by omega, x3⟩
end K12
set_option Elab.async false
set_option linter.all false
set_option maxRecDepth 100000
set_option maxHeartbeats 2000000
namespace K12
open PySem PyProof.Rows L2 MI
abbrev sIs : List Nat := [105, 115]
abbrev sCalled : List Nat := [99, 97, 108, 108, 101, 100]
abbrev sDoes : List Nat := [100, 111, 101, 115]
abbrev sOf : List Nat := [111, 102]
abbrev sNot : List Nat := [110, 111, 116]
abbrev sIf : List Nat := [105, 102]
abbrev sOr : List Nat := [111, 114]
open PySem PyProof.Rows L2 MI
theorem py_ints {f : Nat → Option PyData} : ∀ ts : List Int, toPysA f (ts.map .int) = some (ts.map .int)
  | [] => by simp [toPysA]
  | t :: ts => by simp [toPysA, toPyA, py_ints ts]
theorem lay_ints : ∀ ts : List Int, PyData.canLayAll0 (ts.map .int) = true
  | [] => rfl
  | t :: ts => by simp [PyData.canLayAll0, PyData.canLay0, lay_ints ts]
theorem dep_ints : ∀ ts : List Int, PyData.depthAll (ts.map .int) = 0
  | [] => rfl
  | t :: ts => by simp [PyData.depthAll, PyData.depth, dep_ints ts]
theorem eqv_ints : ∀ ts : List Int, PyData.eqvAll (ts.map .int) [] = ts.isEmpty
  | [] => rfl
  | t :: ts => rfl
theorem eqM_lst0 {ts : List Int} {S : Sto} : eqM (.lst (ts.map .int)) (.lst []) S = .ok ts.isEmpty S := by
  unfold eqM
  rw [bnd_t (look_t (k := PyData.list (ts.map .int)) (by simp [toPy, toPyA, py_ints])), bnd_t (look_t (k := PyData.list []) (by simp [toPy, toPyA, toPysA])), gd_t (by simp [SeqAt.shaped, PyData.canLay0, lay_ints, PyData.depth, dep_ints, PyData.canLayAll0, PyData.depthAll])]
  show MI.R.ok (PyData.eqvAll (ts.map .int) []) S = _
  rw [eqv_ints]
theorem eqM_tup0 {ts : List Int} {S : Sto} : eqM (.tup (ts.map .int)) (.tup []) S = .ok ts.isEmpty S := by
  unfold eqM
  rw [bnd_t (look_t (k := PyData.tuple (ts.map .int)) (by simp [toPy, toPyA, py_ints])), bnd_t (look_t (k := PyData.tuple []) (by simp [toPy, toPyA, toPysA])), gd_t (by simp [SeqAt.shaped, PyData.canLay0, lay_ints, PyData.depth, dep_ints, PyData.canLayAll0, PyData.depthAll])]
  show MI.R.ok (PyData.eqvAll (ts.map .int) []) S = _
  rw [eqv_ints]
theorem eqM_int {i j : Int} {S : Sto} : eqM (.int i) (.int j) S = .ok (decide (i = j)) S := by
  unfold eqM
  rw [bnd_t (look_t (k := PyData.int i) (by simp [toPy, toPyA])), bnd_t (look_t (k := PyData.int j) (by simp [toPy, toPyA])), gd_t (by simp [SeqAt.shaped, PyData.canLay0, PyData.depth])]
  rfl
@[simp] theorem cmp_eqi {i j : Int} {S : Sto} : cmpM .Eq (.int i) (.int j) S = .ok (.bl (decide (i = j))) S := by
  show bnd (eqM (.int i) (.int j)) _ S = _
  rw [bnd_t eqM_int]
  rfl
@[simp] theorem cmp_nei {i j : Int} {S : Sto} : cmpM .NotEq (.int i) (.int j) S = .ok (.bl (!decide (i = j))) S := by
  show bnd (bnd (eqM (.int i) (.int j)) _) _ S = _
  rw [bnd_app, bnd_app, eqM_int]
  rfl
@[simp] theorem cmp_eqs {i j : List Nat} {S : Sto} : cmpM .Eq (.str i) (.str j) S = .ok (.bl (decide (i = j))) S := by
  show MI.R.ok (D.bl (i == j)) S = _
  rw [show (i == j) = decide (i = j) by rw [Bool.eq_iff_iff]; simp]
@[simp] theorem cmp_nes {i j : List Nat} {S : Sto} : cmpM .NotEq (.str i) (.str j) S = .ok (.bl (!decide (i = j))) S := by
  show MI.R.ok (D.bl (!(i == j))) S = _
  rw [show (i == j) = decide (i = j) by rw [Bool.eq_iff_iff]; simp]
@[simp] theorem cmp_eqt {ts : List Int} {S : Sto} : cmpM .Eq (.tup (ts.map .int)) (.tup []) S = .ok (.bl ts.isEmpty) S := by
  show bnd (eqM _ _) _ S = _
  rw [bnd_t eqM_tup0]
  rfl
@[simp] theorem cmp_nel {ts : List Int} {S : Sto} : cmpM .NotEq (.lst (ts.map .int)) (.lst []) S = .ok (.bl (!ts.isEmpty)) S := by
  show bnd (bnd (eqM _ _) _) _ S = _
  rw [bnd_app, bnd_app, eqM_lst0]
  rfl
/-- a figure; a plain saying's part; a plain saying -/
def Fig (d : D) : Prop := ∃ x : Nat, d = .int x ∧ x ≤ 1000099
def Leaf (d : D) : Prop := Fig d ∨ ∃ x, d = .str x ∧ TxtOk x
def PLw : List (List Nat) := [sIs, sCalled, sOf, sDoes]
def PlainD (d : D) : Prop := ∃ w rest, d = .tup (.str w :: rest) ∧ w ∈ PLw ∧ rest.length ≤ 3 ∧ ∀ x ∈ rest, Leaf x
theorem Txts.pick {k n l : Nat} {d : D} {S : Sto} (h : Txts d) (hd : Deck (n + 1) l S) : Wr (callN T gl (k + 2) "_law_pick" [.loc l, d] S) (Drawn n l S fun d => ∃ x, d = .str x ∧ TxtOk x) := by
  obtain ⟨ws, rfl, w0, w1, w2⟩ := h
  refine (pick_ok hd (by simpa using w0) (by rw [sz]; simp; omega)).mono ?_
  rintro d S' ⟨d1, c1, hm⟩
  obtain ⟨x, hx, rfl⟩ := List.mem_map.mp hm
  exact ⟨d1, c1, x, rfl, w2 x hx⟩
theorem add_lst {xs ys : List D} {S : Sto} (h : (xs ++ ys).length ≤ sizeLine) : binM false .Add (.lst xs) (.lst ys) S = .ok (.lst (xs ++ ys)) S := by
  show bnd (look fun S => MI.listOf S (.lst xs)) _ S = _
  rw [bnd_t (look_t (k := xs) rfl), bnd_t (look_t (k := ys) rfl)]
  exact mkList_f h
theorem plain_ok {k n l : Nat} {v : D} {ts : List D} {S : Sto} (hd : Deck (n + 7) l S) (hv : VocD v) (h0 : ts ≠ []) (hz : ts.length ≤ sizeLine) (ht : ∀ t ∈ ts, Fig t) :
    Wr (callN T gl (k + 3) "_law_plain" [.loc l, .lst ts, v] S) (Drawn n l S PlainD) := by
  obtain ⟨a, b, c, rfl, ha, hb, hc⟩ := hv
  refine wr_call T_law_plain rfl ?_
  unfold b_law_plain
  simp only [List.map_cons, List.map_nil, List.length_cons, List.length_nil, List.replicate, List.cons_append, List.nil_append, exSs_cons, exS_asg, exS_par, evE_call, evEs_cons, evEs_nil, evE_var, evE_int, getV_0, getV_s, ofO_some, then_ok, bnd_app, ret_app, evG_name, Wr_then, Wr_ok, List.set_cons_zero, List.set_cons_succ]
  refine (pick_ok (n := n + 6) hd h0 hz).mono ?_
  rintro x S1 ⟨d1, c1, hx⟩
  try simp only [Wr_ok, Wr_then]
  refine (pick_ok (n := n + 5) d1 h0 hz).mono ?_
  rintro y S2 ⟨d2, c2, hy⟩
  have fx := ht x hx
  have fy := ht y hy
  have i0 : ∀ S, idxM (.tup [a, b, c]) (.int 0) S = .ok a S := fun S => idx_tup (i := 0) rfl
  have i1 : ∀ S, idxM (.tup [a, b, c]) (.int 1) S = .ok b S := fun S => idx_tup (i := 1) rfl
  have i2 : ∀ S, idxM (.tup [a, b, c]) (.int 2) S = .ok c S := fun S => idx_tup (i := 2) rfl
  try simp [i0, i1, i2, sz]
  refine (ha.pick (n := n + 4) d2).mono ?_
  rintro z1 S3 ⟨d3, c3, hz1⟩
  try simp [i0, i1, i2, sz, mkTup_ok]
  refine (hb.pick (n := n + 3) d3).mono ?_
  rintro z2 S4 ⟨d4, c4, hz2⟩
  try simp [i0, i1, i2, sz, mkTup_ok, mkList_f]
  refine (hc.pick (n := n + 2) d4).mono ?_
  rintro z3 S5 ⟨d5, c5, hz3⟩
  try simp [i0, i1, i2, sz, mkTup_ok, mkList_f]
  refine (hc.pick (n := n + 1) d5).mono ?_
  rintro z4 S6 ⟨d6, c6, hz4⟩
  try simp [i0, i1, i2, sz, mkTup_ok, mkList_f, add_lst]
  refine (pick_ok (n := n) d6 (by simp) (by rw [sz]; simp)).mono ?_
  rintro s S7 ⟨d7, c7, hs⟩
  try simp only [Wr_ok, Qe_ret]
  refine ⟨d7, c1.trans (c2.trans (c3.trans (c4.trans (c5.trans (c6.trans c7))))), ?_⟩
  have mk : ∀ (u : List Nat) (rest : List D), u ∈ PLw → rest.length ≤ 3 → (∀ x ∈ rest, Leaf x) → s = .tup (.str u :: rest) → PlainD s := fun u rest h1 h2 h3 e => ⟨u, rest, e, h1, h2, h3⟩
  simp only [List.mem_cons, List.not_mem_nil, or_false] at hs
  rcases hs with e | e | e | e | e
  · exact mk _ _ (by decide) (by simp) (by simp; exact ⟨.inr hz1, .inl fx⟩) e
  · exact mk _ _ (by decide) (by simp) (by simp; exact ⟨.inr hz2, .inl fx⟩) e
  · exact mk _ _ (by decide) (by simp) (by simp; exact ⟨.inl fx, .inl fy⟩) e
  · exact mk _ _ (by decide) (by simp) (by simp; exact ⟨.inr hz3, .inl fx⟩) e
  · exact mk _ _ (by decide) (by simp) (by simp; exact ⟨.inr hz4, .inl fx, .inl fy⟩) e
end K12
set_option Elab.async false
set_option linter.all false
set_option maxRecDepth 100000
set_option maxHeartbeats 2000000
namespace K12
open PySem PyProof.Rows L2 MI
mutual
/-- how many parts there are -/
def nod : D → Nat
  | .tup xs => nods xs + 1
  | .lst xs => nods xs + 1
  | .ktup xs => nods xs + 1
  | .non => 1 | .bl _ => 1 | .int _ => 1 | .str _ => 1 | .dct _ _ => 1 | .scr _ => 1 | .loc _ => 1 | .fn _ => 1 | .ty _ => 1 | .dtt _ _ => 1
def nods : List D → Nat
  | [] => 0
  | d :: ds => nod d + nods ds
end
theorem nods_app : ∀ xs ys : List D, nods (xs ++ ys) = nods xs + nods ys
  | [], ys => by simp [nods]
  | x :: xs, ys => by simp [nods, nods_app xs ys]; omega
theorem nods_one {xs : List D} (h : ∀ x ∈ xs, nod x = 1) : nods xs = xs.length := by
  induction xs with
  | nil => simp [nods]
  | cons x xs ih =>
    have h1 := h x List.mem_cons_self
    have h2 := ih fun y hy => h y (List.mem_cons_of_mem _ hy)
    simp only [nods, List.length_cons]
    omega
theorem nod_leaf {d : D} (h : Leaf d) : nod d = 1 := by
  rcases h with ⟨x, rfl, _⟩ | ⟨x, rfl, _⟩ <;> simp [nod]
theorem nod_plain {d : D} (h : PlainD d) : nod d ≤ 5 := by
  obtain ⟨w, rest, rfl, h1, h2, h3⟩ := h
  have := nods_one fun x hx => nod_leaf (h3 x hx)
  simp only [nod, nods]
  omega
abbrev nD (x : Nat) : D := .int (x : Nat)
def SayD (R : D → Prop) (s : D) : Prop := PlainD s ∨ (∃ r, s = .tup [.str sNot, r] ∧ R r) ∨ ∃ w r q, s = .tup [.str w, r, q] ∧ (w = sIf ∨ w = sOr) ∧ R r ∧ R q
def RoomD : Nat → D → Prop
  | 0, _ => False
  | n + 1, d => ∃ (gs : List Nat) (ss : List D), d = .tup [.tup (gs.map nD), .tup ss] ∧ gs.length ≤ 3 ∧ (∀ g ∈ gs, g ≤ 1000099) ∧ ss.length ≤ 12 ∧ ∀ s ∈ ss, SayD (RoomD n) s
theorem RoomD.form {n : Nat} {d : D} (h : RoomD n d) : ∃ (gs : List Nat) (ss : List D), d = .tup [.tup (gs.map nD), .tup ss] ∧ gs.length ≤ 3 ∧ (∀ g ∈ gs, g ≤ 1000099) := by
  match n, h with
  | n + 1, ⟨gs, ss, e, h1, h2, _⟩ => exact ⟨gs, ss, e, h1, h2⟩
/-- how many cards a room wants -/
def rc : Nat → Nat
  | 0 => 2 + 3 * 8
  | n + 1 => 2 + 3 * (8 + 2 * rc n)
structure St (m l ll lb : Nat) (b : Int) (S : Sto) : Prop where
  deck : Deck m l S
  left : Left ll S
  bud : S[lb]? = some (.lst [.int b])
  n1 : l ≠ ll
  n2 : l ≠ lb
  n3 : ll ≠ lb
theorem St.draw {m l ll lb : Nat} {b : Int} {S S' : Sto} (h : St m l ll lb b S) {m' : Nat} (hd : Deck m' l S') (hc : Chg [l] S S') : St m' l ll lb b S' :=
  ⟨hd, h.left.chg hc (by simp [Ne.symm h.n1]), hc.get h.bud (by simp [Ne.symm h.n2]), h.n1, h.n2, h.n3⟩
theorem St.other {m l ll lb : Nat} {b : Int} {S S' : Sto} {ls : List Nat} (h : St m l ll lb b S) (hc : Chg ls S S') (h1 : l ∉ ls) (h2 : ll ∉ ls) (h3 : lb ∉ ls) : St m l ll lb b S' :=
  ⟨h.deck.chg hc h1, h.left.chg hc h2, hc.get h.bud h3, h.n1, h.n2, h.n3⟩
theorem mul_lst {xs : List D} {k : Int} {S : Sto} (hk : 0 ≤ k ∧ k ≤ 1) (h : xs.length ≤ sizeLine) : binM false .Mult (.lst xs) (.int k) S = .ok (.lst (if k = 1 then xs else [])) S := by
  show gd _ _ S = _
  rw [gd_t (decide_eq_true (by omega)), bnd_t (look_t (k := xs) rfl)]
  have : k = 0 ∨ k = 1 := by omega
  rcases this with rfl | rfl
  · rfl
  · rw [if_pos rfl]
    show mkList false (List.replicate 1 xs).flatten S = _
    simp [h]
theorem idx_0 {x : D} {r : List D} {S : Sto} : idxM (.tup (x :: r)) (.int 0) S = .ok x S := idx_tup (i := 0) rfl
theorem idx_1 {x y : D} {r : List D} {S : Sto} : idxM (.tup (x :: y :: r)) (.int 1) S = .ok y S := idx_tup (i := 1) rfl
theorem lstM_tup {xs : List D} {S : Sto} (h : xs.length ≤ sizeLine) : lstM false [.tup xs] S = .ok (.lst xs) S := by
  show bnd (look fun S => seqOf S (.tup xs)) _ S = _
  rw [bnd_t (look_t (k := xs) rfl)]
  exact mkList_f h
theorem tupM_lst {xs : List D} {S : Sto} (h : xs.length ≤ sizeLine) : tupM [.lst xs] S = .ok (.tup xs) S := by
  show bnd (look fun S => MI.listOf S (.lst xs)) _ S = _
  rw [bnd_t (look_t (k := xs) rfl)]
  exact mkTup_ok h
theorem tupM_loc {l : Nat} {xs : List D} {S : Sto} (e : S[l]? = some (.lst xs)) (h : xs.length ≤ sizeLine) : tupM [.loc l] S = .ok (.tup xs) S := by
  show bnd (look fun S => MI.listOf S (.loc l)) _ S = _
  rw [bnd_t (look_t (k := xs) (by simp only [MI.listOf, e]))]
  exact mkTup_ok h
def RoomOk (n K : Nat) : Prop := ∀ (m l ll lb : Nat) (b : Int) (ts : List Nat) (v : D) (S : Sto), St (m + rc n) l ll lb b S → VocD v → (∀ t ∈ ts, t ≤ 1000099) → ts.length + 6 * n ≤ 40 →
  Wr (callN T gl K "_law_room" [.loc l, .int (n : Nat), .loc ll, .lst (ts.map nD), v, .loc lb] S) fun d S' => ∃ b', St m l ll lb b' S' ∧ Chg [l, ll, lb] S S' ∧ RoomD (n + 1) d ∧ nod d + 14 * b'.toNat ≤ 6 + 14 * b.toNat
def room_b1 : List MS := [(.asg (.name 10) (.call "_law_room" [(.var 0), (.bin false .Sub (.var 1) (.int (1))), (.var 2), (.var 3), (.var 4), (.var 5)])),
    (.asg (.name 11) (.tup [(.str [110, 111, 116]), (.var 10)])),
    (.ifs (.val (.cmp (.var 9) .Gt (.int (0)))) [(.asg (.name 12) (.bin false .Add (.var 3) (.bin false .Mult (.blt false "list" [(.idx (.var 10) (.int (0)))]) (.bin false .Sub (.int (2)) (.var 9))))),
    (.asg (.name 13) (.call "_law_room" [(.var 0), (.bin false .Sub (.var 1) (.int (1))), (.var 2), (.var 12), (.var 4), (.var 5)])),
    (.asg (.name 11) (.tup [(.idx (.lst false [(.str [105, 102]), (.str [111, 114])]) (.bin false .Sub (.var 9) (.int (1)))), (.var 10), (.var 13)]))] []),
    (.expr (.mth false (.var 8) "append" [(.var 11)]))]
def room_b : List MS := [(.asg (.name 9) (.call "_law_draw" [(.var 0), (.int (7))])),
    (.asg (.sub (.var 5) (.int (0))) (.bin false .Sub (.idx (.var 5) (.int (0))) (.int (1)))),
    (.ifs (.and (.val (.cmp (.idx (.var 5) (.int (0))) .GtE (.int (0)))) (.and (.val (.cmp (.var 1) .Gt (.int (0)))) (.val (.cmp (.var 9) .Lt (.int (3)))))) room_b1 [(.ifs (.and (.val (.cmp (.idx (.var 5) (.int (0))) .GtE (.int (0)))) (.val (.cmp (.var 3) .NotEq (.lst false [])))) [(.expr (.mth false (.var 8) "append" [(.call "_law_plain" [(.var 0), (.var 3), (.var 4)])]))] [])])]
/-- what stands in the slots of a room -/
def Renv (l ll lb f n : Nat) (v : D) (ts : List Nat) (fg : D) (o7 o9 o10 o11 o12 o13 : Option D) : MI.Env := [some (.loc l), some (.int (n : Nat)), some (.loc ll), some (.lst (ts.map nD)), some v, some (.loc lb), some fg, o7, some (.loc f), o9, o10, o11, o12, o13]
section
variable {n K l ll lb f w : Nat} {b : Int} {ts : List Nat} {v fg : D} {S : Sto} {o7 o10 o11 o12 o13 : Option D}
/-- a saying of rooms -/
theorem said_ok (ih : RoomOk n K) (hK : 1 ≤ K) {m : Nat} {ss : List D} (st : St (m + 2 * rc n) l ll lb b S) (hf : S[f]? = some (.lst ss)) (hss : ss.length ≤ 12) (nf : f ≠ l ∧ f ≠ ll ∧ f ≠ lb) (hv : VocD v) (ht : ∀ t ∈ ts, t ≤ 1000099) (hl : ts.length + 6 * (n + 1) ≤ 43) (hw : w < 3) :
    Wr (exSs (callN T gl K) gl room_b1 (Renv l ll lb f (n + 1) v ts fg o7 (some (.int (w : Int))) o10 o11 o12 o13) S) fun r S' => r.1 = .nx ∧ ∃ o10' o11' o12' o13' d b', r.2 = Renv l ll lb f (n + 1) v ts fg o7 (some (.int (w : Int))) o10' o11' o12' o13' ∧ St m l ll lb b' S' ∧ S'[f]? = some (.lst (ss ++ [d])) ∧ Chg [l, ll, lb, f] S S' ∧ SayD (RoomD (n + 1)) d ∧ nod d + 14 * b'.toNat ≤ 14 + 14 * b.toNat := by
  unfold room_b1 Renv
  have e1 : (((n + 1 : Nat) : Int) - 1) = (n : Nat) := by omega
  simp only [exSs_cons, exS_asg, evE_call, evEs_cons, evEs_nil, evE_var, evE_int, evE_bin, getV_0, getV_s, ofO_some, then_ok, bnd_app, ret_app, evG_name, Wr_then, Wr_ok, List.set_cons_zero, List.set_cons_succ, bin_sub, e1]
  refine (ih (m + rc n) l ll lb b ts v S ⟨st.deck.mono (by omega), st.left, st.bud, st.n1, st.n2, st.n3⟩ hv ht (by omega)).mono ?_
  rintro one S1 ⟨b1, s1, c1, r1, z1⟩
  have f1 : S1[f]? = some (.lst ss) := c1.get hf (by simp [nf])
  have ap : ∀ (s : D) (S3 : Sto), S3[f]? = some (.lst ss) → appM (.loc f) [s] S3 = .ok .non (S3.set f (.lst (ss ++ [s]))) := fun s S3 h => app_loc h (by rw [K12.sz]; omega)
  have fin : ∀ (s : D) (S3 : Sto) (b3 : Int), St m l ll lb b3 S3 → Chg [l, ll, lb] S S3 → SayD (RoomD (n + 1)) s → nod s + 14 * b3.toNat ≤ 14 + 14 * b.toNat → S3[f]? = some (.lst ss) → St m l ll lb b3 (S3.set f (.lst (ss ++ [s]))) ∧ (S3.set f (.lst (ss ++ [s])))[f]? = some (.lst (ss ++ [s])) ∧ Chg [l, ll, lb, f] S (S3.set f (.lst (ss ++ [s]))) ∧ SayD (RoomD (n + 1)) s ∧ nod s + 14 * b3.toNat ≤ 14 + 14 * b.toNat := by
    intro s S3 b3 s3 c3 hs hz h3
    exact ⟨s3.other (ls := [f]) (Chg.set (by simp)) (by simp [Ne.symm nf.1]) (by simp [Ne.symm nf.2.1]) (by simp [Ne.symm nf.2.2]), set_self h3, (c3.mono (by simp)).trans (Chg.set (by simp)), hs, hz⟩
  by_cases w0 : w = 0
  · subst w0
    have hs := fin (.tup [.str sNot, one]) S1 b1 ⟨s1.deck.mono (by omega), s1.left, s1.bud, s1.n1, s1.n2, s1.n3⟩ c1 (.inr (.inl ⟨one, rfl, r1⟩)) (by simp only [nod, nods]; omega) f1
    have a1 := ap (.tup [.str sNot, one]) S1 f1
    generalize S1.set f (.lst (ss ++ [.tup [.str sNot, one]])) = S2 at hs a1
    simp [mkTup_ok, sz, tyOf_loc f1, a1]
    exact ⟨_, _, hs.1, hs.2.1, hs.2.2.1, hs.2.2.2.1, hs.2.2.2.2⟩
  · obtain ⟨gs, ss1, e, g1, g2⟩ := r1.form
    have two : ∀ (u : List Nat) (more : List Nat), (u = sIf ∨ u = sOr) → (∀ t ∈ more, t ≤ 1000099) → more.length + 6 * n ≤ 40 →
        Wr (callN T gl K "_law_room" [.loc l, .int (n : Nat), .loc ll, .lst (more.map nD), v, .loc lb] S1) fun q S2 => appM (.loc f) [.tup [.str u, one, q]] S2 = .ok .non (S2.set f (.lst (ss ++ [.tup [.str u, one, q]]))) ∧ tyOf S2 (.loc f) = some "list" ∧ ∃ d b', d = .tup [.str u, one, q] ∧ (St m l ll lb b' (S2.set f (.lst (ss ++ [d]))) ∧ (S2.set f (.lst (ss ++ [d])))[f]? = some (.lst (ss ++ [d])) ∧ Chg [l, ll, lb, f] S (S2.set f (.lst (ss ++ [d]))) ∧ SayD (RoomD (n + 1)) d ∧ nod d + 14 * b'.toNat ≤ 14 + 14 * b.toNat) := by
      intro u more hu hm1 hm2
      refine (ih m l ll lb b1 more v S1 ⟨s1.deck.mono (by omega), s1.left, s1.bud, s1.n1, s1.n2, s1.n3⟩ hv hm1 hm2).mono ?_
      rintro q S2 ⟨b2, s2, c2, r2, z2⟩
      have f2 := c2.get f1 (by simp [nf])
      exact ⟨ap _ S2 f2, tyOf_loc f2, _, b2, rfl, fin _ S2 b2 s2 (c1.trans c2) (.inr (.inr ⟨u, one, q, rfl, hu, r1, r2⟩)) (by simp only [nod, nods]; omega) f2⟩
    have wpos : (0 : Int) < (w : Int) := by omega
    have htg : ∀ t ∈ ts ++ gs, t ≤ 1000099 := by
      intro t h
      rcases List.mem_append.mp h with h | h
      · exact ht t h
      · exact g2 t h
    have hw12 : w = 1 ∨ w = 2 := by omega
    rcases hw12 with rfl | rfl
    · have tw := two sIf (ts ++ gs) (.inl rfl) htg (by simp; omega)
      have a0 : ∀ S, binM false .Add (.lst (ts.map nD)) (.lst (gs.map nD)) S = .ok (.lst ((ts ++ gs).map nD)) S := fun S => by rw [add_lst (by rw [sz]; simp; omega), List.map_append]
      have li : lstM false [.tup (gs.map nD)] S1 = .ok (.lst (gs.map nD)) S1 := lstM_tup (by rw [sz]; simp; omega)
      have ml : binM false .Mult (.lst (gs.map nD)) (.int 1) S1 = .ok (.lst (gs.map nD)) S1 := by
        rw [mul_lst (xs := gs.map nD) (k := 1) (by omega) (by rw [sz]; simp; omega), if_pos rfl]
      have i0 : idxM one (.int 0) S1 = .ok (.tup (gs.map nD)) S1 := by rw [e]; exact idx_0
      have i2 : ∀ S, idxM (.lst [.str sIf, .str sOr]) (.int 0) S = .ok (.str sIf) S := fun S => idx_lst (i := 0) rfl
      generalize one = on at *
      generalize htm : ts.map nD = tm at *
      generalize htg' : (ts ++ gs).map nD = tg at *
      generalize gs.map nD = gm at *
      simp [mkTup_ok, sz, li, ml, i0, a0, e1]
      refine tw.mono ?_
      rintro q S2 ⟨a1, ty, d, b', rfl, hh⟩
      generalize S2.set f (.lst (ss ++ [.tup [.str sIf, on, q]])) = S3 at *
      simp [mkList_f, sz, i2, mkTup_ok, ty, a1]
      exact ⟨_, b', hh.1, hh.2.1, hh.2.2.1, hh.2.2.2.1, hh.2.2.2.2⟩
    · have tw := two sOr ts (.inr rfl) ht (by omega)
      have a0 : ∀ S, binM false .Add (.lst (ts.map nD)) (.lst []) S = .ok (.lst (ts.map nD)) S := fun S => by rw [add_lst (by rw [sz]; simp; omega), List.append_nil]
      have li : lstM false [.tup (gs.map nD)] S1 = .ok (.lst (gs.map nD)) S1 := lstM_tup (by rw [sz]; simp; omega)
      have ml : binM false .Mult (.lst (gs.map nD)) (.int 0) S1 = .ok (.lst []) S1 := by
        rw [mul_lst (xs := gs.map nD) (k := 0) (by omega) (by rw [sz]; simp; omega), if_neg (by decide)]
      have i0 : idxM one (.int 0) S1 = .ok (.tup (gs.map nD)) S1 := by rw [e]; exact idx_0
      have i2 : ∀ S, idxM (.lst [.str sIf, .str sOr]) (.int 1) S = .ok (.str sOr) S := fun S => idx_lst (i := 1) rfl
      generalize one = on at *
      generalize htm : ts.map nD = tm at *
      generalize gs.map nD = gm at *
      simp [mkTup_ok, sz, li, ml, i0, a0, e1]
      refine tw.mono ?_
      rintro q S2 ⟨a1, ty, d, b', rfl, hh⟩
      generalize S2.set f (.lst (ss ++ [.tup [.str sOr, on, q]])) = S3 at *
      simp [mkList_f, sz, i2, mkTup_ok, ty, a1]
      exact ⟨_, b', hh.1, hh.2.1, hh.2.2.1, hh.2.2.2.1, hh.2.2.2.2⟩
end
end K12
set_option Elab.async false
set_option linter.all false
set_option maxRecDepth 100000
set_option maxHeartbeats 4000000
namespace K12
open PySem PyProof.Rows L2 MI
theorem cmp_nel' {ts : List Nat} {S : Sto} : cmpM .NotEq (.lst (ts.map nD)) (.lst []) S = .ok (.bl (!ts.isEmpty)) S := by
  have h := cmp_nel (ts := ts.map fun x : Nat => (x : Int)) (S := S)
  rw [List.map_map] at h
  rw [show ts.map nD = ts.map (D.int ∘ fun x : Nat => (x : Int)) from rfl, h]
  cases ts <;> rfl
/-- how deep the rooms are within a saying of a room -/
def RS : Nat → D → Prop := RoomD
/-- what holds among the turns -/
structure Tn (m l ll lb f n : Nat) (b0 : Int) (S0 S : Sto) (k : Nat) (ss : List D) (b : Int) : Prop where
  st : St m l ll lb b S
  at_ : S[f]? = some (.lst ss)
  nf : f ≠ l ∧ f ≠ ll ∧ f ≠ lb
  ch : Chg [l, ll, lb, f] S0 S
  say : ∀ s ∈ ss, SayD (RoomD n) s
  len : ss.length ≤ k
  sz : nods ss + 14 * b.toNat ≤ 14 * b0.toNat
/-- the cards of a turn -/
def tc : Nat → Nat
  | 0 => 8
  | n + 1 => 8 + 2 * rc n
section
variable {n K l ll lb f : Nat} {b0 : Int} {ts : List Nat} {v fg : D} {S0 : Sto}
theorem room_turn (ih : ∀ n', n = n' + 1 → RoomOk n' (K + 3)) (hv : VocD v) (ht : ∀ t ∈ ts, t ≤ 1000099) (hl2 : ts.length + 6 * n ≤ 43)
    {m k : Nat} {ss : List D} {b : Int} {S : Sto} {o7 o9 o10 o11 o12 o13 : Option D} (hk : k < 12) (t : Tn (m + tc n) l ll lb f n b0 S0 S k ss b) :
    Wr (exSs (callN T gl (K + 3)) gl room_b (Renv l ll lb f n v ts fg o7 o9 o10 o11 o12 o13) S) fun r S' => r.1 = .nx ∧ ∃ o9' o10' o11' o12' o13' ss' b', r.2 = Renv l ll lb f n v ts fg o7 o9' o10' o11' o12' o13' ∧ Tn m l ll lb f n b0 S0 S' (k + 1) ss' b' := by
  unfold room_b
  have tlen := t.len
  have tsz := t.sz
  have htc : 8 ≤ tc n := by cases n <;> simp only [tc] <;> omega
  rw [exSs_cons, exS_asg]
  simp only [Renv, evE_call, evEs_cons, evEs_nil, evE_var, evE_int, getV_0, getV_s, ofO_some, then_ok, bnd_app, ret_app, evG_name, Wr_then, Wr_ok, List.set_cons_zero, List.set_cons_succ]
  refine (draw_ok (n := m + (tc n - 1)) (t.st.deck.mono (by omega)) (by decide) (by decide)).mono ?_
  rintro d S1 ⟨d1, c1, w, rfl, hw⟩
  have st1 := t.st.draw d1 c1
  have f1 : S1[f]? = some (.lst ss) := c1.get t.at_ (by simp [t.nf.1])
  have i0 : idxM (.loc lb) (.int 0) S1 = .ok (.int b) S1 := idx_loc st1.bud rfl
  have s0 : setM (.loc lb) (.int 0) (.int (b - 1)) S1 = .ok () (S1.set lb (.lst [.int (b - 1)])) := set_loc st1.bud (j := 0) rfl (by show 1 ≤ sizeLine; decide)
  generalize hS2 : S1.set lb (.lst [.int (b - 1)]) = S2 at s0
  have c2 : Chg [lb] S1 S2 := hS2 ▸ Chg.set (by simp)
  have b2 : S2[lb]? = some (.lst [.int (b - 1)]) := hS2 ▸ set_self st1.bud
  have st2 : St (m + (tc n - 1)) l ll lb (b - 1) S2 := ⟨st1.deck.chg c2 (by simp [st1.n2]), st1.left.chg c2 (by simp [st1.n3]), b2, st1.n1, st1.n2, st1.n3⟩
  have f2 : S2[f]? = some (.lst ss) := c2.get f1 (by simp [t.nf.2.2])
  have j0 : idxM (.loc lb) (.int 0) S2 = .ok (.int (b - 1)) S2 := idx_loc b2 rfl
  have cS : Chg [l, ll, lb, f] S0 S2 := t.ch.trans ((c1.mono (by simp)).trans (c2.mono (by simp)))
  refine wr_cons (σ2 := Renv l ll lb f n v ts fg o7 (some (.int (w : Int))) o10 o11 o12 o13) (S2 := S2) (by
    simp only [exS_asg, evE_bin, evE_idx, evE_var, evE_int, getV_0, getV_s, ofO_some, then_ok, bnd_app, i0, bin_sub]
    simp [Renv, s0]) ?_
  have stay : Tn m l ll lb f n b0 S0 S2 (k + 1) ss (b - 1) := ⟨⟨st2.deck.mono (by omega), st2.left, st2.bud, st2.n1, st2.n2, st2.n3⟩, f2, t.nf, cS, t.say, by omega, by omega⟩
  have geB : ∀ S, cmpM .GtE (.int (b - 1)) (.int 0) S = .ok (.bl (decide ((0 : Int) ≤ b - 1))) S := fun S => rfl
  have gtN : ∀ S, cmpM .Gt (.int (n : Int)) (.int 0) S = .ok (.bl (decide ((0 : Int) < (n : Int)))) S := fun S => rfl
  have ltW : ∀ S, cmpM .Lt (.int (w : Int)) (.int 3) S = .ok (.bl (decide ((w : Int) < 3))) S := fun S => rfl
  have cB : ∀ (cf : Cf), evT cf gl (Renv l ll lb f n v ts fg o7 (some (.int (w : Int))) o10 o11 o12 o13) (.val (.cmp (.idx (.var 5) (.int (0))) .GtE (.int (0)))) S2 = .ok (decide ((0 : Int) ≤ b - 1)) S2 := fun cf => by
    rw [evT_val, evE_cmp, ev_idx (ev_var (d := .loc lb) rfl) (evE_int _) j0, then_ok, bnd_app, evE_int, then_ok, geB, then_ok, look_app, truthOf_bl]
    rfl
  have cN : ∀ (cf : Cf), evT cf gl (Renv l ll lb f n v ts fg o7 (some (.int (w : Int))) o10 o11 o12 o13) (.val (.cmp (.var 1) .Gt (.int (0)))) S2 = .ok (decide ((0 : Int) < (n : Int))) S2 := fun cf => by
    rw [evT_val, evE_cmp, ev_var (d := .int (n : Int)) rfl, then_ok, bnd_app, evE_int, then_ok, gtN, then_ok, look_app, truthOf_bl]
    rfl
  have cW : ∀ (cf : Cf), evT cf gl (Renv l ll lb f n v ts fg o7 (some (.int (w : Int))) o10 o11 o12 o13) (.val (.cmp (.var 9) .Lt (.int (3)))) S2 = .ok (decide ((w : Int) < 3)) S2 := fun cf => by
    rw [evT_val, evE_cmp, ev_var (d := .int (w : Int)) rfl, then_ok, bnd_app, evE_int, then_ok, ltW, then_ok, look_app, truthOf_bl]
    rfl
  have cE : ∀ (cf : Cf), evT cf gl (Renv l ll lb f n v ts fg o7 (some (.int (w : Int))) o10 o11 o12 o13) (.val (.cmp (.var 3) .NotEq (.lst false []))) S2 = .ok (!ts.isEmpty) S2 := fun cf => by
    rw [evT_val, evE_cmp, ev_var (d := .lst (ts.map nD)) rfl, then_ok, bnd_app, evE_lst, evEs_nil, then_ok, mkList_f (show ([] : List D).length ≤ sizeLine by decide), then_ok, cmp_nel', then_ok, look_app, truthOf_bl]
    rfl
  have run : ∀ (cf : Cf) (c1 : MC) (x y : List MS) (q : Bool) (σ : MI.Env) (Q : Fl × MI.Env → Sto → Prop), evT cf gl σ c1 S2 = .ok q S2 → Wr (exSs cf gl (if q = true then x else y) σ S2) Q → (∀ r S', Q r S' → r.1 = .nx) → Wr (exSs cf gl [.ifs c1 x y] σ S2) Q := by
    intro cf c1 x y q σ Q hc hr hn
    rw [exSs_cons, exS_ifs, hc, then_ok]
    have : Wr (if q = true then exSs cf gl x σ S2 else exSs cf gl y σ S2) Q := by
      cases q
      · exact hr
      · exact hr
    cases q
    · obtain ⟨⟨fl, σ2⟩, S3, e, q2⟩ := this
      have hnx := hn _ _ q2
      simp only at hnx
      subst hnx
      refine Wr.of (a := (.nx, σ2)) (S' := S3) ?_ q2
      simp only [Bool.false_eq_true, if_false] at e ⊢
      rw [e]
      simp
    · obtain ⟨⟨fl, σ2⟩, S3, e, q2⟩ := this
      have hnx := hn _ _ q2
      simp only at hnx
      subst hnx
      refine Wr.of (a := (.nx, σ2)) (S' := S3) ?_ q2
      simp only [if_true] at e ⊢
      rw [e]
      simp
  have evAnd : ∀ (cf : Cf) (σ : MI.Env) (x y : MC) (p q : Bool), evT cf gl σ x S2 = .ok p S2 → (p = true → evT cf gl σ y S2 = .ok q S2) → evT cf gl σ (.and x y) S2 = .ok (p && q) S2 := by
    intro cf σ x y p q h1 h2
    rw [evT_and, h1, then_ok]
    cases p
    · rfl
    · simp only [if_true, h2 rfl, Bool.true_and]
  have hn : ∀ (r : Fl × MI.Env) (S' : Sto), (r.1 = .nx ∧ ∃ o9' o10' o11' o12' o13' ss' b', r.2 = Renv l ll lb f n v ts fg o7 o9' o10' o11' o12' o13' ∧ Tn m l ll lb f n b0 S0 S' (k + 1) ss' b') → r.1 = .nx := fun r S' h => h.1
  refine run _ _ _ _ _ _ _ (evAnd _ _ _ _ _ _ (cB _) fun _ => evAnd _ _ _ _ _ _ (cN _) fun _ => cW _) ?_ hn
  cases hq : (decide ((0 : Int) ≤ b - 1) && (decide ((0 : Int) < (n : Int)) && decide ((w : Int) < 3)))
  · simp only [Bool.false_eq_true, if_false]
    refine run _ _ _ _ _ _ _ (evAnd _ _ _ _ _ _ (cB _) fun _ => cE _) ?_ hn
    cases hp : (decide ((0 : Int) ≤ b - 1) && !ts.isEmpty)
    · simp only [Bool.false_eq_true, if_false]
      exact Wr.of (a := (.nx, Renv l ll lb f n v ts fg o7 (some (.int (w : Int))) o10 o11 o12 o13)) (S' := S2) (by simp) ⟨rfl, _, _, _, _, _, _, _, rfl, stay⟩
    · simp only [Bool.and_eq_true, decide_eq_true_eq, Bool.not_eq_true'] at hp
      have h0 : ts ≠ [] := fun e => by rw [e] at hp; cases hp.2
      simp only [if_true]
      have pl := plain_ok (k := K) (n := m) (l := l) (v := v) (ts := ts.map nD) (S := S2) (st2.deck.mono (by omega)) hv (by simpa using h0) (by rw [K12.sz]; simp; omega) (fun t h => by
        obtain ⟨x, hx, rfl⟩ := List.mem_map.mp h
        exact ⟨x, rfl, ht x hx⟩)
      obtain ⟨s, S3, ecall, d3, c3, hps⟩ := pl
      have f3 := c3.get f2 (by simp [t.nf.1])
      have ap : appM (.loc f) [s] S3 = .ok .non (S3.set f (.lst (ss ++ [s]))) := app_loc f3 (by rw [K12.sz]; omega)
      have hnp := nod_plain hps
      refine Wr.of (a := (.nx, Renv l ll lb f n v ts fg o7 (some (.int (w : Int))) o10 o11 o12 o13)) (S' := S3.set f (.lst (ss ++ [s]))) ?_ ⟨rfl, _, _, _, _, _, ss ++ [s], b - 1, rfl, ⟨(st2.draw d3 c3).other (ls := [f]) (Chg.set (by simp)) (by simp [Ne.symm t.nf.1]) (by simp [Ne.symm t.nf.2.1]) (by simp [Ne.symm t.nf.2.2]), set_self f3, t.nf, (cS.trans (c3.mono (by simp))).trans (Chg.set (by simp)), ?_, by simp; omega, ?_⟩⟩
      · rw [exSs_cons, exS_expr, evE_mth, ev_var (d := .loc f) rfl, then_ok, bnd_app, look_app, tyOf_loc f2, ofO_some, then_ok, bnd_app, evEs_cons, evE_call, evEs_cons, ev_var (d := .loc l) rfl, then_ok, bnd_app, evEs_cons, ev_var (d := .lst (ts.map nD)) rfl, then_ok, bnd_app, evEs_cons, ev_var (d := v) rfl, then_ok, bnd_app, evEs_nil]
        simp only [then_ok, ret_app, ecall, bnd_app, evEs_nil, mm_append, ap, exSs_nil]
      · intro x hx
        rcases List.mem_append.mp hx with hx | hx
        · exact t.say x hx
        · rw [List.mem_singleton] at hx
          exact hx ▸ .inl hps
      · rw [nods_app]
        simp only [nods]
        omega
  · simp only [Bool.and_eq_true, decide_eq_true_eq] at hq
    obtain ⟨n', rfl⟩ : ∃ n', n = n' + 1 := ⟨n - 1, by omega⟩
    simp only [if_true]
    have e8 : tc (n' + 1) = 8 + 2 * rc n' := rfl
    refine (said_ok (ih n' rfl) (by omega) (m := m) (l := l) (ll := ll) (lb := lb) (f := f) (b := b - 1) (ts := ts) (v := v) (S := S2) (ss := ss) ⟨st2.deck.mono (by omega), st2.left, st2.bud, st2.n1, st2.n2, st2.n3⟩ f2 (by omega) t.nf hv ht hl2 (by omega)).mono ?_
    rintro ⟨fl, σ⟩ S3 ⟨e, o10', o11', o12', o13', d, b3, e2, s3, f3, c3, hs, hz⟩
    refine ⟨e, _, _, _, _, _, ss ++ [d], b3, e2, ⟨s3, f3, t.nf, cS.trans c3, ?_, by simp; omega, ?_⟩⟩
    · intro x hx
      rcases List.mem_append.mp hx with hx | hx
      · exact t.say x hx
      · rw [List.mem_singleton] at hx
        exact hx ▸ hs
    · rw [nods_app]
      simp only [nods]
      omega
end
end K12
set_option Elab.async false
set_option linter.all false
set_option maxRecDepth 100000
set_option maxHeartbeats 4000000
namespace K12
open PySem PyProof.Rows L2 MI
section
variable {cf : Cf} {gl : Str → Option D} {σ : MI.Env} {S S1 S2 S3 : Sto}
theorem ev_blt1 {m : Bool} {f : Str} {a : ME} {x z : D} (h1 : evE cf gl σ a S = .ok x S1) (h3 : bltM m f [x] S1 = .ok z S3) : evE cf gl σ (.blt m f [a]) S = .ok z S3 := by
  rw [evE_blt, evEs_cons, h1, then_ok, bnd_app, evEs_nil, then_ok, ret_app, then_ok, h3]
theorem ev_blt2 {m : Bool} {f : Str} {a b : ME} {x y z : D} (h1 : evE cf gl σ a S = .ok x S1) (h2 : evE cf gl σ b S1 = .ok y S2) (h3 : bltM m f [x, y] S2 = .ok z S3) : evE cf gl σ (.blt m f [a, b]) S = .ok z S3 := by
  rw [evE_blt, evEs_cons, h1, then_ok, bnd_app, evEs_cons, h2, then_ok, bnd_app, evEs_nil, then_ok, ret_app, then_ok, ret_app, then_ok, h3]
theorem ev_call1 {f : Str} {a : ME} {x z : D} (h1 : evE cf gl σ a S = .ok x S1) (h3 : cf f [x] S1 = .ok z S3) : evE cf gl σ (.call f [a]) S = .ok z S3 := by
  rw [evE_call, evEs_cons, h1, then_ok, bnd_app, evEs_nil, then_ok, ret_app, then_ok, h3]
theorem ev_call2 {f : Str} {a b : ME} {x y z : D} (h1 : evE cf gl σ a S = .ok x S1) (h2 : evE cf gl σ b S1 = .ok y S2) (h3 : cf f [x, y] S2 = .ok z S3) : evE cf gl σ (.call f [a, b]) S = .ok z S3 := by
  rw [evE_call, evEs_cons, h1, then_ok, bnd_app, evEs_cons, h2, then_ok, bnd_app, evEs_nil, then_ok, ret_app, then_ok, ret_app, then_ok, h3]
theorem ev_range {m : Bool} {a : ME} {n : Nat} (h : evE cf gl σ a S = .ok (.int (n : Int)) S1) (hn : n < 2 ^ 62) : evI cf gl σ (.it (.blt m "range" [a])) S = .ok (.items (intsUp 0 n)) S1 := by
  rw [evI_blt, evEs_cons, h, then_ok, bnd_app, evEs_nil, then_ok, ret_app, then_ok, ib_range]
  show rngM (.int 0) (.int (n : Int)) S1 = _
  rw [rng_at (by omega), Int.toNat_natCast]
end
def figsE : ME := .comp false [7] (.name 7) (.it (.blt false "range" [(.blt false "min" [(.blt false "len" [(.var 2)]), (.call "_law_draw" [(.var 0), (.int (4))])])])) (.val (.bl true)) (.mth false (.var 2) "pop" [(.int (0))])
theorem b_room_eq : b_law_room = [(.asg (.name 6) (.blt false "tuple" [figsE])),
    (.asg (.name 3) (.bin false .Add (.var 3) (.blt false "list" [(.var 6)]))),
    (.asg (.name 8) (.lst true [])),
    (.for (.name 7) (.it (.blt false "range" [(.call "_law_draw" [(.var 0), (.int (4))])])) room_b),
    (.ret (.tup [(.var 6), (.blt false "tuple" [(.var 8)])]))] := rfl
theorem tc_le {n : Nat} : rc n = 2 + 3 * tc n := by cases n <;> simp only [rc, tc]
theorem figs_ok {K m l ll lb n : Nat} {b : Int} {v : D} {ts : List Nat} {S : Sto} (st : St (m + 1) l ll lb b S) :
    Wr (evE (callN T gl (K + 1)) gl [some (.loc l), some (.int (n : Int)), some (.loc ll), some (.lst (ts.map nD)), some v, some (.loc lb), none, none, none, none, none, none, none, none] figsE S) fun d S' => St m l ll lb b S' ∧ Chg [l, ll, lb] S S' ∧ ∃ gs : List Nat, d = .lst (gs.map nD) ∧ gs.length ≤ 3 ∧ ∀ g ∈ gs, g ≤ 1000099 := by
  obtain ⟨d, S1, ecall, d1, c1, w, rfl, hw⟩ := draw_ok (k := K) (n := m) (m := 4) st.deck (by decide) (by decide)
  have st1 := st.draw d1 c1
  obtain ⟨xs, x1, x2, x3⟩ := st1.left
  obtain ⟨xs0, z1, z2, z3⟩ := st.left
  have hL := lenM_loc z1 (by rw [sz]; simp; omega)
  rw [List.length_map] at hL
  have hsame : xs0 = xs := by
    have e := c1.get z1 (by simp [Ne.symm st.n1])
    rw [x1] at e
    have e2 : List.map (fun x : Nat => D.int (x : Int)) xs = List.map (fun x : Nat => D.int (x : Int)) xs0 := by injection (Option.some.inj e)
    exact ((List.map_inj_right (fun a b h => by injection h with h; omega)).mp e2).symm
  subst hsame
  obtain ⟨q, hq, hq1, hq2⟩ : ∃ q : Nat, (if (w : Int) < (xs0.length : Int) then (w : Int) else (xs0.length : Int)) = (q : Int) ∧ q ≤ 3 ∧ q ≤ xs0.length := by
    by_cases h : (w : Int) < (xs0.length : Int)
    · exact ⟨w, by rw [if_pos h], by omega, by omega⟩
    · exact ⟨xs0.length, by rw [if_neg h], by omega, Nat.le_refl _⟩
  have hmin : minM [.int (xs0.length : Int), .int (w : Int)] S1 = .ok (.int (q : Int)) S1 := by
    show MI.R.ok (D.int _) S1 = _
    rw [hq]
  unfold figsE
  refine wr_comp (ds := intsUp 0 q) (S1 := S1) (I := fun i acc T => Chg [ll] S1 T ∧ (∃ us : List Nat, T[ll]? = some (.lst (us.map nD)) ∧ us.length + i = xs0.length ∧ ∀ x ∈ us, x ≤ 1000099) ∧ ∃ vs : List Nat, acc = vs.map nD ∧ vs.length = i ∧ ∀ x ∈ vs, x ≤ 1000099) (by rw [sz]; simp; omega)
    (ev_range (ev_blt2 (ev_blt1 (ev_var rfl) hL) (ev_call2 (ev_var rfl) (evE_int _) ecall) hmin) (by omega)) ?_ ⟨Chg.refl, ⟨xs0, x1, rfl, x3⟩, [], rfl, rfl, by simp⟩ ?_
  · rintro i d acc S2 hd ⟨i1, ⟨us, t1, t2, t3⟩, vs, rfl, v1, v2⟩
    obtain ⟨rfl, hi⟩ := intsUp_get hd
    have hne : us ≠ [] := by
      intro e
      rw [e] at t2
      simp at t2
      omega
    obtain ⟨y, us', rfl⟩ : ∃ y us', us = y :: us' := List.exists_cons_of_ne_nil hne
    simp only [List.length_cons] at t2
    have hp : popM (.loc ll) [.int 0] S2 = .ok (nD y) (S2.set ll (.lst (us'.map nD))) := by
      have := popAt_loc (i := 0) (j := 0) (y := nD y) t1 (by omega) (by unfold ixN; rw [if_pos (by omega), if_pos (by simp)]; rfl) (by simp) (by rw [sz]; simp; omega)
      simpa using this
    simp [wipeD, tyOf_loc t1, hp]
    refine ⟨i1.trans (Chg.set (by simp)), ⟨us', set_self t1, by omega, fun x hx => t3 x (List.mem_cons_of_mem _ hx)⟩, vs ++ [y], by simp, by simp [v1], ?_⟩
    intro z hz
    rcases List.mem_append.mp hz with hz | hz
    · exact v2 z hz
    · rw [List.mem_singleton] at hz
      exact hz ▸ t3 y List.mem_cons_self
  rintro r S2 hr ⟨i1, ⟨us, t1, t2, t3⟩, gs, rfl, v1, v2⟩
  have hg3 : gs.length ≤ 3 := by simp at v1; omega
  rw [mkList_f (by rw [sz]; simp; omega), Wr_ok]
  exact ⟨⟨st1.deck.chg i1 (by simp [st1.n1]), ⟨us, t1, by omega, t3⟩, i1.get st1.bud (by simp [Ne.symm st1.n3]), st1.n1, st1.n2, st1.n3⟩, (c1.mono (by simp)).trans (i1.mono (by simp)), gs, rfl, hg3, v2⟩
theorem room_step {n K : Nat} (ih : ∀ n', n = n' + 1 → RoomOk n' (K + 3)) : RoomOk n (K + 4) := by
  intro m l ll lb b ts v S st hv ht hl
  refine wr_call T_law_room rfl ?_
  show Wr (exSs _ gl b_law_room _ S) _
  rw [b_room_eq]
  simp only [List.map_cons, List.map_nil, List.length_cons, List.length_nil, List.replicate, List.cons_append, List.nil_append]
  have hrc := tc_le (n := n)
  obtain ⟨d, S2, efig, st2, cA, gs, rfl, hg3, v2⟩ := figs_ok (K := K + 2) (m := m + (1 + 3 * tc n)) (n := n) (v := v) (ts := ts) (S := S) (l := l) (ll := ll) (lb := lb) (b := b) ⟨st.deck.mono (by omega), st.left, st.bud, st.n1, st.n2, st.n3⟩
  have a0 : ∀ S, binM false .Add (.lst (ts.map nD)) (.lst (gs.map nD)) S = .ok (.lst ((ts ++ gs).map nD)) S := fun S => by rw [add_lst (by rw [sz]; simp; omega), List.map_append]
  have ti : tupM [.lst (gs.map nD)] S2 = .ok (.tup (gs.map nD)) S2 := tupM_lst (by rw [sz]; simp; omega)
  have li : lstM false [.tup (gs.map nD)] S2 = .ok (.lst (gs.map nD)) S2 := lstM_tup (by rw [sz]; simp; omega)
  refine wr_cons (ex_asg (ev_blt1 efig (by rw [bm_tuple]; exact ti))) ?_
  simp only [List.set_cons_zero, List.set_cons_succ]
  refine wr_cons (ex_asg (ev_bin (ev_var rfl) (ev_blt1 (ev_var rfl) (by rw [bm_list]; exact li)) (a0 _))) ?_
  simp only [List.set_cons_zero, List.set_cons_succ]
  refine wr_cons (ex_asg (d := .loc S2.length) (S2 := S2 ++ [O.lst []]) (by rw [evE_lst, evEs_nil, then_ok, mkList_t (show ([] : List D).length ≤ sizeLine by decide)])) ?_
  simp only [List.set_cons_zero, List.set_cons_succ]
  generalize hS3 : S2 ++ [O.lst []] = S3
  have c3 : Chg [] S2 S3 := hS3 ▸ Chg.app
  have st3 := st2.other c3 (by simp) (by simp) (by simp)
  have f3 : S3[S2.length]? = some (.lst []) := by rw [← hS3]; simp
  obtain ⟨d, S4, ecall2, d4, c4, p, rfl, hp⟩ := draw_ok (k := K + 2) (n := m + (3 * tc n)) (m := 4) (st3.deck.mono (by omega)) (by decide) (by decide)
  have st4 := st3.draw d4 c4
  have nf : S2.length ≠ l ∧ S2.length ≠ ll ∧ S2.length ≠ lb := by
    have h1 := st2.deck.lt
    have h2 := st2.left.lt
    have h3 := lt_sto st2.bud
    omega
  have f4 : S4[S2.length]? = some (.lst []) := c4.get f3 (by simp [nf.1])
  refine wr_seq (P := fun σ S' => ∃ (o7 o9 o10 o11 o12 o13 : Option D) (ss : List D) (b' : Int), σ = Renv l ll lb S2.length n v (ts ++ gs) (.tup (gs.map nD)) o7 o9 o10 o11 o12 o13 ∧ Tn m l ll lb S2.length n b S4 S' 3 ss b') ?_ ?_
  rotate_left
  · rintro σ S5 ⟨o7, o9, o10, o11, o12, o13, ss, b', rfl, tn⟩
    have tl := tn.len
    have tz := tn.sz
    simp [Renv, tupM_loc tn.at_ (by rw [sz]; omega), sz, mkTup_ok]
    have cB : Chg [l, ll, lb, S2.length] S2 S5 := (c3.mono (by simp)).trans ((c4.mono (by simp)).trans tn.ch)
    refine ⟨b', tn.st, cA.new cB (by have := cA.len; simp; omega), ⟨gs, ss, rfl, hg3, v2, by omega, tn.say⟩, ?_⟩
    have n1 : nods (gs.map nD) = gs.length := by
      rw [nods_one (by intro x hx; obtain ⟨y, _, rfl⟩ := List.mem_map.mp hx; simp [nod]), List.length_map]
    simp only [nod, nods, n1]
    omega
  refine wr_forS (ds := intsUp 0 p) (S1 := S4) (ev_range (ev_call2 (ev_var rfl) (evE_int _) ecall2) (by omega)) ?_
  have htg : ∀ t ∈ ts ++ gs, t ≤ 1000099 := by
    intro t h
    rcases List.mem_append.mp h with h | h
    · exact ht t h
    · exact v2 t h
  have t0 : Tn (m + (3 - 0) * tc n) l ll lb S2.length n b S4 S4 0 [] b := ⟨⟨st4.deck.mono (by omega), st4.left, st4.bud, st4.n1, st4.n2, st4.n3⟩, f4, nf, Chg.refl, by simp, by simp, by simp [nods]⟩
  refine (wr_for (k := 0) (I := fun i σ S' => i ≤ p ∧ ∃ (o7 o9 o10 o11 o12 o13 : Option D) (ss : List D) (b' : Int), σ = Renv l ll lb S2.length n v (ts ++ gs) (.tup (gs.map nD)) o7 o9 o10 o11 o12 o13 ∧ Tn (m + (3 - i) * tc n) l ll lb S2.length n b S4 S' i ss b')
    (J := fun σ S' => ∃ (o7 o9 o10 o11 o12 o13 : Option D) (ss : List D) (b' : Int), σ = Renv l ll lb S2.length n v (ts ++ gs) (.tup (gs.map nD)) o7 o9 o10 o11 o12 o13 ∧ Tn m l ll lb S2.length n b S4 S' 3 ss b') ?_ ?_ ?_).mono ?_
  · rintro i d σ S' hd ⟨hi, o7, o9, o10, o11, o12, o13, ss, b', rfl, tn⟩
    simp only [Nat.zero_add] at tn hi ⊢
    obtain ⟨rfl, hi⟩ := intsUp_get hd
    have tn' : Tn (m + (3 - (i + 1)) * tc n + tc n) l ll lb S2.length n b S4 S' i ss b' := by
      have : m + (3 - (i + 1)) * tc n + tc n = m + (3 - i) * tc n := by
        have e : 3 - i = (3 - (i + 1)) + 1 := by omega
        rw [e, Nat.add_mul]
        omega
      rw [this]
      exact tn
    have tt := room_turn (K := K) (o7 := some (.int (0 + (i : Int)))) (o9 := o9) (o10 := o10) (o11 := o11) (o12 := o12) (o13 := o13) (fg := .tup (gs.map nD)) ih hv htg (by simp; omega) (by omega) tn'
    rw [bnd_app]
    show Wr ((evG _ gl _ (.name 7) _ S').then _) _
    rw [evG_name, then_ok]
    refine Wr.mono (r := exSs (callN T gl (K + 3)) gl room_b (Renv l ll lb S2.length n v (ts ++ gs) (.tup (gs.map nD)) (some (.int (0 + (i : Int)))) o9 o10 o11 o12 o13) S') tt ?_
    rintro ⟨fl, σ⟩ S6 ⟨hfl, o9', o10', o11', o12', o13', ss', b2, e, tn2⟩
    exact .inl ⟨hfl, by omega, _, _, _, _, _, _, _, _, e, tn2⟩
  · rintro σ S' ⟨hi, o7, o9, o10, o11, o12, o13, ss, b', e, tn⟩
    exact ⟨o7, o9, o10, o11, o12, o13, ss, b', e, ⟨⟨tn.st.deck.mono (by omega), tn.st.left, tn.st.bud, tn.st.n1, tn.st.n2, tn.st.n3⟩, tn.at_, tn.nf, tn.ch, tn.say, by have := tn.len; simp at this; omega, tn.sz⟩⟩
  · exact ⟨by omega, none, none, none, none, none, none, [], b, by simp [Renv], t0⟩
  rintro ⟨fl, σ⟩ S5 ⟨e, h⟩
  exact ⟨e, h⟩
theorem room_ok : ∀ n K : Nat, n + 4 ≤ K → RoomOk n K
  | 0, K, h => by
    obtain ⟨K, rfl⟩ : ∃ K', K = K' + 4 := ⟨K - 4, by omega⟩
    exact room_step fun n' e => by omega
  | n + 1, K, h => by
    obtain ⟨K, rfl⟩ : ∃ K', K = K' + 4 := ⟨K - 4, by omega⟩
    exact room_step fun n' e => by
      obtain rfl : n' = n := by omega
      exact room_ok n' (K + 3) (by omega)
theorem rc_le {n : Nat} (h : n ≤ 4) : rc n ≤ 41000 := by
  have : n = 0 ∨ n = 1 ∨ n = 2 ∨ n = 3 ∨ n = 4 := by omega
  rcases this with rfl | rfl | rfl | rfl | rfl <;> decide
/-- a drawn room -/
def DRoom (d : D) : Prop := ∃ n, n ≤ 5 ∧ RoomD n d ∧ nod d ≤ 342
theorem any_room_ok {K m l : Nat} {S : Sto} (hK : 10 ≤ K) (hd : Deck (m + 42000) l S) : Wr (callN T gl K "_law_any_room" [.loc l] S) (Drawn m l S DRoom) := by
  obtain ⟨K, rfl⟩ : ∃ K', K = K' + 5 := ⟨K - 5, by omega⟩
  refine wr_call T_law_any_room rfl ?_
  unfold b_law_any_room
  simp only [List.map_cons, List.map_nil, List.length_cons, List.length_nil, List.replicate, List.cons_append, List.nil_append, exSs_cons, exS_asg, exS_ret, bnd_app, Wr_then, evE_call, evE_var, evEs_cons, evEs_nil, getV_0, getV_s, ofO_some, then_ok, ret_app, evG_name, List.set_cons_zero, List.set_cons_succ, evE_bin, evE_int, Wr_ok, evE_idx, evE_lst]
  refine (words_ok (k := K + 1) (n := m + 41978) (hd.mono (by omega))).mono ?_
  rintro v S1 ⟨d1, c1, hv⟩
  simp only [Wr_ok, Wr_then, then_ok, bnd_app, evE_var, getV_0, getV_s, ofO_some, ret_app, mkList_f (show ([D.int 1, D.int 2, D.int 4] : List D).length ≤ sizeLine by show 3 ≤ sizeLine; decide)]
  refine (draw_ok (k := K + 3) (n := m + 41977) d1 (by decide) (by decide)).mono ?_
  rintro d S2 ⟨d2, c2, w, rfl, hw⟩
  obtain ⟨n, hn, hn4⟩ : ∃ n : Nat, (∀ S, idxM (.lst [.int 1, .int 2, .int 4]) (.int (w : Int)) S = .ok (.int (n : Int)) S) ∧ n ≤ 4 := by
    match w, hw with
    | 0, _ => exact ⟨1, fun S => idx_lst rfl, by decide⟩
    | 1, _ => exact ⟨2, fun S => idx_lst rfl, by decide⟩
    | 2, _ => exact ⟨4, fun S => idx_lst rfl, by decide⟩
    | w + 3, hw => omega
  simp only [hn, then_ok, Wr_ok, Wr_then, ret_app, evE_var, getV_0, getV_s, ofO_some, bnd_app]
  refine (figures_ok (k := K + 2) (n := m + 41962) d2).mono ?_
  rintro d S3 ⟨d3, c3, l2, rfl, hl2, left⟩
  simp only [then_ok, mkList_f (show ([] : List D).length ≤ sizeLine by decide), bnd_app, evE_var, getV_0, getV_s, ofO_some, Wr_then, Wr_ok, ret_app, mkList_t (show ([D.int 24] : List D).length ≤ sizeLine by show 1 ≤ sizeLine; decide)]
  generalize hS5 : S3 ++ [O.lst [.int 24]] = S5
  have c5 : Chg [] S3 S5 := hS5 ▸ Chg.app
  have b5 : S5[S3.length]? = some (.lst [.int 24]) := by rw [← hS5]; simp
  have h1 := d2.lt
  have h3 := left.lt
  have h23 := c3.len
  have st : St (m + 41962) l l2 S3.length 24 S5 := ⟨d3.chg c5 (by simp), left.chg c5 (by simp), b5, by omega, by omega, by omega⟩
  have hr := rc_le hn4
  have go := room_ok n (K + 4) (by omega) m l l2 S3.length 24 [] v S5 ⟨st.deck.mono (by omega), st.left, st.bud, st.n1, st.n2, st.n3⟩ hv (by simp) (by simp; omega)
  refine Wr.mono (r := callN T gl (K + 4) "_law_room" [.loc l, .int (n : Int), .loc l2, .lst ([].map nD), v, .loc S3.length] S5) go ?_
  rintro d S6 ⟨b', s6, c6, r6, z6⟩
  have cc : Chg [l] S S2 := c1.trans c2
  have cd : Chg [l, l2, S3.length] S2 S6 := (c3.mono (by simp)).trans ((c5.mono (by simp)).trans c6)
  simp only [Wr_ok, ret_app, Qe_ret]
  have hlen := cc.len
  exact ⟨s6.deck, cc.new cd (by simp; omega), _, by omega, r6, by omega⟩
end K12
set_option Elab.async false
set_option linter.all false
set_option maxRecDepth 100000
set_option maxHeartbeats 2000000
/-! rooms and their spots -/
namespace K12
open PySem PyProof.Rows L2 MI
abbrev Spot := List (Nat × Nat)
def enS (sp : Spot) : List Int := sp.flatMap fun p => [(p.1 : Int), (p.2 : Int)]
abbrev enT (sp : Spot) : D := .tup ((enS sp).map .int)
def saysD : D → List D
  | .tup [_, .tup ss] => ss
  | _ => []
def figsD : D → List D
  | .tup [.tup fs, _] => fs
  | _ => []
def headS : D → List Nat
  | .tup (.str w :: _) => w
  | _ => []
def sidesD : D → List D
  | .tup (.str w :: r) => if w ∈ PLw then [] else r
  | _ => []
def stepD (d : D) (p : Nat × Nat) : Option D := (saysD d)[p.1]?.bind fun s => (sidesD s)[p.2]?
def atD : D → Spot → Option D
  | d, [] => some d
  | d, p :: sp => (stepD d p).bind fun x => atD x sp
theorem enS_app (a b : Spot) : enS (a ++ b) = enS a ++ enS b := by simp [enS]
theorem enS_len (a : Spot) : (enS a).length = 2 * a.length := by
  induction a with
  | nil => rfl
  | cons p a ih => simp only [enS, List.flatMap_cons, List.length_append, List.length_cons, List.length_nil] at ih ⊢; omega
theorem enS_inj : ∀ {a b : Spot}, enS a = enS b → a = b
  | [], [], _ => rfl
  | [], q :: b, h => by simp [enS] at h
  | p :: a, [], h => by simp [enS] at h
  | (k, j) :: a, (k', j') :: b, h => by
    simp only [enS, List.flatMap_cons, List.cons_append, List.nil_append, List.cons.injEq] at h
    obtain ⟨h1, h2, h3⟩ := h
    have e := enS_inj (a := a) (b := b) h3
    rw [show k = k' by omega, show j = j' by omega, e]
theorem atD_snoc : ∀ {sp : Spot} {d : D} {p : Nat × Nat}, atD d (sp ++ [p]) = (atD d sp).bind fun x => stepD x p
  | [], d, p => by
    show (stepD d p).bind (fun x => atD x []) = stepD d p
    cases stepD d p <;> rfl
  | q :: sp, d, p => by
    show (stepD d q).bind (fun x => atD x (sp ++ [p])) = ((stepD d q).bind fun x => atD x sp).bind fun x => stepD x p
    cases stepD d q with
    | none => rfl
    | some x => exact atD_snoc
/-- a saying and its sides -/
theorem PlainD.sides {s : D} (h : PlainD s) : sidesD s = [] ∧ headS s ≠ sIf ∧ headS s ∈ PLw := by
  obtain ⟨w, rest, rfl, hw, _⟩ := h
  refine ⟨by simp [sidesD, hw], ?_, hw⟩
  show w ≠ sIf
  intro e
  subst e
  exact absurd hw (by decide)
theorem SayD.sides {R : D → Prop} {s : D} (h : SayD R s) : ∀ r ∈ sidesD s, R r := by
  rcases h with h | ⟨r, rfl, h⟩ | ⟨w, r, q, rfl, hw, h1, h2⟩
  · simp [h.sides.1]
  · have : sidesD (.tup [.str sNot, r]) = [r] := by simp [sidesD]; decide
    simp [this, h]
  · have : sidesD (.tup [.str w, r, q]) = [r, q] := by
      have : w ∉ PLw := by rcases hw with rfl | rfl <;> decide
      simp [sidesD, this]
    simp [this, h1, h2]
theorem SayD.two {R : D → Prop} {s : D} (h : SayD R s) (hi : headS s = sIf) : ∃ r q, sidesD s = [r, q] := by
  rcases h with h | ⟨r, rfl, h⟩ | ⟨w, r, q, rfl, hw, h1, h2⟩
  · exact absurd hi h.sides.2.1
  · exact absurd (show sNot = sIf from hi) (by decide)
  · refine ⟨r, q, ?_⟩
    have : w ∉ PLw := by rcases hw with rfl | rfl <;> decide
    simp [sidesD, this]
theorem SayD.form {R : D → Prop} {s : D} (h : SayD R s) : ∃ rest, s = .tup (.str (headS s) :: rest) ∧ rest.length ≤ 3 ∧ ((headS s ∈ PLw ∧ sidesD s = []) ∨ ((headS s = sNot ∨ headS s = sIf ∨ headS s = sOr) ∧ sidesD s = rest)) := by
  rcases h with h | ⟨r, rfl, h⟩ | ⟨w, r, q, rfl, hw, h1, h2⟩
  · obtain ⟨e1, e2, e3⟩ := h.sides
    obtain ⟨w, rest, rfl, hw, hl, _⟩ := h
    exact ⟨rest, rfl, hl, .inl ⟨hw, e1⟩⟩
  · exact ⟨[r], rfl, by simp, .inr ⟨.inl rfl, by simp [sidesD]; decide⟩⟩
  · have : w ∉ PLw := by rcases hw with rfl | rfl <;> decide
    exact ⟨[r, q], rfl, by simp, .inr ⟨.inr hw, by simp [sidesD, this]⟩⟩
theorem RoomD.says {n : Nat} {d : D} (h : RoomD (n + 1) d) : ∀ s ∈ saysD d, SayD (RoomD n) s := by
  obtain ⟨gs, ss, rfl, h1, h2, h3, h4⟩ := h
  exact h4
theorem RoomD.step {n : Nat} {d x : D} {p : Nat × Nat} (h : RoomD (n + 1) d) (e : stepD d p = some x) : RoomD n x := by
  unfold stepD at e
  obtain ⟨s, hs, e⟩ := Option.bind_eq_some_iff.mp e
  exact (h.says s (List.mem_of_getElem? hs)).sides x (List.mem_of_getElem? e)
/-- what stands at a spot is a room -/
theorem RoomD.at_ : ∀ {sp : Spot} {n : Nat} {d x : D}, RoomD n d → atD d sp = some x → ∃ m, RoomD (m + 1) x ∧ m + 1 + sp.length = n
  | [], n, d, x, h, e => by
    cases e
    match n, h with
    | n + 1, h => exact ⟨n, h, rfl⟩
  | p :: sp, n, d, x, h, e => by
    match n, h with
    | n + 1, h =>
      obtain ⟨y, hy, e⟩ := Option.bind_eq_some_iff.mp e
      obtain ⟨m, h1, h2⟩ := RoomD.at_ (h.step hy) e
      exact ⟨m, h1, by simp only [List.length_cons]; omega⟩
def gather {α β : Type} (g : Nat → α → List β) : Nat → List α → List β
  | _, [] => []
  | k, d :: ds => g k d ++ gather g (k + 1) ds
theorem mem_gather {α β : Type} {g : Nat → α → List β} {y : β} : ∀ {ds : List α} {k : Nat}, y ∈ gather g k ds ↔ ∃ i d, ds[i]? = some d ∧ y ∈ g (k + i) d
  | [], k => by simp [gather]
  | d :: ds, k => by
    rw [gather, List.mem_append, mem_gather]
    constructor
    · rintro (h | ⟨i, d', h, h2⟩)
      · exact ⟨0, d, rfl, h⟩
      · exact ⟨i + 1, d', by simpa using h, by rwa [show k + (i + 1) = k + 1 + i by omega]⟩
    · rintro ⟨i, d', h, h2⟩
      cases i with
      | zero => cases h; exact .inl h2
      | succ i => exact .inr ⟨i, d', by simpa using h, by rwa [show k + 1 + i = k + (i + 1) by omega]⟩
/-- all rooms in a room, with their spots -/
def roomsL : Nat → D → List (Spot × D)
  | 0, d => [([], d)]
  | n + 1, d => ([], d) :: gather (fun k s => gather (fun j r => (roomsL n r).map fun q => ((k, j) :: q.1, q.2)) 0 (sidesD s)) 0 (saysD d)
theorem mem_rooms : ∀ {n : Nat} {d : D} {sp : Spot} {x : D}, RoomD n d → ((sp, x) ∈ roomsL n d ↔ atD d sp = some x)
  | 0, d, sp, x, h => h.elim
  | n + 1, d, sp, x, h => by
    rw [roomsL, List.mem_cons]
    match sp with
    | [] =>
      constructor
      · rintro (e | e)
        · cases e; rfl
        · obtain ⟨i, s, _, e⟩ := mem_gather.mp e
          obtain ⟨j, r, _, e⟩ := mem_gather.mp e
          obtain ⟨q, _, e⟩ := List.mem_map.mp e
          cases e
      · intro e
        cases e
        exact .inl rfl
    | (k, j) :: sp =>
      constructor
      · rintro (e | e)
        · cases e
        · obtain ⟨i, s, hs, e⟩ := mem_gather.mp e
          obtain ⟨i', r, hr, e⟩ := mem_gather.mp e
          obtain ⟨⟨q, y⟩, hq, e⟩ := List.mem_map.mp e
          simp only [Prod.mk.injEq, List.cons.injEq, Nat.zero_add] at e
          obtain ⟨⟨⟨rfl, rfl⟩, rfl⟩, rfl⟩ := e
          have hR : RoomD n r := (h.says s (List.mem_of_getElem? hs)).sides r (List.mem_of_getElem? hr)
          show (stepD d (i, i')).bind _ = _
          simp only [stepD, hs, Option.bind_some, hr]
          exact (mem_rooms hR).mp hq
      · intro e
        right
        obtain ⟨r, hr, e⟩ := Option.bind_eq_some_iff.mp (show (stepD d (k, j)).bind (fun x => atD x sp) = some x from e)
        have hR := h.step hr
        unfold stepD at hr
        obtain ⟨s, hs, hr⟩ := Option.bind_eq_some_iff.mp hr
        refine mem_gather.mpr ⟨k, s, hs, mem_gather.mpr ⟨j, r, hr, List.mem_map.mpr ⟨(sp, x), (mem_rooms hR).mpr e, by simp⟩⟩⟩
theorem gather_nodup {α β γ : Type} {g : Nat → α → List β} {t : β → Option γ} (f : β → Nat) : ∀ {ds : List α} {k : Nat}, (∀ i d, d ∈ ds → (g i d).Nodup) → (∀ i d y, y ∈ g i d → f y = i) → (gather g k ds).Nodup
  | [], _, _, _ => List.nodup_nil
  | d :: ds, k, h, hf => by
    rw [gather, List.nodup_append]
    refine ⟨h _ _ List.mem_cons_self, gather_nodup (t := t) f (fun i d hd => h i d (List.mem_cons_of_mem _ hd)) hf, ?_⟩
    intro a ha b hb e
    subst e
    obtain ⟨i, d', _, hb⟩ := mem_gather.mp hb
    have h1 := hf _ _ _ ha
    have h2 := hf _ _ _ hb
    omega
theorem gather_map {α β γ : Type} {g : Nat → α → List β} {f : β → γ} : ∀ {ds : List α} {k : Nat}, (gather g k ds).map f = gather (fun i d => (g i d).map f) k ds
  | [], _ => rfl
  | d :: ds, k => by rw [gather, gather, List.map_append, gather_map]
theorem rooms_nodup : ∀ {n : Nat} {d : D}, RoomD n d → ((roomsL n d).map (·.1)).Nodup
  | 0, d, h => h.elim
  | n + 1, d, h => by
    rw [roomsL, List.map_cons, List.nodup_cons]
    refine ⟨?_, ?_⟩
    · intro e
      obtain ⟨y, hy, e⟩ := List.mem_map.mp e
      obtain ⟨i, s, _, hy⟩ := mem_gather.mp hy
      obtain ⟨j, r, _, hy⟩ := mem_gather.mp hy
      obtain ⟨q, _, rfl⟩ := List.mem_map.mp hy
      cases e
    · rw [gather_map]
      refine gather_nodup (t := fun _ => (none : Option Nat)) (fun sp : Spot => (sp.headD (0, 0)).1) (fun i s hs => ?_) ?_
      · rw [gather_map]
        refine gather_nodup (t := fun _ => (none : Option Nat)) (fun sp : Spot => (sp.headD (0, 0)).2) (fun j r hr => ?_) ?_
        · have hR := (h.says s hs).sides r hr
          rw [List.map_map]
          have := rooms_nodup hR
          rw [show (Prod.fst ∘ fun q : Spot × D => ((i, j) :: q.1, q.2)) = (List.cons (i, j)) ∘ (Prod.fst : Spot × D → Spot) from rfl, ← List.map_map]
          exact List.Pairwise.map _ (fun a b h e => h (by simpa using e)) this
        · intro j r y hy
          obtain ⟨q, hq, rfl⟩ := List.mem_map.mp hy
          obtain ⟨q, _, rfl⟩ := List.mem_map.mp hq
          rfl
      · intro i s y hy
        obtain ⟨q, hq, rfl⟩ := List.mem_map.mp hy
        obtain ⟨j, r, _, hq⟩ := mem_gather.mp hq
        obtain ⟨q, _, rfl⟩ := List.mem_map.mp hq
        simp
theorem nods_mem : ∀ {xs : List D} {x : D}, x ∈ xs → nod x ≤ nods xs
  | y :: xs, x, h => by
    rcases List.mem_cons.mp h with rfl | h
    · simp only [nods]; omega
    · have := nods_mem h
      simp only [nods]; omega
theorem gather_le {α β : Type} {g : Nat → α → List β} {w : α → Nat} : ∀ {ds : List α} {k : Nat}, (∀ i d, d ∈ ds → (g i d).length ≤ w d) → (gather g k ds).length ≤ (ds.map w).sum
  | [], _, _ => Nat.le_refl _
  | d :: ds, k, h => by
    have h1 := h k d List.mem_cons_self
    have h2 := gather_le (g := g) (k := k + 1) fun i d hd => h i d (List.mem_cons_of_mem _ hd)
    simp only [gather, List.length_append, List.map_cons, List.sum_cons]
    omega
theorem nods_sum : ∀ xs : List D, nods xs = (xs.map nod).sum
  | [] => rfl
  | x :: xs => by simp only [nods, List.map_cons, List.sum_cons, nods_sum xs]
theorem rooms_len : ∀ {n : Nat} {d : D}, RoomD n d → (roomsL n d).length ≤ nod d
  | 0, d, h => h.elim
  | n + 1, d, h => by
    have hs := h.says
    obtain ⟨gs, ss, rfl, h1, h2, h3, h4⟩ := h
    rw [roomsL, List.length_cons]
    have := gather_le (g := fun k s => gather (fun j r => (roomsL n r).map fun q => ((k, j) :: q.1, q.2)) 0 (sidesD s)) (w := nod) (ds := ss) (k := 0) fun i s hs => by
      have := gather_le (g := fun j r => (roomsL n r).map fun q => ((i, j) :: q.1, q.2)) (w := nod) (ds := sidesD s) (k := 0) fun j r hr => by
        rw [List.length_map]
        exact rooms_len ((h4 s hs).sides r hr)
      refine Nat.le_trans this ?_
      obtain ⟨rest, e, _, e2⟩ := (h4 s hs).form
      rcases e2 with ⟨_, e2⟩ | ⟨_, e2⟩
      · rw [e2]; simp
      · rw [e2, e, ← nods_sum]
        simp only [nod, nods]
        omega
    rw [← nods_sum] at this
    show (gather _ 0 ss).length + 1 ≤ _
    simp only [nod, nods]
    omega
end K12
set_option Elab.async false
set_option linter.all false
set_option maxRecDepth 100000
set_option maxHeartbeats 2000000
namespace K12
open PySem PyProof.Rows L2 MI
theorem flat_len {α β : Type} {f : α → List β} {c : Nat} : ∀ {L : List α}, (∀ x ∈ L, (f x).length ≤ c) → (L.flatMap f).length ≤ c * L.length
  | [], _ => Nat.zero_le _
  | x :: L, h => by
    have h1 := h x List.mem_cons_self
    have h2 := flat_len (L := L) fun y hy => h y (List.mem_cons_of_mem _ hy)
    rw [List.flatMap_cons, List.length_append, List.length_cons, Nat.mul_add]
    omega
theorem ext_loc {l : Nat} {xs ys : List D} {S : Sto} (e : S[l]? = some (.lst xs)) (hz : (xs ++ ys).length ≤ sizeLine) : extM (.loc l) [.lst ys] S = .ok .non (S.set l (.lst (xs ++ ys))) := by
  show bnd (locL (.loc l)) _ S = _
  have e1 : locL (.loc l) S = .ok (l, xs) S := by unfold locL; simp only [e]
  rw [bnd_t e1, bnd_t (look_t (k := ys) rfl)]
  unfold putL
  rw [if_pos (by simpa using hz)]
theorem RoomD.look {n : Nat} {d : D} {p : Nat × Nat} {x : D} (h : RoomD (n + 1) d) (e : stepD d p = some x) : ∃ fs ss s, d = .tup [.tup fs, .tup ss] ∧ ss[p.1]? = some s ∧ SayD (RoomD n) s ∧ (sidesD s)[p.2]? = some x ∧ saysD d = ss := by
  have hs := h.says
  obtain ⟨gs, ss, rfl, _⟩ := h.form
  unfold stepD at e
  obtain ⟨s, e1, e2⟩ := Option.bind_eq_some_iff.mp e
  exact ⟨_, ss, s, rfl, e1, hs s (List.mem_of_getElem? e1), e2, rfl⟩
theorem lenM_tup {xs : List D} {S : Sto} (h : xs.length ≤ sizeLine) : lenM [.tup xs] S = .ok (.int (xs.length : Int)) S := by
  show bnd (look fun S => lenOf S (.tup xs)) _ S = _
  rw [bnd_t (look_t (k := xs.length) rfl), gd_t (decide_eq_true h)]
  rfl
theorem evG_pair {cf : Cf} {gl : Str → Option D} {σ : MI.Env} {a b : Nat} {x y : D} {S : Sto} : evG cf gl σ (.tup [.name a, .name b]) (.tup [x, y]) S = .ok ((σ.set a (some x)).set b (some y)) S := by
  rw [evG, bnd_t (look_t (k := [x, y]) rfl), gd_t (by show decide (2 ≤ sizeLine) = true; decide)]
  show evGs cf gl σ [.name a, .name b] [x, y] S = _
  simp
theorem slc_tup {m : Bool} {xs : List D} {l h : Option Int} {S : Sto} : slcM m (.tup xs) l h S = .ok (.tup (cut xs l h)) S := rfl
theorem drop1 {xs : List D} : cut xs (some 1) none = xs.drop 1 := cut_drop (i := 1)
def sndD : D → D
  | .tup [_, s] => s
  | d => d
theorem gather_enum {g : Nat → D → List D} : ∀ {xs : List D} {k j : Nat}, gather (fun i d => g i (sndD d)) k (enumD j xs) = gather g k xs
  | [], k, j => rfl
  | x :: xs, k, j => by
    rw [enumD, gather, gather, gather_enum]
    rfl
abbrev enR (q : Spot × D) : D := .tup [enT q.1, q.2]
theorem add_tup {m : Bool} {a b : List D} {S : Sto} (h : (a ++ b).length ≤ sizeLine) : binM m .Add (.tup a) (.tup b) S = .ok (.tup (a ++ b)) S := by
  show mkTup (a ++ b) S = _
  exact mkTup_ok h
theorem gather_one {α β : Type} {f : α → β} : ∀ {ds : List α} {k : Nat}, gather (fun _ d => [f d]) k ds = ds.map f
  | [], _ => rfl
  | d :: ds, k => by rw [gather, gather_one]; rfl
theorem sides_nod {R : D → Prop} {s r : D} (h : SayD R s) (hr : r ∈ sidesD s) : nod r ≤ nod s := by
  obtain ⟨rest, e, _, e2⟩ := h.form
  rcases e2 with ⟨_, e2⟩ | ⟨_, e2⟩
  · rw [e2] at hr; cases hr
  · rw [e2] at hr
    rw [e]
    have := nods_mem hr
    simp only [nod, nods]
    omega
theorem wr_one {cf : Cf} {gl : Str → Option D} {σ : MI.Env} {S : Sto} {s : MS} {P : Fl × MI.Env → Sto → Prop} (h : Wr (exS cf gl s σ S) fun p S' => p.1 = .nx ∧ P p S') : Wr (exSs cf gl [s] σ S) fun p S' => p.1 = .nx ∧ P p S' := by
  obtain ⟨⟨fl, σ2⟩, S2, e, e2, p⟩ := h
  simp only at e2
  subst e2
  exact wr_cons e (by simpa using p)
end K12
set_option Elab.async false
set_option linter.all false
set_option maxRecDepth 100000
set_option maxHeartbeats 2000000
namespace K12
open PySem PyProof.Rows L2 MI
theorem sides_of_ok {k : Nat} {R : D → Prop} {s : D} {S : Sto} (h : SayD R s) : callN T gl (k + 2) "sides_of" [s] S = .ok (.tup (sidesD s)) S := by
  obtain ⟨rest, e, hl, hc⟩ := h.form
  generalize headS s = w at e hc
  generalize sidesD s = r at hc
  subst e
  have i1 : inM (.str w) (.ktup [.str sIs, .str sCalled, .str sOf, .str sDoes]) S = .ok (decide (w ∈ PLw)) S := in_seq (ws := PLw) rfl
  have pl : callN T gl (k + 1) "is_plain" [.tup (.str w :: rest)] S = .ok (.bl (decide (w ∈ PLw))) S := by
    rw [call_of T_is_plain rfl]
    show endC (exSs _ gl b_is_plain [some (.tup (.str w :: rest))] S) = _
    simp only [b_is_plain, exSs_cons, exS_ret, evE_cmp, evE_idx, evE_var, getV_0, ofO_some, then_ok, bnd_app, evE_int, idx_0, evE_glob, g_PLAIN, cmp_in, i1, ret_app, endC_ret]
  rw [call_of T_sides_of rfl]
  show endC (exSs _ gl b_sides_of [some (.tup (.str w :: rest))] S) = _
  rcases hc with ⟨hw, rfl⟩ | ⟨hw, rfl⟩
  · rw [decide_eq_true hw] at pl
    simp only [b_sides_of, exSs_cons, exS_ret, evE_ite, evT_val, evE_call, evEs_cons, evEs_nil, evE_var, getV_0, ofO_some, then_ok, bnd_app, ret_app, pl, look_app, truthOf_bl, if_true, evE_tup, mkTup_ok (show ([] : List D).length ≤ sizeLine by decide), endC_ret]
  · have : ¬ w ∈ PLw := by
      rcases hw with rfl | rfl | rfl <;> decide
    rw [decide_eq_false this] at pl
    simp only [b_sides_of, exSs_cons, exS_ret, evE_ite, evT_val, evE_call, evEs_cons, evEs_nil, evE_var, getV_0, ofO_some, then_ok, bnd_app, ret_app, pl, look_app, truthOf_bl, Bool.false_eq_true, if_false, evE_slc, evO_at, evE_int, evO_no, slc_tup, drop1, endC_ret, List.drop_succ_cons, List.drop_zero]
theorem atD_app : ∀ {a b : Spot} {d : D}, atD d (a ++ b) = (atD d a).bind fun x => atD x b
  | [], b, d => rfl
  | p :: a, b, d => by
    show (stepD d p).bind (fun x => atD x (a ++ b)) = ((stepD d p).bind fun x => atD x a).bind fun x => atD x b
    cases stepD d p with
    | none => rfl
    | some x => exact atD_app
theorem rng3_ok {m : Nat} {S : Sto} (h : m ≤ 5) : rng3M (.int 0) (.int ((2 * m : Nat) : Int)) (.int 2) S = .ok (.items (intsBy 0 2 m)) S := by
  have : m = 0 ∨ m = 1 ∨ m = 2 ∨ m = 3 ∨ m = 4 ∨ m = 5 := by omega
  rcases this with rfl | rfl | rfl | rfl | rfl | rfl <;> rfl
theorem intsBy_get : ∀ {n i : Nat} {lo c : Int} {d : D}, (intsBy lo c n)[i]? = some d → d = .int (lo + c * i) ∧ i < n
  | 0, _, _, _, _, h => by simp [intsBy] at h
  | n + 1, 0, lo, c, d, h => by
    rw [intsBy, List.getElem?_cons_zero] at h
    cases h
    simp
  | n + 1, i + 1, lo, c, d, h => by
    rw [intsBy, List.getElem?_cons_succ] at h
    obtain ⟨e, hi⟩ := intsBy_get h
    refine ⟨e.trans ?_, by omega⟩
    congr 1
    rw [show ((i + 1 : Nat) : Int) = (i : Int) + 1 by omega, Int.mul_add]
    omega
theorem intsBy_len : ∀ {n : Nat} {lo c : Int}, (intsBy lo c n).length = n
  | 0, _, _ => rfl
  | n + 1, lo, c => by rw [intsBy, List.length_cons, intsBy_len]
theorem cut_mid {α : Type} {xs ys : List α} {a b : α} {i : Nat} (h : xs.length = i) : cut (xs ++ a :: b :: ys) (some (i : Int)) (some ((i : Int) + 2)) = [a, b] := by
  unfold cut
  rw [show (i : Int) + 2 = ((i + 2 : Nat) : Int) by omega, sIx_nat, sIx_nat]
  simp only [List.length_append, List.length_cons]
  rw [Nat.min_eq_left (by omega), Nat.min_eq_left (by omega), List.drop_append_of_le_length (by omega), ← h, List.drop_length]
  rw [show xs.length + 2 - xs.length = 2 by omega]
  rfl
theorem ev_range3 {cf : Cf} {gl : Str → Option D} {σ : MI.Env} {S S1 S2 S3 : Sto} {m : Bool} {a b c : ME} {x y z : D} {i : MI.It} (h1 : evE cf gl σ a S = .ok x S1) (h2 : evE cf gl σ b S1 = .ok y S2) (h3 : evE cf gl σ c S2 = .ok z S3) (h : rng3M x y z S3 = .ok i S3) : evI cf gl σ (.it (.blt m "range" [a, b, c])) S = .ok i S3 := by
  rw [evI_blt, evEs_cons, h1, then_ok, bnd_app, evEs_cons, h2, then_ok, bnd_app, evEs_cons, h3, then_ok, bnd_app, evEs_nil, then_ok, ret_app, then_ok, ret_app, then_ok, ret_app, then_ok, ib_range]
  exact h
def room_at_b : List MS := [(.asg (.tup [(.name 4), (.name 5)]) (.slc false (.var 1) (.at (.var 3)) (.at (.bin false .Add (.var 3) (.int (2)))))),
    (.asg (.name 2) (.idx (.call "sides_of" [(.idx (.idx (.var 2) (.int (1))) (.var 4))]) (.var 5)))]
theorem b_room_at_eq : b_room_at = [(.asg (.name 2) (.var 0)), (.for (.name 3) (.it (.blt false "range" [(.int (0)), (.blt false "len" [(.var 1)]), (.int (2))])) room_at_b), (.ret (.var 2))] := rfl
theorem room_at_ok {k n : Nat} {d x : D} {sp : Spot} {S : Sto} (h : RoomD n d) (hn : n ≤ 5) (e : atD d sp = some x) : callN T gl (k + 3) "room_at" [d, enT sp] S = .ok x S := by
  obtain ⟨m, _, hm⟩ := h.at_ e
  have key : Wr (callN T gl (k + 3) "room_at" [d, enT sp] S) fun v S' => v = x ∧ S' = S := by
    refine wr_call T_room_at rfl ?_
    show Wr (exSs _ gl b_room_at [some d, some (enT sp), none, none, none, none] S) _
    rw [b_room_at_eq]
    refine wr_cons (σ2 := [some d, some (enT sp), some d, none, none, none]) (S2 := S) (by simp) ?_
    have hL : lenM [enT sp] S = .ok (.int ((2 * sp.length : Nat) : Int)) S := by
      rw [lenM_tup (by rw [sz]; simp [enS_len]; omega), List.length_map, enS_len]
    refine wr_seq (P := fun σ S' => S' = S ∧ ∃ o3 o4 o5, σ = [some d, some (enT sp), some x, o3, o4, o5]) ?_ ?_
    · refine wr_forS (ds := intsBy 0 2 sp.length) (S1 := S) ?_ ?_
      · exact ev_range3 (evE_int _) (ev_blt1 (f := "len") (ev_var rfl) (by rw [bm_len]; exact hL)) (evE_int _) (rng3_ok (by omega))
      · refine (wr_for (k := 0) (I := fun i σ S' => S' = S ∧ ∃ here o3 o4 o5, σ = [some d, some (enT sp), some here, o3, o4, o5] ∧ atD d (sp.take i) = some here) (J := fun σ S' => S' = S ∧ ∃ o3 o4 o5, σ = [some d, some (enT sp), some x, o3, o4, o5]) ?_ ?_ ⟨rfl, d, none, none, none, rfl, rfl⟩).mono ?_
        · rintro i t σ S' hd ⟨rfl, here, o3, o4, o5, rfl, hh⟩
          simp only [Nat.zero_add] at hh ⊢
          obtain ⟨rfl, hi⟩ := intsBy_get hd
          obtain ⟨m2, hr2, _⟩ := h.at_ hh
          have hp := List.getElem?_eq_getElem hi
          generalize hpp : sp[i] = p at hp
          have hsplit : sp = sp.take i ++ p :: sp.drop (i + 1) := by
            rw [← hpp, ← List.drop_eq_getElem_cons hi, List.take_append_drop]
          have e2 := e
          rw [hsplit, atD_app, hh, Option.bind_some] at e2
          obtain ⟨y, hy, _⟩ := Option.bind_eq_some_iff.mp (show (stepD here p).bind (fun x => atD x (sp.drop (i + 1))) = some x from e2)
          have hnext : atD d (sp.take (i + 1)) = some y := by
            rw [List.take_succ, hp]
            show atD d (sp.take i ++ [p]) = _
            rw [atD_snoc, hh]
            exact hy
          have hcut : slcM false (enT sp) (some (0 + 2 * (i : Int))) (some (0 + 2 * (i : Int) + 2)) S' = .ok (.tup [nD p.1, nD p.2]) S' := by
            have e3 : (enS sp).map D.int = (enS (sp.take i)).map D.int ++ nD p.1 :: nD p.2 :: (enS (sp.drop (i + 1))).map D.int := by
              rw [hsplit]
              rw [← hsplit]
              conv => lhs; rw [hsplit, enS_app]
              simp [enS]
            rw [enT, slc_tup, e3, show (0 + 2 * (i : Int)) = ((2 * i : Nat) : Int) by omega, cut_mid (by rw [List.length_map, enS_len, List.length_take]; omega)]
          obtain ⟨fs, ss, s, rfl, s1, s2, s3, s4⟩ := hr2.look hy
          have so := sides_of_ok (k := k) (S := S') s2
          refine Wr.of (a := (.nx, [some d, some (enT sp), some y, some (.int (0 + 2 * (i : Int))), some (nD p.1), some (nD p.2)])) (S' := S') ?_ (.inl ⟨rfl, rfl, _, _, _, _, rfl, hnext⟩)
          have j1 : idxM (.tup ss) (nD p.1) S' = .ok s S' := idx_tup s1
          have j2 : idxM (.tup (sidesD s)) (nD p.2) S' = .ok y S' := idx_tup s3
          generalize enT sp = t at *
          simp only [bnd_app, evG_name, then_ok, List.set_cons_succ, List.set_cons_zero, room_at_b, exSs_cons, exSs_nil, exS_asg, evE_slc, evE_var, getV_0, getV_s, ofO_some, evO_at, evE_bin, evE_int, bin_add, ret_app, hcut, evG_pair, evE_idx, evE_call, evEs_cons, evEs_nil, idx_1, j1, so, j2]
        · rintro σ S' ⟨rfl, here, o3, o4, o5, rfl, hh⟩
          rw [intsBy_len, Nat.zero_add, List.take_length, e] at hh
          cases hh
          exact ⟨rfl, _, _, _, rfl⟩
        · rintro r S' ⟨r1, r2⟩
          exact ⟨r1, r2⟩
    · rintro σ S2 ⟨rfl, o3, o4, o5, rfl⟩
      exact wr_ret (d := x) (S2 := S2) (ev_var rfl) ⟨rfl, rfl⟩
  obtain ⟨v, S', e1, rfl, rfl⟩ := key
  exact e1
end K12
set_option Elab.async false
set_option linter.all false
set_option maxRecDepth 100000
set_option maxHeartbeats 1000000000
/-! rooms can be shown -/
namespace K12
open PySem PyProof.Rows L2 MI PySem.Builtin PySem.Builtin.Str
theorem reprChar_le : ∀ c < 128, (reprChar 34 c).length ≤ 4 ∧ (reprChar 39 c).length ≤ 4 := by decide +kernel
theorem foldl_le {g : Nat → Nat} : ∀ {l : List Nat} {n : Nat}, (∀ c ∈ l, g c ≤ 4) → l.foldl (fun n c => n + g c) n ≤ n + 4 * l.length
  | [], n, _ => by simp
  | c :: l, n, h => by
    have := foldl_le (l := l) (n := n + g c) fun c hc => h c (List.mem_cons_of_mem _ hc)
    have h1 := h c List.mem_cons_self
    simp only [List.foldl_cons, List.length_cons]
    omega
theorem reprText_le {u : List Nat} (h : ∀ c ∈ u, c < 128) : (reprText (toStr u)).length ≤ 4 * u.length + 2 := by
  rw [← reprLen_eq]
  show (u.toArray.foldl _ 2) ≤ _
  rw [List.foldl_toArray]
  have := foldl_le (g := fun c => (reprChar (reprQuote (toStr u)) c).length) (l := u) (n := 2) fun c hc => by
    have hq : reprQuote (toStr u) = 34 ∨ reprQuote (toStr u) = 39 := by
      unfold reprQuote
      split
      · exact .inl rfl
      · exact .inr rfl
    rcases hq with e | e <;> rw [e]
    · exact (reprChar_le c (h c hc)).1
    · exact (reprChar_le c (h c hc)).2
  omega
theorem int_lg {x : Nat} (h : x ≤ 1000000000) : ((x : Int)).natAbs.log2 < 30 := by
  by_cases h0 : x = 0
  · subst h0; decide
  · exact (Nat.log2_lt (by omega)).mpr (by omega)
theorem int_le {x : Nat} (h : x ≤ 1000000000) : (Str.ofString (toString (x : Int))).length ≤ 30 := by
  have := int_text_length_le10 (a := (x : Int)) (k := 10) (by decide) (by omega)
  rw [PySem.ofString_length]
  omega
theorem join_le (ts : List Str) : (Str.join ", " ts).length ≤ (ts.map (·.length)).sum + 2 * ts.length := by
  have := StrLaws.join_length_le ", " ts
  have e : ((", " : String) : Str).length = 2 := rfl
  rw [e] at this
  omega
mutual
/-- data of whole numbers and short texts, dp deep at most -/
def okD : Nat → D → Prop
  | _, .int i => ∃ x : Nat, i = x ∧ x ≤ 1000000000
  | _, .str x => TxtOk x
  | 0, .tup _ => False
  | n + 1, .tup xs => okDs n xs
  | _, _ => False
def okDs : Nat → List D → Prop
  | _, [] => True
  | n, d :: ds => okD n d ∧ okDs n ds
end
theorem okDs_of {n : Nat} : ∀ {xs : List D}, (∀ x ∈ xs, okD n x) → okDs n xs
  | [], _ => by simp [okDs]
  | x :: xs, h => by
    rw [okDs]
    exact ⟨h x List.mem_cons_self, okDs_of fun y hy => h y (List.mem_cons_of_mem _ hy)⟩
mutual
theorem shD : ∀ {n : Nat} {d : D}, okD n d → ∃ p, (∀ f, toPyA f d = some p) ∧ PyData.showable p = true ∧ p.depth ≤ n ∧ p.shown.length + 2 ≤ 45 * nod d
  | n, .int i, h => by
    rw [okD.eq_def] at h
    obtain ⟨x, rfl, hx⟩ := h
    have hl := int_lg hx
    refine ⟨.int x, fun f => by rw [toPyA], by simp only [PyData.showable, decide_eq_true_iff]; omega, Nat.zero_le _, ?_⟩
    rw [PyData.shown_int]
    have := int_le hx
    simp only [nod]
    omega
  | n, .str x, h => by
    rw [okD.eq_def] at h
    refine ⟨.str (toStr x), fun f => by rw [toPyA], rfl, Nat.zero_le _, ?_⟩
    rw [PyData.shown_str]
    have := reprText_le h.2
    have := h.1
    simp only [nod]
    omega
  | 0, .tup xs, h => by rw [okD.eq_def] at h; exact h.elim
  | n + 1, .tup xs, h => by
    rw [okD.eq_def] at h
    obtain ⟨ps, k1, k2, k3, k4⟩ := shDs h
    refine ⟨.tuple ps, fun f => by rw [toPyA, k1 f]; rfl, by simpa [PyData.showable] using k2, by simp only [PyData.depth]; omega, ?_⟩
    rw [PyData.shown_tuple]
    have := join_le (PyData.shownAll ps)
    rw [PyData.shownAll_length] at this
    simp only [strLen_append]
    have e1 : ((("(" : String) : Str)).length = 1 := rfl
    have e3 : (((if ps.length == 1 then ",)" else ")" : String) : Str)).length ≤ 2 := by split <;> decide
    rw [e1]
    simp only [nod]
    omega
  | n, .non, h => by rw [okD.eq_def] at h; exact h.elim
  | n, .bl _, h => by rw [okD.eq_def] at h; exact h.elim
  | n, .lst _, h => by rw [okD.eq_def] at h; exact h.elim
  | n, .dct _ _, h => by rw [okD.eq_def] at h; exact h.elim
  | n, .scr _, h => by rw [okD.eq_def] at h; exact h.elim
  | n, .loc _, h => by rw [okD.eq_def] at h; exact h.elim
  | n, .fn _, h => by rw [okD.eq_def] at h; exact h.elim
  | n, .ty _, h => by rw [okD.eq_def] at h; exact h.elim
  | n, .ktup _, h => by rw [okD.eq_def] at h; exact h.elim
  | n, .dtt _ _, h => by rw [okD.eq_def] at h; exact h.elim
theorem shDs : ∀ {n : Nat} {ds : List D}, okDs n ds → ∃ ps, (∀ f, toPysA f ds = some ps) ∧ PyData.showableAll ps = true ∧ PyData.depthAll ps ≤ n ∧ ((PyData.shownAll ps).map (·.length)).sum + 2 * ps.length ≤ 45 * nods ds
  | n, [], h => ⟨[], fun f => by rw [toPysA], rfl, Nat.zero_le _, Nat.le_refl _⟩
  | n, d :: ds, h => by
    rw [okDs] at h
    obtain ⟨p, p1, p2, p3, p4⟩ := shD h.1
    obtain ⟨ps, q1, q2, q3, q4⟩ := shDs h.2
    refine ⟨p :: ps, fun f => by rw [toPysA, p1 f, q1 f], by simp [PyData.showableAll, p2, q2], by simp only [PyData.depthAll]; omega, ?_⟩
    rw [PyData.shownAll_cons]
    simp only [List.map_cons, List.sum_cons, List.length_cons, nods]
    omega
end
theorem repr_ok {n : Nat} {d : D} (h : okD n d) (hn : n ≤ 64) (hz : nod d ≤ 300000) (S : Sto) : ∃ u, reprM [d] S = .ok (.str u) S := by
  obtain ⟨p, p1, p2, p3, p4⟩ := shD h
  refine ⟨p.shown.cps.toList, ?_⟩
  show bnd (look fun S => toPy S d) _ S = _
  rw [bnd_t (look_t (k := p) (p1 _)), gd_t]
  · rfl
  · rw [Bool.and_eq_true, Bool.and_eq_true, decide_eq_true_iff, decide_eq_true_iff]
    exact ⟨⟨p2, by rw [sz]; omega⟩, by omega⟩
theorem repr_loc {n l : Nat} {xs : List D} (h : okDs n xs) (hn : n ≤ 60) (hz : nods xs ≤ 300000) : ∃ u, ∀ S : Sto, S[l]? = some (.lst xs) → reprM [.loc l] S = .ok (.str u) S := by
  obtain ⟨ps, q1, q2, q3, q4⟩ := shDs h
  refine ⟨(PyData.list ps).shown.cps.toList, fun S' e' => ?_⟩
  show bnd (look fun S => toPy S (.loc l)) _ S' = _
  have hp : toPy S' (.loc l) = some (.list ps) := by
    unfold toPy
    rw [toPyA, locPy, e']
    simp only [q1 _, Option.map_some]
  rw [bnd_t (look_t (k := PyData.list ps) hp), gd_t]
  · rfl
  · rw [Bool.and_eq_true, Bool.and_eq_true, decide_eq_true_iff, decide_eq_true_iff]
    refine ⟨⟨by simpa [PyData.showable] using q2, ?_⟩, by simp only [PyData.depth]; omega⟩
    rw [PyData.shown_list]
    have := join_le (PyData.shownAll ps)
    rw [PyData.shownAll_length] at this
    simp only [strLen_append]
    have e1 : ((("[" : String) : Str)).length = 1 := rfl
    have e3 : ((("]" : String) : Str)).length = 1 := rfl
    rw [e1, e3, sz]
    omega
end K12
set_option Elab.async false
set_option linter.all false
set_option maxRecDepth 100000
set_option maxHeartbeats 2000000
/-! comprehensions and loops that change nothing -/
namespace MI
open PySem PyProof.Rows L2
section
variable {cf : Cf} {gl : Str → Option D} {σ : MI.Env} {S : Sto}
theorem compL_map' {f : D → M (Option D)} {k : D → D} : ∀ {ds acc : List D}, (∀ d ∈ ds, f d S = .ok (some (k d)) S) → acc.length + ds.length ≤ sizeLine → compL f ds acc S = .ok (acc ++ ds.map k) S
  | [], acc, _, _ => by rw [compL, List.map_nil, List.append_nil]; rfl
  | d :: ds, acc, h, hz => by
    rw [List.length_cons] at hz
    rw [compL, bnd_app, h d List.mem_cons_self, then_ok]
    dsimp only
    rw [gd_t (decide_eq_true (by omega)), compL_map' (fun y hy => h y (List.mem_cons_of_mem _ hy)) (by simp; omega), List.map_cons, List.append_assoc]
    rfl
/-- [f(x) for x in ds] -/
theorem ev_compM {own : List Nat} {tg : MG} {it : MT} {elt : ME} {ds : List D} {k : D → D} {S1 : Sto} (hi : evI cf gl σ it S = .ok (.items ds) S1) (hz : ds.length ≤ sizeLine)
    (h : ∀ d ∈ ds, ∃ σ2, evG cf gl (wipeD σ own) tg d S1 = .ok σ2 S1 ∧ evE cf gl σ2 elt S1 = .ok (k d) S1) : evE cf gl σ (.comp false own tg it (.val (.bl true)) elt) S = .ok (.lst (ds.map k)) S1 := by
  rw [evE, bnd_app, hi, then_ok]
  dsimp only
  rw [bnd_app, compL_map' (k := k) (fun d hd => ?_) (by simpa using hz), then_ok, List.nil_append]
  · exact mkList_f (by rw [List.length_map]; exact hz)
  · obtain ⟨σ2, e1, e2⟩ := h d hd
    rw [bnd_app, e1, then_ok, bnd_app, evT_val, evE_bl, then_ok, look_app, truthOf_bl, ofO_some, then_ok, if_pos rfl, bnd_app, e2, then_ok]
    rfl
theorem compF_map {f : D → List D → M (List D)} {k : D → List D} : ∀ {ds acc : List D}, (∀ d ∈ ds, ∀ acc, acc.length + (k d).length ≤ sizeLine → f d acc S = .ok (acc ++ k d) S) → acc.length + (ds.flatMap k).length ≤ sizeLine → compF f ds acc S = .ok (acc ++ ds.flatMap k) S
  | [], acc, _, _ => by rw [compF, List.flatMap_nil, List.append_nil]; rfl
  | d :: ds, acc, h, hz => by
    rw [List.flatMap_cons, List.length_append] at hz
    rw [compF, bnd_app, h d List.mem_cons_self acc (by omega), then_ok, compF_map (fun y hy => h y (List.mem_cons_of_mem _ hy)) (by simp only [List.length_append]; omega), List.flatMap_cons, List.append_assoc]
/-- [f(x, y) for x in ds for y in g(x)] -/
theorem ev_comp2M {own : List Nat} {tg tg1 : MG} {it it1 : MT} {elt : ME} {ds : List D} {g : D → List D} {k : D → D → D} {S1 : Sto} (hi : evI cf gl σ it S = .ok (.items ds) S1) (hz : (ds.flatMap fun d => (g d).map (k d)).length ≤ sizeLine)
    (h : ∀ d ∈ ds, ∃ σ2, evG cf gl (wipeD σ own) tg d S1 = .ok σ2 S1 ∧ evI cf gl σ2 it1 S1 = .ok (.items (g d)) S1 ∧ ∀ d1 ∈ g d, ∃ σ3, evG cf gl (wipeD σ2 (gSlots tg1)) tg1 d1 S1 = .ok σ3 S1 ∧ evE cf gl σ3 elt S1 = .ok (k d d1) S1) :
    evE cf gl σ (.comp2 false own tg it (.val (.bl true)) tg1 it1 (.val (.bl true)) elt) S = .ok (.lst (ds.flatMap fun d => (g d).map (k d))) S1 := by
  rw [evE, bnd_app, hi, then_ok]
  dsimp only
  rw [bnd_app, compF_map (k := fun d => (g d).map (k d)) (fun d hd acc ha => ?_) (by simpa using hz), then_ok, List.nil_append]
  · exact mkList_f hz
  · obtain ⟨σ2, e1, e2, e3⟩ := h d hd
    rw [bnd_app, e1, then_ok, bnd_app, evT_val, evE_bl, then_ok, look_app, truthOf_bl, ofO_some, then_ok, if_pos rfl, bnd_app, e2, then_ok]
    dsimp only
    rw [List.length_map] at ha
    refine compL_map' (k := k d) (fun d1 hd1 => ?_) ha
    obtain ⟨σ3, e4, e5⟩ := e3 d1 hd1
    rw [bnd_app, e4, then_ok, bnd_app, evT_val, evE_bl, then_ok, look_app, truthOf_bl, ofO_some, then_ok, if_pos rfl, bnd_app, e5, then_ok]
    rfl
/-- what the turns bring, one behind another -/
def gatherD {α β : Type} (g : Nat → α → List β) : Nat → List α → List β
  | _, [] => []
  | k, d :: ds => g k d ++ gatherD g (k + 1) ds
/-- a loop whose turns add to a list that a name holds -/
theorem wr_forG {F : D → MI.Env → SR} {E : List D → MI.Env → Prop} {B : Nat} {g : Nat → D → List D} : ∀ {ds : List D} {k : Nat} {σ : MI.Env} {acc : List D},
    (∀ i d σ acc, ds[i]? = some d → E acc σ → acc.length + (g (k + i) d).length ≤ B → Wr (F d σ S) fun r S' => r.1 = .nx ∧ E (acc ++ g (k + i) d) r.2 ∧ S' = S) →
    E acc σ → acc.length + (gatherD g k ds).length ≤ B → Wr (forL F ds σ S) fun r S' => r.1 = .nx ∧ E (acc ++ gatherD g k ds) r.2 ∧ S' = S
  | [], k, σ, acc, h, he, hB => by
    rw [forL]
    simp only [ret_app, Wr_ok, gatherD, List.append_nil, true_and, and_true]
    exact he
  | d :: ds, k, σ, acc, h, he, hB => by
    rw [gatherD, List.length_append] at hB
    rw [forL]
    refine Wr_bnd ((h 0 d σ acc rfl he (by simp only [Nat.add_zero]; omega)).mono ?_)
    rintro ⟨fl, σ2⟩ S2 ⟨e, he2, hS⟩
    simp only at e
    subst e
    rw [hS]
    dsimp only
    refine (wr_forG (E := E) (B := B) (g := g) (k := k + 1) (acc := acc ++ g k d) (fun i d σ acc hd he hB => ?_) he2 (by simp only [List.length_append]; omega)).mono ?_
    · have := h (i + 1) d σ acc (by simpa using hd) he (by rwa [show k + (i + 1) = k + 1 + i by omega])
      rwa [show k + (i + 1) = k + 1 + i by omega] at this
    · rintro r S3 ⟨e1, e2, e3⟩
      refine ⟨e1, ?_, e3⟩
      rw [gatherD, ← List.append_assoc]
      exact e2
end
end MI
set_option Elab.async false
set_option linter.all false
set_option maxRecDepth 100000
set_option maxHeartbeats 4000000
/-! the spots of a room, told by the law and by the program -/
namespace K12
open PySem PyProof.Rows L2 MI
theorem gD_eq {α β : Type} {g : Nat → α → List β} : ∀ {ds : List α} {k : Nat}, gatherD g k ds = gather g k ds
  | [], _ => rfl
  | d :: ds, k => by rw [gatherD, gather, gD_eq]
theorem rooms_enR {n : Nat} {gs ss : List D} : (roomsL (n + 1) (.tup [.tup gs, .tup ss])).map enR = enR ([], .tup [.tup gs, .tup ss]) :: gather (fun i d => gather (fun j r => (roomsL n r).map fun q => enR ((i, j) :: q.1, q.2)) 0 (sidesD (sndD d))) 0 (enumD 0 ss) := by
  rw [roomsL, List.map_cons, gather_map, gather_enum (g := fun i s => gather (fun j r => (roomsL n r).map fun q => enR ((i, j) :: q.1, q.2)) 0 (sidesD s))]
  simp only [gather_map, List.map_map]
  rfl
/-- a room further in -/
def cv (i j : Nat) : D → D
  | .tup [.tup sp, x] => .tup [.tup (.int (i : Nat) :: .int (j : Nat) :: sp), x]
  | d => d
theorem cv_enR {i j : Nat} {q : Spot × D} : cv i j (enR q) = enR ((i, j) :: q.1, q.2) := by
  simp [cv, enS]
def spots_b2 : List MS := [(.asg (.name 1) (.bin false .Add (.var 1) (.comp false [6, 7] (.tup [(.name 6), (.name 7)]) (.it (.call "_law_spots" [(.var 5)])) (.val (.bl true)) (.tup [(.bin false .Add (.tup [(.var 2), (.var 4)]) (.var 6)), (.var 7)]))))]
def spots_b1 : List MS := [(.ifs (.val (.cmp (.idx (.var 3) (.int (0))) .In (.tup [(.str [110, 111, 116]), (.str [105, 102]), (.str [111, 114])]))) [(.for (.tup [(.name 4), (.name 5)]) (.it (.blt false "enumerate" [(.slc false (.var 3) (.at (.int (1))) .no)])) spots_b2)] [])]
theorem b_spots_eq : b_law_spots = [(.asg (.name 1) (.lst false [(.tup [(.tup []), (.var 0)])])), (.for (.tup [(.name 2), (.name 3)]) (.it (.blt false "enumerate" [(.idx (.var 0) (.int (1)))])) spots_b1), (.ret (.var 1))] := rfl
def SpotsOk (n K : Nat) : Prop := ∀ (d : D) (S : Sto), RoomD n d → n ≤ 5 → nod d ≤ 342 → callN T gl K "_law_spots" [d] S = .ok (.lst ((roomsL n d).map enR)) S
theorem spots_turn {n K i j : Nat} (ih : SpotsOk n K) {r : D} {S : Sto} {acc : List D} {o0 o2' o3 : Option D} (hr : RoomD n r) (hn : n ≤ 5) (hz : nod r ≤ 342) (hB : acc.length + (roomsL n r).length ≤ 400) {o6 o7 : Option D} :
    exSs (callN T gl K) gl spots_b2 [o0, some (.lst acc), some (.int (i : Nat)), o3, some (.int (j : Nat)), some r, o6, o7] S = .ok (.nx, [o0, some (.lst (acc ++ (roomsL n r).map fun q => enR ((i, j) :: q.1, q.2))), some (.int (i : Nat)), o3, some (.int (j : Nat)), some r, o6, o7]) S := by
  have c1 : evE (callN T gl K) gl [o0, some (.lst acc), some (.int (i : Nat)), o3, some (.int (j : Nat)), some r, o6, o7] (.comp false [6, 7] (.tup [(.name 6), (.name 7)]) (.it (.call "_law_spots" [(.var 5)])) (.val (.bl true)) (.tup [(.bin false .Add (.tup [(.var 2), (.var 4)]) (.var 6)), (.var 7)])) S = .ok (.lst (((roomsL n r).map enR).map (cv i j))) S := by
    refine ev_compM (ds := (roomsL n r).map enR) ?_ (by rw [List.length_map, sz]; omega) fun d hd => ?_
    · rw [evI_call]
      rw [evEs_cons, ev_var (d := r) rfl, then_ok, bnd_app, evEs_nil, then_ok, ret_app, then_ok, ih r S hr hn hz, then_ok]
      rfl
    · obtain ⟨q, hq, rfl⟩ := List.mem_map.mp hd
      have hat := (mem_rooms hr).mp (show (q.1, q.2) ∈ roomsL n r from hq)
      obtain ⟨m, _, hm⟩ := hr.at_ hat
      refine ⟨_, evG_pair, ?_⟩
      have hadd : binM false .Add (.tup [.int (i : Nat), .int (j : Nat)]) (enT q.1) S = .ok (enT ((i, j) :: q.1)) S := by
        rw [add_tup (by rw [sz]; simp [enS_len]; omega)]
        simp [enS]
      rw [cv_enR]
      simp only [wipeD, List.set_cons_succ, List.set_cons_zero]
      rw [evE_tup, evEs_cons, ev_bin (x := .tup [.int (i : Nat), .int (j : Nat)]) (y := enT q.1) (by
        rw [evE_tup, evEs_cons, ev_var (d := .int (i : Nat)) rfl, then_ok, bnd_app, evEs_cons, ev_var (d := .int (j : Nat)) rfl, then_ok, bnd_app, evEs_nil]
        simp only [then_ok, ret_app]
        exact mkTup_ok (by show 2 ≤ sizeLine; decide)) (ev_var rfl) hadd, then_ok, bnd_app, evEs_cons, ev_var (d := q.2) rfl, then_ok, bnd_app, evEs_nil]
      simp only [then_ok, ret_app]
      exact mkTup_ok (by show 2 ≤ sizeLine; decide)
  unfold spots_b2
  have hadd : binM false .Add (.lst acc) (.lst (((roomsL n r).map enR).map (cv i j))) S = .ok (.lst (acc ++ (roomsL n r).map fun q => enR ((i, j) :: q.1, q.2))) S := by
    rw [add_lst (by rw [sz]; simp; omega), List.map_map, show (cv i j ∘ enR) = (fun q => enR ((i, j) :: q.1, q.2)) from funext fun q => cv_enR]
  rw [exSs_cons, ex_asg (ev_bin (ev_var (d := .lst acc) rfl) c1 hadd), then_ok]
  simp
theorem evT_head {cf : Cf} {w : List Nat} {rest : List D} {S : Sto} {o0 o1 o2 o4 o5 o6 o7 : Option D} : evT cf gl [o0, o1, o2, some (.tup (.str w :: rest)), o4, o5, o6, o7] (.val (.cmp (.idx (.var 3) (.int (0))) .In (.tup [(.str [110, 111, 116]), (.str [105, 102]), (.str [111, 114])]))) S = .ok (decide (w ∈ [sNot, sIf, sOr])) S := by
  have i1 : inM (.str w) (.tup [.str sNot, .str sIf, .str sOr]) S = .ok (decide (w ∈ [sNot, sIf, sOr])) S := in_seq (ws := [sNot, sIf, sOr]) rfl
  simp [idx_0, i1, sz, mkTup_ok]
theorem spots_step {n K : Nat} (ih : SpotsOk n K) : SpotsOk (n + 1) (K + 1) := by
  intro d S h hn5 hz
  have hsay := h.says
  have hlen := rooms_len h
  obtain ⟨gs, ss, rfl, g1, g2⟩ := h.form
  have hsay2 : ∀ s ∈ ss, SayD (RoomD n) s := hsay
  clear hsay
  have key : Wr (callN T gl (K + 1) "_law_spots" [.tup [.tup (gs.map nD), .tup ss]] S) fun v S' => v = .lst ((roomsL (n + 1) (.tup [.tup (gs.map nD), .tup ss])).map enR) ∧ S' = S := by
    refine wr_call T_law_spots rfl ?_
    show Wr (exSs _ gl b_law_spots _ S) _
    rw [b_spots_eq]
    generalize hrm : D.tup [.tup (gs.map nD), .tup ss] = rm at *
    refine wr_cons (σ2 := [some rm, some (.lst [enR ([], rm)]), none, none, none, none, none, none]) (S2 := S) (by
      simp [mkTup_ok, sz, mkList_f]
      rfl) ?_
    refine wr_seq (P := fun σ S' => S' = S ∧ ∃ o2 o3 o4 o5 o6 o7, σ = [some rm, some (.lst ((roomsL (n + 1) rm).map enR)), o2, o3, o4, o5, o6, o7]) ?_ ?_
    · refine wr_forS (ds := enumD 0 ss) (S1 := S) (by rw [← hrm]; simp [idx_1]) ?_
      have hg : enR ([], rm) :: gather (fun i d => gather (fun j r => (roomsL n r).map fun q => enR ((i, j) :: q.1, q.2)) 0 (sidesD (sndD d))) 0 (enumD 0 ss) = (roomsL (n + 1) rm).map enR := by rw [← hrm, rooms_enR]
      have hgl := congrArg List.length hg
      rw [List.length_map, List.length_cons] at hgl
      refine (wr_forG (E := fun acc σ => ∃ o2 o3 o4 o5 o6 o7, σ = [some rm, some (.lst acc), o2, o3, o4, o5, o6, o7]) (B := 342) (g := fun i d => gather (fun j r => (roomsL n r).map fun q => enR ((i, j) :: q.1, q.2)) 0 (sidesD (sndD d))) (k := 0) (acc := [enR ([], rm)]) ?_ ⟨_, _, _, _, _, _, rfl⟩ (by rw [gD_eq]; simp only [List.length_singleton]; omega)).mono ?_
      · rintro i d σ acc hd ⟨o2, o3, o4, o5, o6, o7, rfl⟩ hB
        obtain ⟨s, hs, rfl⟩ := enumD_get hd
        simp only [Nat.zero_add] at hB ⊢
        have hsy : SayD (RoomD n) s := hsay2 s (List.mem_of_getElem? hs)
        have hnod : nod s ≤ 342 := by
          have h2 := nods_mem (List.mem_of_getElem? hs)
          rw [← hrm] at hz
          simp only [nod, nods] at hz
          omega
        refine Wr_bnd (Wr.of evG_pair ?_)
        simp only [List.set_cons_succ, List.set_cons_zero]
        unfold spots_b1
        rw [exSs_cons, exS_ifs]
        have hh := hsy.form
        obtain ⟨rest, e, hl, hc⟩ := hh
        generalize hsd : sidesD s = r at hc hB ⊢
        have hev : evT (callN T gl K) gl [some rm, some (.lst acc), some (.int (i : Nat)), some s, o4, o5, o6, o7] (.val (.cmp (.idx (.var 3) (.int (0))) .In (.tup [(.str [110, 111, 116]), (.str [105, 102]), (.str [111, 114])]))) S = .ok (decide (headS s ∈ [sNot, sIf, sOr])) S := by
          rw [e]
          exact evT_head
        rw [hev, then_ok]
        rcases hc with ⟨hw, rfl⟩ | ⟨hw, hr⟩
        · have : ¬ headS s ∈ [sNot, sIf, sOr] := by
            intro h
            simp only [PLw, List.mem_cons, List.not_mem_nil, or_false] at hw h
            rcases hw with h' | h' | h' | h' <;> rw [h'] at h <;> exact absurd h (by decide)
          rw [decide_eq_false this]
          have e0 : sidesD (sndD (.tup [.int (i : Nat), s])) = [] := hsd
          refine Wr.of (a := (.nx, [some rm, some (.lst acc), some (.int (i : Nat)), some s, o4, o5, o6, o7])) (S' := S) (by simp) ⟨rfl, ?_, rfl⟩
          rw [e0, gather, List.append_nil]
          exact ⟨_, _, _, _, _, _, rfl⟩
        · have : headS s ∈ [sNot, sIf, sOr] := by
            simp only [List.mem_cons, List.not_mem_nil, or_false]
            exact hw
          rw [decide_eq_true this]
          simp only [if_true]
          have hsd2 : sidesD (sndD (.tup [.int (i : Nat), s])) = r := hsd
          rw [hsd2] at hB ⊢
          subst hr
          have hsl : evI (callN T gl K) gl [some rm, some (.lst acc), some (.int (i : Nat)), some s, o4, o5, o6, o7] (.it (.blt false "enumerate" [(.slc false (.var 3) (.at (.int (1))) .no)])) S = .ok (.items (enumD 0 r)) S := by
            rw [e]
            simp [slc_tup, drop1]
          have loop : Wr (exS (callN T gl K) gl (.for (.tup [(.name 4), (.name 5)]) (.it (.blt false "enumerate" [(.slc false (.var 3) (.at (.int (1))) .no)])) spots_b2) [some rm, some (.lst acc), some (.int (i : Nat)), some s, o4, o5, o6, o7] S) fun p S' => p.1 = .nx ∧ (∃ o2 o3 o4 o5 o6 o7, p.2 = [some rm, some (.lst (acc ++ gather (fun j r => (roomsL n r).map fun q => enR ((i, j) :: q.1, q.2)) 0 r)), o2, o3, o4, o5, o6, o7]) ∧ S' = S := by
            refine wr_forS hsl ?_
            refine (wr_forG (E := fun acc σ => ∃ o4 o5 o6 o7, σ = [some rm, some (.lst acc), some (.int (i : Nat)), some s, o4, o5, o6, o7]) (B := 342) (g := fun j d => (roomsL n (sndD d)).map fun q => enR ((i, j) :: q.1, q.2)) (k := 0) (acc := acc) ?_ ⟨_, _, _, _, rfl⟩ (by rw [gD_eq, gather_enum (g := fun j r => (roomsL n r).map fun q => enR ((i, j) :: q.1, q.2))]; exact hB)).mono ?_
            · rintro j d σ acc3 hd ⟨o4, o5, o6, o7, rfl⟩ hB3
              obtain ⟨x, hx, rfl⟩ := enumD_get hd
              simp only [Nat.zero_add] at hB3 ⊢
              have hxm : x ∈ sidesD s := by rw [hsd]; exact List.mem_of_getElem? hx
              refine Wr_bnd (Wr.of evG_pair ?_)
              simp only [List.set_cons_succ, List.set_cons_zero]
              have hsn : nod x ≤ 342 := Nat.le_trans (sides_nod hsy hxm) hnod
              rw [spots_turn (o2' := none) ih (hsy.sides x hxm) (by omega) hsn (by simp only [sndD, List.length_map] at hB3; omega)]
              exact ⟨_, _, rfl, rfl, ⟨_, _, _, _, rfl⟩, rfl⟩
            · rintro p S' ⟨e1, ⟨o4, o5, o6, o7, e2⟩, e3⟩
              rw [gD_eq, gather_enum (g := fun j r => (roomsL n r).map fun q => enR ((i, j) :: q.1, q.2))] at e2
              exact ⟨e1, ⟨_, _, _, _, _, _, e2⟩, e3⟩
          obtain ⟨⟨fl, σ⟩, S2, e1, e2, e3, e4⟩ := loop
          simp only at e2
          subst e2
          refine Wr.of (a := (.nx, σ)) (S' := S2) ?_ ⟨rfl, e3, e4⟩
          rw [exSs_cons, e1, then_ok]
          simp [exSs_nil]
      · rintro p S' ⟨e1, e2, e3⟩
        refine ⟨e1, e3, ?_⟩
        rw [gD_eq, List.singleton_append, hg] at e2
        exact e2
    · rintro σ S2 ⟨rfl, o2, o3, o4, o5, o6, o7, rfl⟩
      exact wr_ret (ev_var rfl) ⟨rfl, rfl⟩
  obtain ⟨v, S', e1, rfl, rfl⟩ := key
  exact e1
theorem spots_ok : ∀ n K : Nat, n ≤ K → SpotsOk n K
  | 0, K, h => by
    intro d S h
    exact h.elim
  | n + 1, K, h => by
    obtain ⟨K, rfl⟩ : ∃ K', K = K' + 1 := ⟨K - 1, by omega⟩
    exact spots_step (spots_ok n K (by omega))
end K12
set_option Elab.async false
set_option linter.all false
set_option maxRecDepth 100000
set_option maxHeartbeats 4000000
/-! spots_in, all_named, figures_in -/
namespace K12
open PySem PyProof.Rows L2 MI
theorem wr_forA {F : D → MI.Env → SR} {E : MI.Env → Prop} {f B : Nat} {g : Nat → D → List D} {S0 : Sto} : ∀ {ds : List D} {k : Nat} {σ : MI.Env} {S : Sto} {acc : List D},
    (∀ i d σ S acc, ds[i]? = some d → E σ → S[f]? = some (.lst acc) → Chg [f] S0 S → acc.length + (g (k + i) d).length ≤ B → Wr (F d σ S) fun r S' => r.1 = .nx ∧ E r.2 ∧ S'[f]? = some (.lst (acc ++ g (k + i) d)) ∧ Chg [f] S S') →
    E σ → S[f]? = some (.lst acc) → Chg [f] S0 S → acc.length + (gather g k ds).length ≤ B →
    Wr (forL F ds σ S) fun r S' => r.1 = .nx ∧ E r.2 ∧ S'[f]? = some (.lst (acc ++ gather g k ds)) ∧ Chg [f] S S'
  | [], k, σ, S, acc, h, he, hf, hc, hB => by
    rw [forL]
    simp only [ret_app, Wr_ok, gather, List.append_nil, true_and]
    exact ⟨he, hf, Chg.refl⟩
  | d :: ds, k, σ, S, acc, h, he, hf, hc, hB => by
    rw [gather, List.length_append] at hB
    rw [forL]
    refine Wr_bnd ((h 0 d σ S acc rfl he hf hc (by simp only [Nat.add_zero]; omega)).mono ?_)
    rintro ⟨fl, σ2⟩ S2 ⟨e, he2, hf2, hc2⟩
    simp only at e
    subst e
    dsimp only
    refine (wr_forA (E := E) (f := f) (B := B) (g := g) (S0 := S0) (k := k + 1) (acc := acc ++ g k d) (fun i d σ S acc hd he hf hc hB => ?_) he2 hf2 (hc.trans hc2) (by simp only [List.length_append]; omega)).mono ?_
    · have := h (i + 1) d σ S acc (by simpa using hd) he hf hc (by rwa [show k + (i + 1) = k + 1 + i by omega])
      rwa [show k + (i + 1) = k + 1 + i by omega] at this
    · rintro r S3 ⟨e1, e2, e3, e4⟩
      refine ⟨e1, e2, ?_, hc2.trans e4⟩
      rw [gather, ← List.append_assoc]
      exact e3

/-- a spot further in -/
def cs (i j : Nat) : D → D
  | .tup sp => .tup (.int (i : Nat) :: .int (j : Nat) :: sp)
  | d => d
theorem cs_enT {i j : Nat} {sp : Spot} : cs i j (enT sp) = enT ((i, j) :: sp) := by
  simp [cs, enS]
theorem rooms_enT {n : Nat} {gs ss : List D} : (roomsL (n + 1) (.tup [.tup gs, .tup ss])).map (fun q => enT q.1) = enT [] :: gather (fun i d => gather (fun j r => (roomsL n r).map fun q => enT ((i, j) :: q.1)) 0 (sidesD (sndD d))) 0 (enumD 0 ss) := by
  rw [roomsL, List.map_cons, gather_map, gather_enum (g := fun i s => gather (fun j r => (roomsL n r).map fun q => enT ((i, j) :: q.1)) 0 (sidesD s))]
  simp only [gather_map, List.map_map]
  rfl
def si_b2 : List MS := [(.expr (.mth false (.var 1) "extend" [(.comp false [6] (.name 6) (.it (.call "spots_in" [(.var 5)])) (.val (.bl true)) (.bin false .Add (.tup [(.var 2), (.var 4)]) (.var 6)))]))]
def si_b1 : List MS := [(.for (.tup [(.name 4), (.name 5)]) (.it (.blt false "enumerate" [(.call "sides_of" [(.var 3)])])) si_b2)]
theorem b_si_eq : b_spots_in = [(.asg (.name 1) (.lst true [(.tup [])])), (.for (.tup [(.name 2), (.name 3)]) (.it (.blt false "enumerate" [(.idx (.var 0) (.int (1)))])) si_b1), (.ret (.blt false "tuple" [(.var 1)]))] := rfl
def SpIn (n K : Nat) : Prop := ∀ (d : D) (S : Sto), RoomD n d → n ≤ 5 → nod d ≤ 342 → Wr (callN T gl K "spots_in" [d] S) fun v S' => v = .tup ((roomsL n d).map fun q => enT q.1) ∧ Chg [] S S'
theorem si_turn {n K i j f : Nat} (ih : SpIn n K) {r : D} {S : Sto} {acc : List D} {o0 o3 : Option D} (hr : RoomD n r) (hn : n ≤ 5) (hz : nod r ≤ 342) (hS : S[f]? = some (.lst acc)) (hB : acc.length + (roomsL n r).length ≤ 400) {o6 : Option D} :
    Wr (exSs (callN T gl K) gl si_b2 [o0, some (.loc f), some (.int (i : Nat)), o3, some (.int (j : Nat)), some r, o6] S) fun p S' => p.1 = .nx ∧ p.2 = [o0, some (.loc f), some (.int (i : Nat)), o3, some (.int (j : Nat)), some r, o6] ∧ S'[f]? = some (.lst (acc ++ (roomsL n r).map fun q => enT ((i, j) :: q.1))) ∧ Chg [f] S S' := by
  obtain ⟨v, S1, e1, rfl, c1⟩ := ih r S hr hn hz
  have c2 : evE (callN T gl K) gl [o0, some (.loc f), some (.int (i : Nat)), o3, some (.int (j : Nat)), some r, o6] (.comp false [6] (.name 6) (.it (.call "spots_in" [(.var 5)])) (.val (.bl true)) (.bin false .Add (.tup [(.var 2), (.var 4)]) (.var 6))) S = .ok (.lst (((roomsL n r).map fun q => enT q.1).map (cs i j))) S1 := by
    refine ev_compM (ds := (roomsL n r).map fun q => enT q.1) ?_ (by rw [List.length_map, sz]; omega) fun d hd => ?_
    · rw [evI_call]
      rw [evEs_cons, ev_var (d := r) rfl, then_ok, bnd_app, evEs_nil, then_ok, ret_app, then_ok, e1, then_ok]
      rfl
    · obtain ⟨q, hq, rfl⟩ := List.mem_map.mp hd
      have hat := (mem_rooms hr).mp (show (q.1, q.2) ∈ roomsL n r from hq)
      obtain ⟨m, _, hm⟩ := hr.at_ hat
      refine ⟨_, evG_name _ _, ?_⟩
      have hadd : binM false .Add (.tup [.int (i : Nat), .int (j : Nat)]) (enT q.1) S1 = .ok (enT ((i, j) :: q.1)) S1 := by
        rw [add_tup (by rw [sz]; simp [enS_len]; omega)]
        simp [enS]
      rw [cs_enT]
      simp only [wipeD, List.set_cons_succ, List.set_cons_zero]
      exact ev_bin (x := .tup [.int (i : Nat), .int (j : Nat)]) (y := enT q.1) (by
        rw [evE_tup, evEs_cons, ev_var (d := .int (i : Nat)) rfl, then_ok, bnd_app, evEs_cons, ev_var (d := .int (j : Nat)) rfl, then_ok, bnd_app, evEs_nil]
        simp only [then_ok, ret_app]
        exact mkTup_ok (by show 2 ≤ sizeLine; decide)) (ev_var rfl) hadd
  have hS1 : S1[f]? = some (.lst acc) := c1.get hS (by simp)
  have hm : ((roomsL n r).map fun q => enT q.1).map (cs i j) = (roomsL n r).map fun q => enT ((i, j) :: q.1) := by
    rw [List.map_map]
    exact List.map_congr_left fun q _ => cs_enT
  rw [hm] at c2
  have hx := ext_loc (ys := (roomsL n r).map fun q => enT ((i, j) :: q.1)) hS1 (by rw [sz]; simp; omega)
  refine Wr.of (a := (.nx, [o0, some (.loc f), some (.int (i : Nat)), o3, some (.int (j : Nat)), some r, o6])) (S' := S1.set f (.lst (acc ++ (roomsL n r).map fun q => enT ((i, j) :: q.1)))) ?_ ⟨rfl, rfl, set_self hS1, (c1.mono (by simp)).trans (Chg.set (by simp))⟩
  have ty : look (fun S => tyOf S (.loc f)) S = .ok "list" S := look_t (tyOf_loc hS)
  unfold si_b2
  rw [exSs_cons, exS_expr, evE_mth, ev_var (d := .loc f) rfl, then_ok, bnd_app, ty, then_ok, bnd_app, evEs_cons, c2, then_ok, bnd_app, evEs_nil, then_ok, ret_app, then_ok, mm_extend, hx, then_ok, ret_app, then_ok]
  simp
theorem si_step {n K : Nat} (ih : SpIn n (K + 2)) : SpIn (n + 1) (K + 3) := by
  intro d S h hn5 hz
  have hlen := rooms_len h
  have hsay := h.says
  obtain ⟨gs, ss, rfl, g1, g2⟩ := h.form
  have hsay2 : ∀ s ∈ ss, SayD (RoomD n) s := hsay
  clear hsay
  refine wr_call T_spots_in rfl ?_
  show Wr (exSs _ gl b_spots_in _ S) _
  rw [b_si_eq]
  have hnods : nods ss ≤ 342 := by
    simp only [nod, nods] at hz
    omega
  have hi1 : ∀ S, idxM (.tup [.tup (gs.map nD), .tup ss]) (.int 1) S = .ok (.tup ss) S := fun S => idx_1
  generalize hf : S.length = f
  have hg := rooms_enT (n := n) (gs := gs.map nD) (ss := ss)
  generalize hrm : D.tup [.tup (gs.map nD), .tup ss] = rm at *
  refine wr_cons (σ2 := [some rm, some (.loc f), none, none, none, none, none]) (S2 := S ++ [.lst [enT []]]) (by
    simp [mkTup_ok, sz, mkList_t, hf]
    rfl) ?_
  generalize hS1 : S ++ [O.lst [enT []]] = S1
  have c1 : Chg [] S S1 := hS1 ▸ Chg.app
  have f1 : S1[f]? = some (.lst [enT []]) := by rw [← hS1, ← hf]; simp
  have hgl := congrArg List.length hg
  rw [List.length_map, List.length_cons] at hgl
  refine wr_seq (P := fun σ S' => (∃ o2 o3 o4 o5 o6, σ = [some rm, some (.loc f), o2, o3, o4, o5, o6]) ∧ S'[f]? = some (.lst ((roomsL (n + 1) rm).map fun q => enT q.1)) ∧ Chg [f] S1 S') ?_ ?_
  · refine wr_forS (ds := enumD 0 ss) (S1 := S1) (by simp [hi1]) ?_
    refine (wr_forA (E := fun σ => ∃ o2 o3 o4 o5 o6, σ = [some rm, some (.loc f), o2, o3, o4, o5, o6]) (f := f) (B := 342) (g := fun i d => gather (fun j r => (roomsL n r).map fun q => enT ((i, j) :: q.1)) 0 (sidesD (sndD d))) (S0 := S1) (k := 0) ?_ ⟨_, _, _, _, _, rfl⟩ f1 Chg.refl (by simp only [List.length_singleton]; omega)).mono ?_
    · rintro i d σ S2 acc hd ⟨o2, o3, o4, o5, o6, rfl⟩ hS2 hc hB
      obtain ⟨s, hs, rfl⟩ := enumD_get hd
      simp only [Nat.zero_add] at hB ⊢
      have hsy : SayD (RoomD n) s := hsay2 s (List.mem_of_getElem? hs)
      have hnod : nod s ≤ 342 := Nat.le_trans (nods_mem (List.mem_of_getElem? hs)) hnods
      refine Wr_bnd (Wr.of evG_pair ?_)
      simp only [List.set_cons_succ, List.set_cons_zero]
      refine wr_one (P := fun r S' => (∃ o2 o3 o4 o5 o6, r.2 = [some rm, some (.loc f), o2, o3, o4, o5, o6]) ∧ S'[f]? = some (.lst (acc ++ gather (fun j r => (roomsL n r).map fun q => enT ((i, j) :: q.1)) 0 (sidesD s))) ∧ Chg [f] S2 S') ?_
      refine wr_forS (ds := enumD 0 (sidesD s)) (S1 := S2) (by simp [sides_of_ok (k := K) hsy]) ?_
      refine (wr_forA (E := fun σ => ∃ o4 o5 o6, σ = [some rm, some (.loc f), some (.int (i : Nat)), some s, o4, o5, o6]) (f := f) (B := 342) (g := fun j d => (roomsL n (sndD d)).map fun q => enT ((i, j) :: q.1)) (S0 := S2) (k := 0) ?_ ⟨_, _, _, rfl⟩ hS2 Chg.refl (by rw [gather_enum (g := fun j r => (roomsL n r).map fun q => enT ((i, j) :: q.1))]; exact hB)).mono ?_
      · rintro j d σ S3 acc3 hd ⟨o4, o5, o6, rfl⟩ hS3 hc3 hB3
        obtain ⟨x, hx, rfl⟩ := enumD_get hd
        simp only [Nat.zero_add] at hB3 ⊢
        have hxm : x ∈ sidesD s := List.mem_of_getElem? hx
        refine Wr_bnd (Wr.of evG_pair ?_)
        simp only [List.set_cons_succ, List.set_cons_zero]
        have hsn : nod x ≤ 342 := Nat.le_trans (sides_nod hsy hxm) hnod
        refine (si_turn ih (hsy.sides x hxm) (by omega) hsn hS3 (by simp only [sndD, List.length_map] at hB3; omega)).mono ?_
        rintro ⟨fl, σ⟩ S4 ⟨e1, e2, e3, e4⟩
        exact ⟨e1, ⟨_, _, _, e2⟩, e3, e4⟩
      · rintro p S3 ⟨e1, ⟨o4, o5, o6, e2⟩, e3, e5⟩
        rw [gather_enum (g := fun j r => (roomsL n r).map fun q => enT ((i, j) :: q.1))] at e3
        exact ⟨e1, ⟨_, _, _, _, _, e2⟩, e3, e5⟩
    · rintro p S3 ⟨e1, e2, e3, e5⟩
      refine ⟨e1, e2, ?_, e5⟩
      rw [e3, hg]
      rfl
  · rintro σ S3 ⟨⟨o2, o3, o4, o5, o6, rfl⟩, e3, e5⟩
    refine wr_ret (d := .tup ((roomsL (n + 1) rm).map fun q => enT q.1)) (S2 := S3) ?_ ⟨rfl, c1.new e5 (by simp; omega)⟩
    exact ev_blt1 (x := .loc f) (ev_var rfl) (by rw [bm_tuple]; exact tupM_loc e3 (by rw [List.length_map, sz]; omega))
theorem spots_in_ok : ∀ n K : Nat, n + 2 ≤ K → SpIn n K
  | 0, K, h => by
    intro d S h
    exact h.elim
  | n + 1, K, h => by
    obtain ⟨K, rfl⟩ : ∃ K', K = K' + 3 := ⟨K - 3, by omega⟩
    exact si_step (spots_in_ok n (K + 2) (by omega))
end K12
set_option Elab.async false
set_option linter.all false
set_option maxRecDepth 100000
set_option maxHeartbeats 4000000
/-! figures -/
namespace K12
open PySem PyProof.Rows L2 MI
theorem gather_flat {α β γ : Type} {g : Nat → α → List β} {f : β → List γ} : ∀ {ds : List α} {k : Nat}, (gather g k ds).flatMap f = gather (fun i d => (g i d).flatMap f) k ds
  | [], _ => rfl
  | d :: ds, k => by rw [gather, gather, List.flatMap_append, gather_flat]
theorem gather_const {α β : Type} {h : α → List β} : ∀ {ds : List α} {k : Nat}, gather (fun _ d => h d) k ds = ds.flatMap h
  | [], _ => rfl
  | d :: ds, k => by rw [gather, List.flatMap_cons, gather_const]
/-- all figures, as they come -/
def namedL (n : Nat) (d : D) : List D := (roomsL n d).flatMap fun q => figsD q.2
theorem named_eq {n : Nat} {gs ss : List D} : namedL (n + 1) (.tup [.tup gs, .tup ss]) = gs ++ (ss.flatMap sidesD).flatMap (namedL n) := by
  unfold namedL
  rw [roomsL, List.flatMap_cons, gather_flat]
  show gs ++ gather _ 0 ss = _
  congr 1
  rw [show (fun i d => (gather (fun j r => (roomsL n r).map fun q => ((i, j) :: q.1, q.2)) 0 (sidesD d)).flatMap fun q => figsD q.2) = fun _ d => (sidesD d).flatMap (fun r => (roomsL n r).flatMap fun q => figsD q.2) from ?_, gather_const, List.flatMap_assoc]
  funext i d
  rw [gather_flat]
  rw [show (fun j r => ((roomsL n r).map fun q => ((i, j) :: q.1, q.2)).flatMap fun q : Spot × D => figsD q.2) = fun _ r => (roomsL n r).flatMap fun q => figsD q.2 from ?_, gather_const]
  funext j r
  rw [List.flatMap_map]
theorem named_fig {n : Nat} {d : D} (h : RoomD n d) (hz : nod d ≤ 342) : (namedL n d).length ≤ 1100 ∧ ∀ y ∈ namedL n d, Fig y := by
  have hl := rooms_len h
  have hx : ∀ q ∈ roomsL n d, (figsD q.2).length ≤ 3 ∧ ∀ y ∈ figsD q.2, Fig y := fun q hq => by
    obtain ⟨m, hr, _⟩ := h.at_ ((mem_rooms h).mp (show (q.1, q.2) ∈ _ from hq))
    obtain ⟨gs, ss, e, g1, g2⟩ := hr.form
    rw [e]
    refine ⟨by show (gs.map nD).length ≤ 3; rw [List.length_map]; exact g1, fun y hy => ?_⟩
    obtain ⟨g, hg, rfl⟩ := List.mem_map.mp (show y ∈ gs.map nD from hy)
    exact ⟨g, rfl, g2 g hg⟩
  constructor
  · have := flat_len (f := fun q : Spot × D => figsD q.2) (c := 3) (L := roomsL n d) fun q hq => (hx q hq).1
    unfold namedL
    omega
  · intro y hy
    obtain ⟨q, hq, hy⟩ := List.mem_flatMap.mp hy
    exact (hx q hq).2 y hy
theorem flat_map_id {α β : Type} {f : α → List β} {xs : List α} : xs.flatMap (fun x => (f x).map fun y => y) = xs.flatMap f := by simp
def NamedOk (n K : Nat) : Prop := ∀ (d : D) (S : Sto), RoomD n d → nod d ≤ 342 → callN T gl K "all_named" [d] S = .ok (.lst (namedL n d)) S
theorem named_step {n K : Nat} (ih : NamedOk n (K + 2)) : NamedOk (n + 1) (K + 3) := by
  intro d S h hz
  have hb := (named_fig h hz).1
  have hsay := h.says
  obtain ⟨gs, ss, rfl, g1, g2⟩ := h.form
  have hsay2 : ∀ s ∈ ss, SayD (RoomD n) s := hsay
  clear hsay
  have hnods : nods ss ≤ 342 := by
    simp only [nod, nods] at hz
    omega
  have e0 := named_eq (n := n) (gs := gs.map nD) (ss := ss)
  have hb2 := congrArg List.length e0
  rw [List.length_append] at hb2
  have key : Wr (callN T gl (K + 3) "all_named" [.tup [.tup (gs.map nD), .tup ss]] S) fun v S' => v = .lst (namedL (n + 1) (.tup [.tup (gs.map nD), .tup ss])) ∧ S' = S := by
    refine wr_call T_all_named rfl ?_
    show Wr (exSs _ gl b_all_named _ S) _
    unfold b_all_named
    rw [e0]
    generalize hrm : D.tup [.tup (gs.map nD), .tup ss] = rm at *
    refine wr_cons (σ2 := [some rm, some (.tup (gs.map nD)), some (.tup ss), none, none, none, none]) (S2 := S) (by
      rw [exS_asg]
      show ((evE _ gl [some rm, none, none, none, none, none, none] (.var 0) S).then _) = _
      rw [ev_var (d := rm) rfl, then_ok, bnd_app, ← hrm]
      show ((evG _ gl [_, none, none, none, none, none, none] _ _ S).then _) = _
      rw [evG_pair, then_ok]
      rfl) ?_
    have l1 : (ss.flatMap sidesD).length ≤ 2000 := by
      have : ∀ s ∈ ss, (sidesD s).length ≤ nod s := fun s hs => by
        obtain ⟨rest, e, hl, hc⟩ := (hsay2 s hs).form
        rcases hc with ⟨_, e2⟩ | ⟨_, e2⟩
        · rw [e2]; simp
        · have h1 : ∀ xs : List D, xs.length ≤ nods xs := fun xs => by
            induction xs with
            | nil => simp [nods]
            | cons x xs ih =>
              have : 1 ≤ nod x := by cases x <;> simp only [nod] <;> omega
              simp only [nods, List.length_cons]
              omega
          rw [e2, e]
          have := h1 rest
          simp only [nod, nods]
          omega
      have h2 := gather_le (g := fun _ d => sidesD d) (w := nod) (ds := ss) (k := 0) fun i s hs => this s hs
      rw [gather_const, ← nods_sum] at h2
      omega
    refine wr_cons (ex_asg (d := .lst (ss.flatMap sidesD)) (S2 := S) ?_) ?_
    · rw [← flat_map_id (f := sidesD)]
      refine ev_comp2M (ds := ss) (g := sidesD) (k := fun _ y => y) ?_ (by rw [flat_map_id, sz]; omega) fun s hs => ⟨_, evG_name _ _, ?_, fun x hx => ⟨_, evG_name _ _, ?_⟩⟩
      · rw [evI_var]
        rfl
      · simp only [wipeD, List.set_cons_succ, List.set_cons_zero]
        rw [evI_call, evEs_cons, ev_var (d := s) rfl, then_ok, bnd_app, evEs_nil, then_ok, ret_app, then_ok, sides_of_ok (k := K) (hsay2 s hs), then_ok]
        rfl
      · simp only [wipeD, gSlots, List.set_cons_succ, List.set_cons_zero]
        exact ev_var rfl
    simp only [List.set_cons_succ, List.set_cons_zero]
    refine wr_ret (S2 := S) (ev_bin (ev_blt1 (x := .tup (gs.map nD)) (z := .lst (gs.map nD)) (ev_var rfl) (by rw [bm_list]; exact lstM_tup (by rw [sz]; simp; omega))) (y := .lst ((ss.flatMap sidesD).flatMap (namedL n))) ?_ (add_lst (by rw [List.length_append, sz]; omega))) ⟨rfl, rfl⟩
    rw [← flat_map_id (f := namedL n)]
    refine ev_comp2M (ds := ss.flatMap sidesD) (g := namedL n) (k := fun _ y => y) ?_ (by rw [flat_map_id, sz]; omega) fun r hr => ⟨_, evG_name _ _, ?_, fun x hx => ⟨_, evG_name _ _, ?_⟩⟩
    · rw [evI_var]
      rfl
    · simp only [wipeD, List.set_cons_succ, List.set_cons_zero]
      obtain ⟨s, hs, hrs⟩ := List.mem_flatMap.mp hr
      have z1 := nods_mem hs
      have z2 := sides_nod (hsay2 s hs) hrs
      rw [evI_call, evEs_cons, ev_var (d := r) rfl, then_ok, bnd_app, evEs_nil, then_ok, ret_app, then_ok, ih r S ((hsay2 s hs).sides r hrs) (by omega), then_ok]
      rfl
    · simp only [wipeD, gSlots, List.set_cons_succ, List.set_cons_zero]
      exact ev_var rfl
  obtain ⟨v, S', e1, rfl, rfl⟩ := key
  exact e1
theorem all_named_ok : ∀ n K : Nat, n + 2 ≤ K → NamedOk n K
  | 0, K, h => by
    intro d S h
    exact h.elim
  | n + 1, K, h => by
    obtain ⟨K, rfl⟩ : ∃ K', K = K' + 3 := ⟨K - 3, by omega⟩
    exact named_step (all_named_ok n (K + 2) (by omega))
/-! sorted -/
theorem figs_ints : ∀ {xs : List D}, (∀ y ∈ xs, Fig y) → ∃ ts : List Nat, xs = ts.map nD ∧ ∀ t ∈ ts, t ≤ 1000099
  | [], _ => ⟨[], rfl, by simp⟩
  | x :: xs, h => by
    obtain ⟨ts, rfl, ht⟩ := figs_ints fun y hy => h y (List.mem_cons_of_mem _ hy)
    obtain ⟨t, rfl, h1⟩ := h x List.mem_cons_self
    exact ⟨t :: ts, rfl, by simpa using ⟨h1, ht⟩⟩
theorem sorts_ints (ts : List Int) : sortsOk (ts.map .int) = true := by
  unfold sortsOk
  simp only [Bool.and_eq_true, Bool.or_eq_true, List.all_eq_true, decide_eq_true_eq]
  refine ⟨⟨fun p hp q hq => ?_, .inl (.inr fun p hp => ?_)⟩, fun p hp => ?_⟩
  · obtain ⟨x, _, rfl⟩ := List.mem_map.mp hp
    obtain ⟨y, _, rfl⟩ := List.mem_map.mp hq
    rfl
  · obtain ⟨x, _, rfl⟩ := List.mem_map.mp hp
    rfl
  · obtain ⟨x, _, rfl⟩ := List.mem_map.mp hp
    show (0 : Nat) ≤ 60
    omega
/-- the figures, rising -/
def risen (xs : List D) : List D := xs.mergeSort (PySem.W.dataLe false pyOf)
theorem risen_mem {xs : List D} {y : D} : y ∈ risen xs ↔ y ∈ xs := (List.mergeSort_perm _ _).mem_iff
theorem risen_len {xs : List D} : (risen xs).length = xs.length := (List.mergeSort_perm _ _).length_eq
theorem sort_figs {xs : List D} {S : Sto} (h : ∀ y ∈ xs, Fig y) (hz : xs.length ≤ 1100) : sortM false [.lst xs] S = .ok (.lst (risen xs)) S := by
  obtain ⟨ts, rfl, _⟩ := figs_ints h
  have e : ts.map nD = (ts.map fun t : Nat => (t : Int)).map D.int := by rw [List.map_map]; rfl
  rw [e] at hz ⊢
  exact sortM_ok rfl (toPys_ints _) (sorts_ints _) (by rw [sz]; omega)
theorem figures_in_ok {n K : Nat} {d : D} {S : Sto} (h : RoomD n d) (hn : n ≤ 5) (hz : nod d ≤ 342) : callN T gl (K + 8) "figures_in" [d] S = .ok (.tup (risen (namedL n d))) S := by
  obtain ⟨l1, l2⟩ := named_fig h hz
  have key : Wr (callN T gl (K + 8) "figures_in" [d] S) fun v S' => v = .tup (risen (namedL n d)) ∧ S' = S := by
    refine wr_call T_figures_in rfl ?_
    show Wr (exSs _ gl b_figures_in [some d] S) _
    unfold b_figures_in
    refine wr_ret (ev_blt1 (z := .tup (risen (namedL n d))) (ev_blt1 (x := .lst (namedL n d)) (S3 := S) (ev_call1 (ev_var rfl) (all_named_ok n (K + 7) (by omega) d S h hz)) (by rw [bm_sorted]; exact sort_figs l2 l1)) (by rw [bm_tuple]; exact tupM_lst (by rw [risen_len, sz]; omega))) ⟨rfl, rfl⟩
  obtain ⟨v, S', e1, rfl, rfl⟩ := key
  exact e1
theorem gather_pairs {h : D → List D} : ∀ {qs : List (Spot × D)} {k : Nat}, (∀ q ∈ qs, h (enR q) = figsD q.2) → gather (fun _ d => h d) k (qs.map enR) = qs.flatMap fun q => figsD q.2
  | [], _, _ => rfl
  | q :: qs, k, hh => by
    rw [List.map_cons, gather, List.flatMap_cons, hh q List.mem_cons_self, gather_pairs fun q hq => hh q (List.mem_cons_of_mem _ hq)]
def figR : D → List D
  | .tup [_, x] => figsD x
  | _ => []
theorem law_named_ok {n K : Nat} {d : D} {S : Sto} (h : RoomD n d) (hn : n ≤ 5) (hz : nod d ≤ 342) : callN T gl (K + 8) "_law_named" [d] S = .ok (.tup (risen (namedL n d))) S := by
  obtain ⟨l1, l2⟩ := named_fig h hz
  have hg : gather (fun _ d => figR d) 0 ((roomsL n d).map enR) = namedL n d := gather_pairs fun q hq => rfl
  have key : Wr (callN T gl (K + 8) "_law_named" [d] S) fun v S' => v = .tup (risen (namedL n d)) ∧ S' = S := by
    refine wr_call T_law_named rfl ?_
    show Wr (exSs _ gl b_law_named [some d, none, none, none] S) _
    unfold b_law_named
    refine wr_cons (σ2 := [some d, some (.lst []), none, none]) (S2 := S) (by simp [mkList_f, sz]) ?_
    refine wr_seq (P := fun σ S' => S' = S ∧ ∃ o2 o3, σ = [some d, some (.lst (namedL n d)), o2, o3]) ?_ ?_
    · refine wr_forS (ds := (roomsL n d).map enR) (S1 := S) ?_ ?_
      · rw [evI_call, evEs_cons, ev_var (d := d) rfl, then_ok, bnd_app, evEs_nil, then_ok, ret_app, then_ok, spots_ok n (K + 7) (by omega) d S h hn hz]
        rfl
      · refine (wr_forG (E := fun acc σ => ∃ o2 o3, σ = [some d, some (.lst acc), o2, o3]) (B := 1100) (g := fun _ d => figR d) (k := 0) (acc := []) ?_ ⟨_, _, rfl⟩ (by rw [gD_eq, hg]; simpa using l1)).mono ?_
        · rintro i x σ acc hd ⟨o2, o3, rfl⟩ hB
          rw [List.getElem?_map] at hd
          obtain ⟨q, hq, rfl⟩ := Option.map_eq_some_iff.mp hd
          obtain ⟨m, hr, _⟩ := h.at_ ((mem_rooms h).mp (show (q.1, q.2) ∈ _ from List.mem_of_getElem? hq))
          obtain ⟨gs, ss, e, g1, g2⟩ := hr.form
          have ef : figR (enR q) = gs.map nD := by show figsD q.2 = _; rw [e]; rfl
          rw [ef] at hB ⊢
          refine Wr_bnd (Wr.of evG_pair ?_)
          simp only [List.set_cons_succ, List.set_cons_zero]
          refine Wr.of (a := (.nx, [some d, some (.lst (acc ++ gs.map nD)), some (enT q.1), some q.2])) (S' := S) ?_ ⟨rfl, ⟨_, _, rfl⟩, rfl⟩
          rw [exSs_cons, ex_asg (d := .lst (acc ++ gs.map nD)) (S2 := S) (ev_bin (ev_var rfl) (ev_blt1 (x := .tup (gs.map nD)) (z := .lst (gs.map nD)) (ev_idx (ev_var rfl) (evE_int _) (by rw [e]; exact idx_0)) (by rw [bm_list]; exact lstM_tup (by rw [sz]; simp; omega))) (add_lst (by rw [sz, List.length_append]; omega))), then_ok]
          simp [exSs_nil]
        · rintro p S' ⟨e1, ⟨o2, o3, e2⟩, e3⟩
          rw [gD_eq, hg] at e2
          exact ⟨e1, e3, o2, o3, e2⟩
    · rintro σ S2 ⟨rfl, o2, o3, rfl⟩
      exact wr_ret (ev_blt1 (z := .tup (risen (namedL n d))) (ev_blt1 (x := .lst (namedL n d)) (S3 := S2) (ev_var rfl) (by rw [bm_sorted]; exact sort_figs l2 l1)) (by rw [bm_tuple]; exact tupM_lst (by rw [risen_len, sz]; omega))) ⟨rfl, rfl⟩
  obtain ⟨v, S', e1, rfl, rfl⟩ := key
  exact e1
end K12
set_option Elab.async false
set_option linter.all false
set_option maxRecDepth 100000
set_option maxHeartbeats 1000000000
/-! what is asked -/
namespace K12
open PySem PyProof.Rows L2 MI
mutual
theorem ok_mono : ∀ {n m : Nat} {d : D}, okD n d → n ≤ m → okD m d
  | n, m, .int i, h, hm => by rw [okD.eq_def] at h ⊢; exact h
  | n, m, .str x, h, hm => by rw [okD.eq_def] at h ⊢; exact h
  | 0, m, .tup xs, h, hm => by rw [okD.eq_def] at h; exact h.elim
  | n + 1, m, .tup xs, h, hm => by
    obtain ⟨m, rfl⟩ : ∃ m', m = m' + 1 := ⟨m - 1, by omega⟩
    rw [okD.eq_def] at h ⊢
    exact oks_mono h (by omega)
  | n, m, .non, h, hm => by rw [okD.eq_def] at h; exact h.elim
  | n, m, .bl _, h, hm => by rw [okD.eq_def] at h; exact h.elim
  | n, m, .lst _, h, hm => by rw [okD.eq_def] at h; exact h.elim
  | n, m, .dct _ _, h, hm => by rw [okD.eq_def] at h; exact h.elim
  | n, m, .scr _, h, hm => by rw [okD.eq_def] at h; exact h.elim
  | n, m, .loc _, h, hm => by rw [okD.eq_def] at h; exact h.elim
  | n, m, .fn _, h, hm => by rw [okD.eq_def] at h; exact h.elim
  | n, m, .ty _, h, hm => by rw [okD.eq_def] at h; exact h.elim
  | n, m, .ktup _, h, hm => by rw [okD.eq_def] at h; exact h.elim
  | n, m, .dtt _ _, h, hm => by rw [okD.eq_def] at h; exact h.elim
theorem oks_mono : ∀ {n m : Nat} {ds : List D}, okDs n ds → n ≤ m → okDs m ds
  | n, m, [], h, hm => by rw [okDs]; trivial
  | n, m, d :: ds, h, hm => by
    rw [okDs] at h ⊢
    exact ⟨ok_mono h.1 hm, oks_mono h.2 hm⟩
end
theorem ok_int {n x : Nat} (h : x ≤ 1000000000) : okD n (.int (x : Nat)) := by
  rw [okD.eq_def]
  exact ⟨x, rfl, h⟩
theorem ok_str {n : Nat} {x : List Nat} (h : TxtOk x) : okD n (.str x) := by
  rw [okD.eq_def]
  exact h
theorem ok_tup {n : Nat} {xs : List D} (h : okDs n xs) : okD (n + 1) (.tup xs) := by
  rw [okD.eq_def]
  exact h
theorem ok_leaf {n : Nat} {d : D} (h : Leaf d) : okD n d := by
  rcases h with ⟨x, rfl, hx⟩ | ⟨x, rfl, hx⟩
  · exact ok_int (by omega)
  · exact ok_str hx
theorem head_txt {w : List Nat} (h : w ∈ PLw ∨ w = sNot ∨ w = sIf ∨ w = sOr) : TxtOk w := by
  simp only [PLw, List.mem_cons, List.not_mem_nil, or_false] at h
  rcases h with (rfl | rfl | rfl | rfl) | rfl | rfl | rfl <;> exact ⟨by decide, by decide⟩
theorem room_okD : ∀ {n : Nat} {d : D}, RoomD n d → okD (3 * n) d
  | 0, d, h => h.elim
  | n + 1, d, h => by
    obtain ⟨gs, ss, rfl, h1, h2, h3, h4⟩ := h
    rw [show 3 * (n + 1) = (3 * n + 2) + 1 by omega]
    refine ok_tup ?_
    rw [okDs, okDs, okDs]
    refine ⟨?_, ?_, trivial⟩
    · refine ok_tup (n := 3 * n + 1) (okDs_of fun x hx => ?_)
      obtain ⟨g, hg, rfl⟩ := List.mem_map.mp hx
      exact ok_int (by have := h2 g hg; omega)
    · refine ok_tup (n := 3 * n + 1) (okDs_of fun s hs => ?_)
      rcases h4 s hs with h | ⟨r, rfl, h⟩ | ⟨w, r, q, rfl, hw, h1, h2⟩
      · obtain ⟨w, rest, rfl, hw, _, hr⟩ := h
        refine ok_tup ?_
        rw [okDs]
        exact ⟨ok_str (head_txt (.inl hw)), okDs_of fun x hx => ok_leaf (hr x hx)⟩
      · refine ok_tup ?_
        rw [okDs, okDs, okDs]
        exact ⟨ok_str (head_txt (.inr (.inl rfl))), room_okD h, trivial⟩
      · refine ok_tup ?_
        rw [okDs, okDs, okDs, okDs]
        exact ⟨ok_str (head_txt (.inr (.inr hw))), room_okD h1, room_okD h2, trivial⟩
theorem spot_le : ∀ {sp : Spot} {n : Nat} {d x : D}, RoomD n d → atD d sp = some x → ∀ i ∈ enS sp, ∃ k : Nat, i = k ∧ k ≤ 12
  | [], n, d, x, h, e, i, hi => by simp [enS] at hi
  | p :: sp, n, d, x, h, e, i, hi => by
    match n, h with
    | n + 1, h =>
      obtain ⟨y, hy, e2⟩ := Option.bind_eq_some_iff.mp (show (stepD d p).bind (fun x => atD x sp) = some x from e)
      have hR := h.step hy
      have hlen : (saysD d).length ≤ 12 := by
        obtain ⟨gs, ss, rfl, _, _, h3, _⟩ := h
        exact h3
      obtain ⟨fs, ss, s, rfl, s1, s2, s3, s4⟩ := h.look hy
      have l1 := (List.getElem?_eq_some_iff.mp s1).1
      have l2 := (List.getElem?_eq_some_iff.mp s3).1
      obtain ⟨rest, _, hr, hc⟩ := s2.form
      have l3 : (sidesD s).length ≤ 3 := by
        rcases hc with ⟨_, hc⟩ | ⟨_, hc⟩ <;> rw [hc]
        · simp
        · exact hr
      rw [s4] at hlen
      simp only [enS, List.flatMap_cons, List.mem_append, List.mem_cons, List.not_mem_nil, or_false] at hi
      rcases hi with (rfl | rfl) | hi
      · exact ⟨p.1, rfl, by omega⟩
      · exact ⟨p.2, rfl, by omega⟩
      · exact spot_le hR e2 i hi
theorem spot_ok {n k : Nat} {d x : D} {sp : Spot} (h : RoomD n d) (e : atD d sp = some x) : okD (k + 1) (enT sp) := by
  refine ok_tup (okDs_of fun y hy => ?_)
  obtain ⟨i, hi, rfl⟩ := List.mem_map.mp hy
  obtain ⟨k, rfl, hk⟩ := spot_le h e i hi
  exact ok_int (by omega)
theorem nods_le {xs : List D} {c : Nat} (h : ∀ x ∈ xs, nod x ≤ c) : nods xs ≤ c * xs.length := by
  induction xs with
  | nil => simp [nods]
  | cons x xs ih =>
    have h1 := h x List.mem_cons_self
    have h2 := ih fun y hy => h y (List.mem_cons_of_mem _ hy)
    rw [nods, List.length_cons, Nat.mul_add]
    omega
theorem rep_all {n : Nat} {d : D} (h : okD n d) (hn : n ≤ 64) (hz : nod d ≤ 300000) : ∃ u, ∀ S, reprM [d] S = .ok (.str u) S := by
  obtain ⟨p, p1, p2, p3, p4⟩ := shD h
  refine ⟨p.shown.cps.toList, fun S => ?_⟩
  show bnd (look fun S => toPy S d) _ S = _
  rw [bnd_t (look_t (k := p) (p1 _)), gd_t]
  · rfl
  · rw [Bool.and_eq_true, Bool.and_eq_true, decide_eq_true_iff, decide_eq_true_iff]
    exact ⟨⟨p2, by rw [sz]; omega⟩, by omega⟩

/-! the spots rise -/
theorem gather_pw {α β : Type} {g : Nat → α → List β} {R : β → β → Prop} : ∀ {ds : List α} {k : Nat}, (∀ i d, d ∈ ds → (g i d).Pairwise R) → (∀ i j x y d d', i < j → x ∈ g i d → y ∈ g j d' → R x y) → (gather g k ds).Pairwise R
  | [], _, _, _ => List.Pairwise.nil
  | d :: ds, k, h, hr => by
    rw [gather, List.pairwise_append]
    refine ⟨h k d List.mem_cons_self, gather_pw (fun i d hd => h i d (List.mem_cons_of_mem _ hd)) hr, fun x hx y hy => ?_⟩
    obtain ⟨i, d', _, hy⟩ := mem_gather.mp hy
    exact hr k (k + 1 + i) x y d d' (by omega) hx hy
theorem enS_cons {k j : Nat} {sp : Spot} : enS ((k, j) :: sp) = (k : Int) :: (j : Int) :: enS sp := rfl
theorem rooms_pw : ∀ {n : Nat} {d : D}, (roomsL n d).Pairwise fun p q => enS p.1 < enS q.1
  | 0, d => by rw [roomsL]; exact List.pairwise_singleton _ _
  | n + 1, d => by
    rw [roomsL, List.pairwise_cons]
    refine ⟨fun q hq => ?_, gather_pw (fun i s _ => gather_pw (fun j r _ => ?_) ?_) ?_⟩
    · obtain ⟨i, s, _, hq⟩ := mem_gather.mp hq
      obtain ⟨j, r, _, hq⟩ := mem_gather.mp hq
      obtain ⟨p, _, rfl⟩ := List.mem_map.mp hq
      show ([] : List Int) < _
      rw [enS_cons]
      exact List.nil_lt_cons _ _
    · rw [List.pairwise_map]
      refine (rooms_pw (n := n) (d := r)).imp fun {p q} h => ?_
      rw [enS_cons, enS_cons, List.cons_lt_cons_iff]
      exact .inr ⟨rfl, List.cons_lt_cons_iff.mpr (.inr ⟨rfl, h⟩)⟩
    · intro j j' x y r r' hj hx hy
      obtain ⟨p, _, rfl⟩ := List.mem_map.mp hx
      obtain ⟨q, _, rfl⟩ := List.mem_map.mp hy
      rw [enS_cons, enS_cons, List.cons_lt_cons_iff]
      exact .inr ⟨rfl, List.cons_lt_cons_iff.mpr (.inl (by omega))⟩
    · intro i i' x y s s' hi hx hy
      obtain ⟨j, r, _, hx⟩ := mem_gather.mp hx
      obtain ⟨p, _, rfl⟩ := List.mem_map.mp hx
      obtain ⟨j', r', _, hy⟩ := mem_gather.mp hy
      obtain ⟨q, _, rfl⟩ := List.mem_map.mp hy
      rw [enS_cons, enS_cons, List.cons_lt_cons_iff]
      exact .inl (by omega)
theorem le_enT {a b : Spot} (h : enS a < enS b) : PySem.W.dataLe false pyOf (enT a) (enT b) = true := by
  have e : ∀ sp : Spot, pyOf (enT sp) = .tuple ((enS sp).map .int) := fun sp => by
    unfold pyOf
    rw [show toPyA (fun _ => none) (enT sp) = some (.tuple ((enS sp).map .int)) by
      rw [enT, toPyA, toPys_ints]
      rfl]
    rfl
  show (!PySem.W.dataLt (pyOf (enT b)) (pyOf (enT a))) = true
  rw [e, e, PySem.W.dataLt_tuple]
  show (!PySem.W.rowLt ((enS b).map .int) ((enS a).map .int)) = true
  rw [PySem.W.dataLt_ints, Bool.not_eq_true', decide_eq_false_iff_not]
  exact fun h2 => List.lt_irrefl _ (List.lt_trans h h2)
theorem sort_spots {n : Nat} {d : D} {S : Sto} (h : RoomD n d) (hz : nod d ≤ 342) : sortM false [.lst ((roomsL n d).map fun q => enT q.1)] S = .ok (.lst ((roomsL n d).map fun q => enT q.1)) S := by
  have hl := rooms_len h
  have e : ((roomsL n d).map fun q => enT q.1) = ((roomsL n d).map fun q => enS q.1).map intsT := by rw [List.map_map]; rfl
  have hsrt : (((roomsL n d).map fun q => enT q.1).mergeSort (PySem.W.dataLe false pyOf)) = (roomsL n d).map fun q => enT q.1 := List.mergeSort_of_pairwise (by
    rw [List.pairwise_map]
    exact (rooms_pw (n := n) (d := d)).imp fun {p q} h => le_enT h)
  have := sortM_ok (S := S) (x := .lst ((roomsL n d).map fun q => enT q.1)) (xs := (roomsL n d).map fun q => enT q.1) rfl (by rw [e]; exact toPys_tups _) (sorts_tups fun ts r e => by
    cases n with
    | zero => exact h.elim
    | succ n =>
      left
      rw [roomsL, List.map_cons] at e
      injection e with e _
      exact e.symm) (by rw [sz, List.length_map]; omega)
  rw [hsrt] at this
  exact this
/-! a tuple of ints in a tuple of such -/
theorem eqv_refl_ints : ∀ ts : List Int, PyData.eqvAll (ts.map .int) (ts.map .int) = true
  | [] => rfl
  | t :: ts => by
    rw [List.map_cons, PyData.eqvAll, eqv_refl_ints ts]
    simp [PyData.eqv]
theorem lay_tups : ∀ tss : List (List Int), PyData.canLayAll0 (tss.map fun ts => .tuple (ts.map .int)) = true
  | [] => rfl
  | ts :: tss => by simp [PyData.canLayAll0, PyData.canLay0, lay_tups tss, lay_ints]
theorem dep_tups : ∀ tss : List (List Int), PyData.depthAll (tss.map fun ts => .tuple (ts.map .int)) ≤ 1
  | [] => by simp [PyData.depthAll]
  | ts :: tss => by
    have := dep_tups tss
    simp only [List.map_cons, PyData.depthAll, PyData.depth, dep_ints]
    omega
theorem in_tups {ts : List Int} {tss : List (List Int)} {S : Sto} (h : ts ∈ tss) : inM (intsT ts) (.tup (tss.map intsT)) S = .ok true S := by
  have p1 : toPy S (intsT ts) = some (.tuple (ts.map .int)) := by
    unfold toPy intsT
    rw [toPyA, toPys_ints]
    rfl
  have p2 : toPy S (.tup (tss.map intsT)) = some (.tuple (tss.map fun ts => .tuple (ts.map .int))) := by
    unfold toPy
    rw [toPyA, toPys_tups]
    rfl
  have e : inM (intsT ts) (.tup (tss.map intsT)) = inTM (intsT ts) (.tup (tss.map intsT)) := by unfold inM intsT; rfl
  rw [e]
  unfold inTM
  rw [bnd_t (look_t (f := fun S => toPy S (intsT ts)) p1), bnd_t (look_t (f := fun S => toPy S (.tup (tss.map intsT))) p2), gd_t]
  · show MI.R.ok _ S = _
    congr 1
    rw [List.any_eq_true]
    refine ⟨.tuple (ts.map .int), List.mem_map.mpr ⟨ts, h, rfl⟩, ?_⟩
    rw [PyData.eqv, eqv_refl_ints]
  · have := dep_tups tss
    rw [Bool.and_eq_true]
    constructor
    · simp [SeqAt.shaped, PyData.canLay0, lay_ints, PyData.depth, dep_ints]
    · simp [SeqAt.shaped, PyData.canLay0, lay_tups, PyData.depth]
      omega
end K12
set_option Elab.async false
set_option linter.all false
set_option maxRecDepth 100000
set_option maxHeartbeats 8000000
namespace K12
open PySem PyProof.Rows L2 MI
abbrev KK : Nat := 29
section
variable {cf : Cf} {gl : Str → Option D} {σ : MI.Env} {S : Sto}
theorem evI_tup {es : List ME} : evI cf gl σ (.it (.tup es)) S = (evE cf gl σ (.tup es) S).then itOf := by
  rw [evI.eq_def]
  rfl
theorem evI_blt1 {m : Bool} {a : ME} {x : D} {S1 : Sto} (h1 : evE cf gl σ a S = .ok x S1) : evI cf gl σ (.it (.blt m "enumerate" [a])) S = itBlt m "enumerate" [x] S1 := by
  rw [evI_blt, evEs_cons, h1, then_ok, bnd_app, evEs_nil, then_ok, ret_app, then_ok]
/-- two like things are written alike -/
theorem ne_step {a b : ME} {x : D} {u : List Nat} {S1 S2 : Sto} (ha : evE cf gl σ a S = .ok x S1) (hb : evE cf gl σ b S1 = .ok x S2) (hu : ∀ S, reprM [x] S = .ok (.str u) S) :
    exS cf gl (.ifs (.val (.cmp (.blt false "repr" [a]) .NotEq (.blt false "repr" [b]))) [(.ret (.bl false))] []) σ S = .ok (.nx, σ) S2 := by
  have r1 : evE cf gl σ (.blt false "repr" [a]) S = .ok (.str u) S1 := ev_blt1 ha (by rw [bm_repr]; exact hu _)
  have r2 : evE cf gl σ (.blt false "repr" [b]) S1 = .ok (.str u) S2 := ev_blt1 hb (by rw [bm_repr]; exact hu _)
  rw [exS_ifs, evT_val, evE_cmp, r1, then_ok, bnd_app, r2, then_ok, cmp_nes]
  simp
theorem ev_call1' {f : Str} {a : ME} {x : D} {S1 : Sto} {Q : D → Sto → Prop} (h1 : evE cf gl σ a S = .ok x S1) (h3 : Wr (cf f [x] S1) Q) : ∃ v S2, evE cf gl σ (.call f [a]) S = .ok v S2 ∧ Q v S2 := by
  obtain ⟨v, S2, e, q⟩ := h3
  exact ⟨v, S2, ev_call1 h1 e, q⟩
end
theorem spots_okD {n : Nat} {d : D} (h : RoomD n d) (hn : n ≤ 5) (hz : nod d ≤ 342) : ∃ u, ∀ S, reprM [.tup ((roomsL n d).map fun q => enT q.1)] S = .ok (.str u) S := by
  have hl := rooms_len h
  have hq : ∀ y ∈ (roomsL n d).map (fun q => enT q.1), okD 1 y ∧ nod y ≤ 11 := fun y hy => by
    obtain ⟨q, hq, rfl⟩ := List.mem_map.mp hy
    have e := (mem_rooms h).mp (show (q.1, q.2) ∈ _ from hq)
    obtain ⟨m, _, hm⟩ := h.at_ e
    refine ⟨spot_ok (k := 0) h e, ?_⟩
    simp only [nod]
    rw [nods_one (by intro y hy; obtain ⟨i, _, rfl⟩ := List.mem_map.mp hy; simp [nod]), List.length_map, enS_len]
    omega
  refine rep_all (n := 2) (ok_tup (okDs_of fun y hy => (hq y hy).1)) (by decide) ?_
  have := nods_le fun y hy => (hq y hy).2
  rw [List.length_map] at this
  simp only [nod]
  omega
theorem figs_okD {n : Nat} {d : D} (h : RoomD n d) (hz : nod d ≤ 342) : ∃ u, ∀ S, reprM [.tup (risen (namedL n d))] S = .ok (.str u) S := by
  obtain ⟨l1, l2⟩ := named_fig h hz
  have hf : ∀ y ∈ risen (namedL n d), Fig y := fun y hy => l2 y (risen_mem.mp hy)
  refine rep_all (n := 1) (ok_tup (okDs_of fun y hy => ?_)) (by decide) ?_
  · obtain ⟨x, rfl, hx⟩ := hf y hy
    exact ok_int (by omega)
  · simp only [nod]
    rw [nods_one fun y hy => nod_leaf (.inl (hf y hy)), risen_len]
    omega
theorem nod_at : ∀ {sp : Spot} {n : Nat} {d x : D}, RoomD n d → atD d sp = some x → nod x ≤ nod d
  | [], n, d, x, h, e => by cases e; exact Nat.le_refl _
  | p :: sp, n, d, x, h, e => by
    match n, h with
    | n + 1, h =>
      obtain ⟨y, hy, e2⟩ := Option.bind_eq_some_iff.mp (show (stepD d p).bind (fun x => atD x sp) = some x from e)
      refine Nat.le_trans (nod_at (h.step hy) e2) ?_
      obtain ⟨fs, ss, s, rfl, s1, s2, s3, s4⟩ := h.look hy
      have h1 := sides_nod s2 (List.mem_of_getElem? s3)
      have h2 := nods_mem (List.mem_of_getElem? s1)
      simp only [nod, nods]
      omega
/-- what stands behind a spot is the rooms of the room there -/
theorem behind_mem {n m : Nat} {d x : D} {sp more : Spot} {y : D} (h : RoomD n d) (e : atD d sp = some x) (hx : RoomD m x) (hq : (more, y) ∈ roomsL m x) : (sp ++ more, y) ∈ roomsL n d := by
  refine (mem_rooms h).mpr ?_
  rw [atD_app, e, Option.bind_some]
  exact (mem_rooms hx).mp hq
def right_b : List MS := [(.ifs (.val (.cmp (.blt false "repr" [(.call "room_at" [(.var 0), (.var 3)])]) .NotEq (.blt false "repr" [(.var 4)]))) [(.ret (.bl false))] []),
    (.asg (.name 5) (.blt false "tuple" [(.comp false [6, 7] (.tup [(.name 6), (.name 7)]) (.it (.call "_law_spots" [(.var 4)])) (.val (.bl true)) (.bin false .Add (.var 3) (.var 6)))])),
    (.ifs (.val (.cmp (.comp false [8] (.name 8) (.it (.var 5)) (.val (.cmp (.var 8) .NotIn (.call "spots_in" [(.var 0)]))) (.var 8)) .NotEq (.lst false []))) [(.ret (.bl false))] []),
    (.ifs (.val (.cmp (.blt false "repr" [(.call "spots_in" [(.var 4)])]) .NotEq (.blt false "repr" [(.blt false "tuple" [(.comp false [8] (.name 8) (.it (.var 5)) (.val (.bl true)) (.slc false (.var 8) (.at (.blt false "len" [(.var 3)])) .no))])]))) [(.ret (.bl false))] [])]
theorem b_right_eq : b_law_right = [(.asg (.name 1) (.blt false "repr" [(.var 0)])),
    (.asg (.name 2) (.call "_law_spots" [(.var 0)])),
    (.ifs (.val (.cmp (.blt false "repr" [(.call "spots_in" [(.var 0)])]) .NotEq (.blt false "repr" [(.blt false "tuple" [(.blt false "sorted" [(.comp false [3, 4] (.tup [(.name 3), (.name 4)]) (.it (.var 2)) (.val (.bl true)) (.var 3))])])]))) [(.ret (.bl false))] []),
    (.ifs (.val (.cmp (.blt false "repr" [(.call "figures_in" [(.var 0)])]) .NotEq (.blt false "repr" [(.call "_law_named" [(.var 0)])]))) [(.ret (.bl false))] []),
    (.for (.tup [(.name 3), (.name 4)]) (.it (.var 2)) right_b),
    (.ret (.cmp (.blt false "repr" [(.var 0)]) .Eq (.var 1)))] := rfl
theorem cmp_nil {S : Sto} : cmpM .NotEq (.lst []) (.lst []) S = .ok (.bl false) S := cmp_nel (ts := [])
theorem turn_ok {n : Nat} {d x : D} {sp : Spot} {S : Sto} (h : RoomD n d) (hn : n ≤ 5) (hz : nod d ≤ 342) (e : atD d sp = some x) {o1 o2 o5 o6 o7 o8 : Option D} :
    Wr (exSs (callN T gl 28) gl right_b [some d, o1, o2, some (enT sp), some x, o5, o6, o7, o8] S) fun p S' => p.1 = .nx ∧ (∃ o5 o6 o7 o8, p.2 = [some d, o1, o2, some (enT sp), some x, o5, o6, o7, o8]) ∧ Chg [] S S' := by
  obtain ⟨m, hx, hm⟩ := h.at_ e
  have hzx := Nat.le_trans (nod_at h e) hz
  obtain ⟨ux, hux⟩ := rep_all (room_okD hx) (by omega) (by omega)
  obtain ⟨us, hus⟩ := spots_okD hx (by omega) hzx
  unfold right_b
  have lx := rooms_len hx
  have ra : ∀ S, evE (callN T gl 28) gl [some d, o1, o2, some (enT sp), some x, o5, o6, o7, o8] (.call "room_at" [(.var 0), (.var 3)]) S = .ok x S := fun S => ev_call2 (ev_var rfl) (ev_var rfl) (room_at_ok (k := 25) h hn e)
  refine wr_cons (ne_step (ra S) (ev_var rfl) hux) ?_
  have hbl : ∀ q ∈ roomsL (m + 1) x, (enS (sp ++ q.1)).length ≤ 10 := fun q hq => by
    obtain ⟨k, _, hk⟩ := h.at_ ((mem_rooms h).mp (behind_mem h e hx (show (q.1, q.2) ∈ _ from hq)))
    rw [enS_len]
    omega
  have bh : evE (callN T gl 28) gl [some d, o1, o2, some (enT sp), some x, o5, o6, o7, o8] (.comp false [6, 7] (.tup [(.name 6), (.name 7)]) (.it (.call "_law_spots" [(.var 4)])) (.val (.bl true)) (.bin false .Add (.var 3) (.var 6))) S = .ok (.lst ((roomsL (m + 1) x).map fun q => enT (sp ++ q.1))) S := by
    have := ev_compM (cf := callN T gl 28) (gl := gl) (σ := [some d, o1, o2, some (enT sp), some x, o5, o6, o7, o8]) (S := S) (S1 := S) (own := [6, 7]) (tg := .tup [(.name 6), (.name 7)]) (it := .it (.call "_law_spots" [(.var 4)])) (elt := .bin false .Add (.var 3) (.var 6)) (ds := (roomsL (m + 1) x).map enR) (k := fun z => match z with | .tup [.tup q, _] => .tup ((enS sp).map .int ++ q) | z => z) ?_ (by rw [List.length_map, sz]; omega) fun z hz => ?_
    · rw [this, List.map_map]
      congr 2
      refine List.map_congr_left fun q _ => ?_
      show D.tup _ = D.tup _
      rw [enS_app, List.map_append]
    · rw [evI_call, evEs_cons, ev_var (d := x) rfl, then_ok, bnd_app, evEs_nil, then_ok, ret_app, then_ok, spots_ok (m + 1) 28 (by omega) x S hx (by omega) hzx, then_ok]
      rfl
    · obtain ⟨q, hq, rfl⟩ := List.mem_map.mp hz
      refine ⟨_, evG_pair, ?_⟩
      simp only [wipeD, List.set_cons_succ, List.set_cons_zero]
      refine ev_bin (x := enT sp) (y := enT q.1) (ev_var rfl) (ev_var rfl) (add_tup ?_)
      have := hbl q hq
      rw [enS_app] at this
      rw [sz, ← List.map_append, List.length_map]
      omega
  refine wr_cons (ex_asg (d := .tup ((roomsL (m + 1) x).map fun q => enT (sp ++ q.1))) (S2 := S) (ev_blt1 bh (by rw [bm_tuple]; exact tupM_lst (by rw [List.length_map, sz]; omega)))) ?_
  simp only [List.set_cons_succ, List.set_cons_zero]
  generalize hB : (roomsL (m + 1) x).map (fun q => enT (sp ++ q.1)) = B
  have hBl : B.length ≤ 342 := by rw [← hB, List.length_map]; omega
  have hmem : ∀ y ∈ B, ∃ q ∈ roomsL (m + 1) x, y = enT (sp ++ q.1) := fun y hy => by
    rw [← hB] at hy
    obtain ⟨q, hq, rfl⟩ := List.mem_map.mp hy
    exact ⟨q, hq, rfl⟩
  have em : Wr (evE (callN T gl 28) gl [some d, o1, o2, some (enT sp), some x, some (.tup B), o6, o7, o8] (.comp false [8] (.name 8) (.it (.var 5)) (.val (.cmp (.var 8) .NotIn (.call "spots_in" [(.var 0)]))) (.var 8)) S) fun v S' => v = .lst [] ∧ Chg [] S S' := by
    refine wr_compI (ds := B) (S1 := S) (I := fun _ acc S' => acc = [] ∧ Chg [] S S') (by rw [sz]; omega) (by rw [evI_var]; rfl) ?_ ⟨rfl, Chg.refl⟩ ?_
    · rintro i y acc S2 hd ⟨rfl, c2⟩
      obtain ⟨q, hq, rfl⟩ := hmem y (List.mem_of_getElem? hd)
      refine Wr.of (evG_name _ _) ?_
      simp only [wipeD, List.set_cons_succ, List.set_cons_zero]
      obtain ⟨v, S3, e3, rfl, c3⟩ := spots_in_ok n 28 (by omega) d S2 h hn hz
      have hin : inM (enT (sp ++ q.1)) (.tup ((roomsL n d).map fun q => enT q.1)) S3 = .ok true S3 := by
        have := in_tups (ts := enS (sp ++ q.1)) (tss := (roomsL n d).map fun q => enS q.1) (S := S3) (List.mem_map.mpr ⟨(sp ++ q.1, q.2), behind_mem h e hx hq, rfl⟩)
        rw [List.map_map] at this
        exact this
      have et : evT (callN T gl 28) gl [some d, o1, o2, some (enT sp), some x, some (.tup B), o6, o7, some (enT (sp ++ q.1))] (.val (.cmp (.var 8) .NotIn (.call "spots_in" [(.var 0)]))) S2 = .ok false S3 := by
        rw [evT_val, evE_cmp, ev_var (d := enT (sp ++ q.1)) rfl, then_ok, bnd_app, ev_call1 (ev_var rfl) e3, then_ok, cmp_nin, hin, then_ok, ret_app, then_ok, look_app]
        rfl
      exact Wr.of et ⟨fun z => (nomatch z), fun _ => ⟨trivial, c2.trans c3⟩⟩
    · rintro r S2 hr ⟨rfl, c2⟩
      rw [mkList_f (by rw [sz]; simp), Wr_ok]
      exact ⟨rfl, c2⟩
  obtain ⟨v, S2, e2, rfl, c2⟩ := em
  refine wr_cons (σ2 := [some d, o1, o2, some (enT sp), some x, some (.tup B), o6, o7, o8]) (S2 := S2) (by
    rw [exS_ifs, evT_val, evE_cmp, e2, then_ok, bnd_app, evE_lst, evEs_nil, then_ok, mkList_f (show ([] : List D).length ≤ sizeLine by decide), then_ok, cmp_nil]
    simp) ?_
  obtain ⟨v, S3, e3, rfl, c3⟩ := spots_in_ok (m + 1) 28 (by omega) x S2 hx (by omega) hzx
  have bk : evE (callN T gl 28) gl [some d, o1, o2, some (enT sp), some x, some (.tup B), o6, o7, o8] (.comp false [8] (.name 8) (.it (.var 5)) (.val (.bl true)) (.slc false (.var 8) (.at (.blt false "len" [(.var 3)])) .no)) S3 = .ok (.lst ((roomsL (m + 1) x).map fun q => enT q.1)) S3 := by
    have := ev_compM (cf := callN T gl 28) (gl := gl) (σ := [some d, o1, o2, some (enT sp), some x, some (.tup B), o6, o7, o8]) (S := S3) (S1 := S3) (own := [8]) (tg := .name 8) (it := .it (.var 5)) (elt := .slc false (.var 8) (.at (.blt false "len" [(.var 3)])) .no) (ds := B) (k := fun z => match z with | .tup q => .tup (q.drop (enS sp).length) | z => z) (by rw [evI_var]; rfl) (by rw [sz]; omega) fun z hz => ?_
    · rw [this, ← hB, List.map_map]
      congr 2
      refine List.map_congr_left fun q _ => ?_
      show D.tup _ = D.tup _
      rw [enS_app, List.map_append, List.drop_left' (by rw [List.length_map])]
    · obtain ⟨q, hq, rfl⟩ := hmem z hz
      refine ⟨_, evG_name _ _, ?_⟩
      simp only [wipeD, List.set_cons_succ, List.set_cons_zero]
      have hL : lenM [enT sp] S3 = .ok (.int ((enS sp).length : Int)) S3 := by
        have := hbl q hq
        rw [enS_app, List.length_append] at this
        rw [lenM_tup (by rw [sz, List.length_map]; omega), List.length_map]
      rw [evE_slc, ev_var (d := enT (sp ++ q.1)) rfl, then_ok, bnd_app, evO_at, ev_blt1 (f := "len") (ev_var (d := enT sp) rfl) (by rw [bm_len]; exact hL), then_ok]
      dsimp only
      rw [ret_app, then_ok, bnd_app, evO_no, then_ok, slc_tup, cut_drop]
  refine wr_cons (σ2 := [some d, o1, o2, some (enT sp), some x, some (.tup B), o6, o7, o8]) (S2 := S3) (ne_step (ev_call1 (ev_var rfl) e3) (ev_blt1 bk (by rw [bm_tuple]; exact tupM_lst (by rw [List.length_map, sz]; omega))) hus) ?_
  rw [exSs_nil, Wr_ok]
  exact ⟨rfl, ⟨_, _, _, _, rfl⟩, c2.trans c3⟩
theorem right_ok {n : Nat} {d : D} {S : Sto} (h : RoomD n d) (hn : n ≤ 5) (hz : nod d ≤ 342) : Wr (callN T gl 29 "_law_right" [d] S) fun v S' => v = .bl true ∧ Chg [] S S' := by
  obtain ⟨ud, hud⟩ := rep_all (room_okD h) (by omega) (by omega)
  obtain ⟨us, hus⟩ := spots_okD h hn hz
  obtain ⟨uf, huf⟩ := figs_okD h hz
  have hl := rooms_len h
  refine wr_call T_law_right rfl ?_
  show Wr (exSs (callN T gl 28) gl b_law_right [some d, none, none, none, none, none, none, none, none] S) _
  rw [b_right_eq]
  have rd : ∀ (S : Sto) (r : MI.Env), evE (callN T gl 28) gl (some d :: r) (.blt false "repr" [(.var 0)]) S = .ok (.str ud) S := fun S r => ev_blt1 (ev_var rfl) (by rw [bm_repr]; exact hud S)
  refine wr_cons (ex_asg (rd S _)) ?_
  simp only [List.set_cons_succ, List.set_cons_zero]
  refine wr_cons (ex_asg (ev_call1 (ev_var rfl) (spots_ok n 28 (by omega) d S h hn hz))) ?_
  simp only [List.set_cons_succ, List.set_cons_zero]
  obtain ⟨v, S1, e1, rfl, c1⟩ := spots_in_ok n 28 (by omega) d S h hn hz
  have cp : evE (callN T gl 28) gl [some d, some (.str ud), some (.lst ((roomsL n d).map enR)), none, none, none, none, none, none] (.comp false [3, 4] (.tup [(.name 3), (.name 4)]) (.it (.var 2)) (.val (.bl true)) (.var 3)) S1 = .ok (.lst ((roomsL n d).map fun q => enT q.1)) S1 := by
    have := ev_compM (cf := callN T gl 28) (gl := gl) (σ := [some d, some (.str ud), some (.lst ((roomsL n d).map enR)), none, none, none, none, none, none]) (S := S1) (S1 := S1) (own := [3, 4]) (tg := .tup [(.name 3), (.name 4)]) (it := .it (.var 2)) (elt := .var 3) (ds := (roomsL n d).map enR) (k := fun z => match z with | .tup [a, _] => a | z => z) (by rw [evI_var]; rfl) (by rw [List.length_map, sz]; omega) fun z hz => ?_
    · rw [this, List.map_map]
      rfl
    · obtain ⟨q, hq, rfl⟩ := List.mem_map.mp hz
      refine ⟨_, evG_pair, ?_⟩
      simp only [wipeD, List.set_cons_succ, List.set_cons_zero]
      exact ev_var rfl
  refine wr_cons (ne_step (S2 := S1) (ev_call1 (ev_var rfl) e1) (ev_blt1 (ev_blt1 cp (by rw [bm_sorted]; exact sort_spots h hz)) (by rw [bm_tuple]; exact tupM_lst (by rw [List.length_map, sz]; omega))) hus) ?_
  refine wr_cons (ne_step (S2 := S1) (ev_call1 (ev_var rfl) (figures_in_ok (K := 20) h hn hz)) (ev_call1 (ev_var rfl) (law_named_ok (K := 20) h hn hz)) huf) ?_
  refine wr_seq (P := fun σ S' => (∃ r, σ = some d :: some (.str ud) :: r) ∧ Chg [] S S') ?_ ?_
  · refine wr_forS (ds := (roomsL n d).map enR) (S1 := S1) (by rw [evI_var]; rfl) ?_
    refine (wr_for (k := 0) (I := fun _ σ S' => (∃ o3 o4 o5 o6 o7 o8, σ = [some d, some (.str ud), some (.lst ((roomsL n d).map enR)), o3, o4, o5, o6, o7, o8]) ∧ Chg [] S S') (J := fun σ S' => (∃ r, σ = some d :: some (.str ud) :: r) ∧ Chg [] S S') ?_ (fun σ S' h => ?_) ⟨⟨_, _, _, _, _, _, rfl⟩, c1⟩).mono fun r S' h => h
    · rintro i z σ S2 hd ⟨⟨o3, o4, o5, o6, o7, o8, rfl⟩, c2⟩
      rw [List.getElem?_map] at hd
      obtain ⟨q, hq, rfl⟩ := Option.map_eq_some_iff.mp hd
      refine Wr_bnd (Wr.of evG_pair ?_)
      simp only [List.set_cons_succ, List.set_cons_zero]
      refine (turn_ok h hn hz ((mem_rooms h).mp (show (q.1, q.2) ∈ _ from List.mem_of_getElem? hq))).mono ?_
      rintro ⟨fl, σ⟩ S3 ⟨e3, ⟨p5, p6, p7, p8, e4⟩, c3⟩
      exact .inl ⟨e3, ⟨_, _, _, _, _, _, e4⟩, c2.trans c3⟩
    · obtain ⟨⟨o3, o4, o5, o6, o7, o8, rfl⟩, c2⟩ := h
      exact ⟨⟨_, rfl⟩, c2⟩
  · rintro σ S2 ⟨⟨r, rfl⟩, c2⟩
    refine wr_ret (d := .bl true) (S2 := S2) ?_ ⟨rfl, c2⟩
    rw [evE_cmp, rd S2, then_ok, bnd_app, ev_var (d := .str ud) rfl, then_ok, cmp_eqs]
    simp
end K12
set_option Elab.async false
set_option linter.all false
set_option maxRecDepth 100000
set_option maxHeartbeats 8000000
namespace K12
open PySem PyProof.Rows L2 MI
theorem deck_ok {k i : Nat} {ns : List Int} {S : Sto} (hl : ns.length ≤ 63) (hb : ∀ z ∈ ns, Builtin.Int.intBits z ≤ 1048576) (hi : i ≤ 6) : Wr (callN T gl (k + 1) "_law_deck" [.scr ns, .int (i : Nat)] S) fun r S' => r = .loc S.length ∧ Deck 1000000 S.length S' ∧ Chg [] S S' := by
  refine wr_call T_law_deck rfl ?_
  show Wr (exSs _ gl b_law_deck [some (.scr ns), some (.int (i : Nat)), none] S) _
  have hp : ∀ S, binM false .Pow (.int 10) (.int 18) S = .ok (.int 1000000000000000000) S := fun S => rfl
  have hL : lenM [.scr ns] S = .ok (.int (ns.length : Int)) S := by
    show bnd (look fun S => lenOf S (.scr ns)) _ S = _
    rw [bnd_t (look_t (k := ns.length) (by simp [lenOf, seqOf])), gd_t (decide_eq_true (by rw [sz]; omega))]
    rfl
  unfold b_law_deck
  refine wr_cons (σ2 := [some (.scr ns), some (.int (i : Nat)), some (.int 0)]) (S2 := S) (ex_asg (evE_int _)) ?_
  refine wr_seq (P := fun σ S' => S' = S ∧ ∃ c : Int, σ = [some (.scr ns), some (.int (i : Nat)), some (.int c)] ∧ 0 ≤ c ∧ Builtin.Int.intBits c ≤ 1048576) ?_ ?_
  · by_cases h : i < ns.length
    · have hix : idxM (.scr ns) (.int (i : Nat)) S = .ok (.int ns[i]) S := by
        show bnd (look fun S => seqOf S (.scr ns)) (fun xs => ofO (atI xs (i : Int))) S = _
        rw [bnd_t (look_t (k := ns.map D.int) rfl), atI_nat (y := .int ns[i]) (by simp [h])]
        rfl
      have hbi := hb _ (List.getElem_mem h)
      obtain ⟨c, hc, hc0, hcb⟩ : ∃ c : Int, maxM [.int 0, .int ns[i]] S = .ok (.int c) S ∧ 0 ≤ c ∧ Builtin.Int.intBits c ≤ 1048576 := by
        refine ⟨_, rfl, ?_⟩
        split
        · exact ⟨by omega, hbi⟩
        · exact ⟨Int.le_refl _, by decide⟩
      refine Wr.of (a := (.nx, [some (.scr ns), some (.int (i : Nat)), some (.int c)])) (S' := S) ?_ ⟨rfl, rfl, c, rfl, hc0, hcb⟩
      have h' : (i : Int) < (ns.length : Int) := by omega
      simp [hL, h, hix, hc]
    · refine Wr.of (a := (.nx, [some (.scr ns), some (.int (i : Nat)), some (.int 0)])) (S' := S) ?_ ⟨rfl, rfl, 0, rfl, Int.le_refl _, by decide⟩
      simp [hL, h]
  rintro σ S2 ⟨rfl, c, rfl, hc0, hcb⟩
  obtain ⟨b, hb2, hb3⟩ : ∃ b : Int, (if decide ((1000000000000000000 : Int) ≤ c) = true then (1 : Int) else 0) = b ∧ (b = 0 ∨ b = 1) := ⟨_, rfl, by split <;> simp⟩
  have hbb : Builtin.Int.intBits b ≤ 1 := by rcases hb3 with rfl | rfl <;> decide
  generalize hσ : [some (D.scr ns), some (.int (i : Nat)), some (.int c)] = σ
  have v2 : evE (callN T gl k) gl σ (.var 2) S2 = .ok (.int c) S2 := by rw [← hσ]; exact ev_var rfl
  have v1 : evE (callN T gl k) gl σ (.var 1) S2 = .ok (.int (i : Nat)) S2 := by rw [← hσ]; exact ev_var rfl
  have h1 : evE (callN T gl k) gl σ (.blt false "int" [(.cmp (.var 2) .GtE (.bin false .Pow (.int (10)) (.int (18))))]) S2 = .ok (.int b) S2 := by
    refine ev_blt1 (S1 := S2) (x := .bl (decide ((1000000000000000000 : Int) ≤ c))) ?_ ?_
    · rw [evE_cmp, v2, then_ok, bnd_app, ev_bin (evE_int _) (evE_int _) (hp S2), then_ok, cmp_ge]
    · rw [bm_int]
      show MI.R.ok (D.int _) S2 = _
      rw [hb2]
  have h2 : evE (callN T gl k) gl σ (.bin false .Mult (.var 2) (.blt false "int" [(.cmp (.var 2) .GtE (.bin false .Pow (.int (10)) (.int (18))))])) S2 = .ok (.int (c * b)) S2 := ev_bin v2 h1 (bin_mul (by omega))
  have h3 : evE (callN T gl k) gl σ (.bin false .Add (.bin false .Mod (.var 2) (.int (2147483647))) (.bin false .Mult (.int (7853)) (.var 1))) S2 = .ok (.int (c % 2147483647 + 7853 * (i : Int))) S2 := ev_bin (ev_bin v2 (evE_int _) (bin_mod (by omega))) (ev_bin (evE_int _) v1 (mul_ok (by omega) (by omega) (by omega) (by omega))) bin_add
  refine wr_ret (d := .loc S2.length) (S2 := S2 ++ [.lst [.int (c * b), .int (c % 2147483647 + 7853 * (i : Int)), .int 0]]) ?_ ⟨rfl, ⟨c * b, c % 2147483647 + 7853 * (i : Int), 0, by simp, by omega, by omega, by omega, by omega⟩, Chg.app⟩
  rw [evE_lst, evEs_cons, h2, then_ok, bnd_app, evEs_cons, h3, then_ok, bnd_app, evEs_cons, evE_int, then_ok, bnd_app, evEs_nil, then_ok, ret_app, then_ok, ret_app, then_ok, ret_app, then_ok, mkList_t (by show 3 ≤ sizeLine; decide)]
theorem long_ok {K m l : Nat} {S : Sto} (hd : Deck (m + 200) l S) : Wr (callN T gl (K + 5) "_law_long_room" [.loc l] S) (Drawn m l S DRoom) := by
  refine wr_call T_law_long_room rfl ?_
  show Wr (exSs _ gl b_law_long_room [some (.loc l), none, none, none, none] S) _
  unfold b_law_long_room
  obtain ⟨v, S1, e1, d1, c1, hv⟩ := words_ok (k := K + 1) (n := m + 178) (hd.mono (by omega))
  obtain ⟨w, S2, e2, d2, c2, l2, rfl, hl2, xs, x1, x2, x3⟩ := figures_ok' (k := K + 2) (n := m + 163) d1
  have hsl : slcM false (.loc l2) none (some 2) S2 = .ok (.lst ((xs.take 2).map nD)) S2 := by
    show bnd (look fun S => MI.listOf S _) _ S2 = _
    rw [bnd_t (look_t (k := xs.map nD) (by simp only [MI.listOf]; rw [x1])), show (some (2 : Int)) = some ((2 : Nat) : Int) from rfl, cut_take, ← List.map_take]
    exact mkList_f (by rw [sz]; simp; omega)
  obtain ⟨gs, hgs⟩ : ∃ gs, gs = xs.take 2 := ⟨_, rfl⟩
  rw [← hgs] at hsl
  have hg2 : gs.length ≤ 2 := by rw [hgs, List.length_take]; omega
  have hgx : ∀ g ∈ gs, g ≤ 1000099 := fun g hg => x3 g (List.mem_of_mem_take (hgs ▸ hg))
  have hne : gs ≠ [] := by
    intro e
    have := congrArg List.length (hgs.symm.trans e)
    rw [List.length_take, x2] at this
    cases this
  refine wr_cons (σ2 := [some (.loc l), some v, some (.lst (gs.map nD)), none, none]) (S2 := S2) (by
    rw [exS_asg, evE_tup, evEs_cons, ev_call1 (ev_var rfl) e1, then_ok, bnd_app, evEs_cons, evE_slc, ev_call1 (ev_var rfl) e2, then_ok, bnd_app, evO_no, then_ok, bnd_app, evO_at, evE_int, then_ok]
    dsimp only
    rw [ret_app, then_ok, hsl, then_ok, bnd_app, evEs_nil]
    simp only [then_ok, ret_app, mkTup_ok (show ([v, D.lst (gs.map nD)] : List D).length ≤ sizeLine by show 2 ≤ sizeLine; decide), bnd_app, evG_pair]
    rfl) ?_
  have hcomp : Wr (evE (callN T gl (K + 4)) gl [some (.loc l), some v, some (.lst (gs.map nD)), none, none] (.comp false [4] (.name 4) (.it (.blt false "range" [(.int (12))])) (.val (.bl true)) (.tup [(.str [110, 111, 116]), (.tup [(.tup []), (.tup [(.call "_law_plain" [(.var 0), (.var 2), (.var 1)])])])])) S2) fun d S' => ∃ ss : List D, d = .lst ss ∧ ss.length = 12 ∧ (∀ s ∈ ss, SayD (RoomD 1) s ∧ nod s ≤ 12) ∧ Deck m l S' ∧ Chg [l] S2 S' := by
    refine wr_comp (ds := intsUp 0 12) (S1 := S2) (I := fun i acc T => (i ≤ 12 → Deck (m + 7 * (12 - i)) l T) ∧ Chg [l] S2 T ∧ acc.length = i ∧ ∀ s ∈ acc, SayD (RoomD 1) s ∧ nod s ≤ 12) (by decide) (ev_range (evE_int _) (by decide)) ?_ ⟨fun _ => d2.mono (by omega), Chg.refl, rfl, by simp⟩ ?_
    · rintro i t acc S3 hd ⟨i1, i2, i3, i4⟩
      obtain ⟨rfl, hi⟩ := intsUp_get hd
      refine Wr.of (evG_name _ _) ?_
      simp only [wipeD, List.set_cons_succ, List.set_cons_zero]
      obtain ⟨s, S4, e4, d4, c4, hs⟩ := plain_ok (k := K + 1) (n := m + 7 * (12 - (i + 1))) (l := l) (v := v) (ts := gs.map nD) (S := S3) ((i1 (by omega)).mono (by omega)) hv (by simpa using hne) (by rw [sz]; simp; omega) (fun t h => by
        obtain ⟨x, hx, rfl⟩ := List.mem_map.mp h
        exact ⟨x, rfl, hgx x hx⟩)
      refine Wr.of (a := .tup [.str sNot, .tup [.tup [], .tup [s]]]) (S' := S4) ?_ ⟨fun _ => d4.mono (by omega), i2.trans c4, by simp [i3], fun y hy => ?_⟩
      · have ep : evE (callN T gl (K + 4)) gl [some (.loc l), some v, some (.lst (gs.map nD)), none, some (.int (0 + (i : Int)))] (.call "_law_plain" [(.var 0), (.var 2), (.var 1)]) S3 = .ok s S4 := by
          rw [evE_call, evEs_cons, ev_var (d := .loc l) rfl, then_ok, bnd_app, evEs_cons, ev_var (d := .lst (gs.map nD)) rfl, then_ok, bnd_app, evEs_cons, ev_var (d := v) rfl, then_ok, bnd_app, evEs_nil]
          simp only [then_ok, ret_app]
          exact e4
        have m0 : ∀ S, mkTup [] S = .ok (.tup []) S := fun S => mkTup_ok (by decide)
        have m1 : ∀ (x : D) S, mkTup [x] S = .ok (.tup [x]) S := fun x S => mkTup_ok (by show 1 ≤ sizeLine; decide)
        have m2 : ∀ (x y : D) S, mkTup [x, y] S = .ok (.tup [x, y]) S := fun x y S => mkTup_ok (by show 2 ≤ sizeLine; decide)
        simp only [evE_tup, evEs_cons, evEs_nil, evE_str, then_ok, bnd_app, ret_app, m0, ep, m1, m2]
      · rcases List.mem_append.mp hy with hy | hy
        · exact i4 y hy
        · rw [List.mem_singleton] at hy
          subst hy
          refine ⟨.inr (.inl ⟨_, rfl, [], [s], rfl, by simp, by simp, by simp, fun z hz => ?_⟩), ?_⟩
          · rw [List.mem_singleton] at hz
            exact hz ▸ .inl hs
          · have := nod_plain hs
            simp only [nod, nods]
            omega
    · rintro r S3 hr ⟨i1, i2, i3, i4⟩
      have hr12 : r.length = 12 := i3
      rw [mkList_f (by rw [sz]; omega), Wr_ok]
      exact ⟨r, rfl, hr12, i4, (i1 (by simp)).mono (by omega), i2⟩
  obtain ⟨d, S3, e3, ss, rfl, s1, s2, d3, c3⟩ := hcomp
  refine wr_cons (ex_asg e3) ?_
  simp only [List.set_cons_succ, List.set_cons_zero]
  refine wr_ret (d := .tup [.tup (gs.map nD), .tup ss]) (S2 := S3) ?_ ⟨d3, c1.trans (c2.trans c3), 2, by decide, ⟨gs, ss, rfl, by omega, hgx, by omega, fun s hs => (s2 s hs).1⟩, ?_⟩
  · rw [evE_tup, evEs_cons, ev_blt1 (x := .lst (gs.map nD)) (z := .tup (gs.map nD)) (ev_var rfl) (by rw [bm_tuple]; exact tupM_lst (by rw [List.length_map, sz]; omega)), then_ok, bnd_app, evEs_cons, ev_blt1 (x := .lst ss) (z := .tup ss) (ev_var rfl) (by rw [bm_tuple]; exact tupM_lst (by rw [sz]; omega)), then_ok, bnd_app, evEs_nil]
    simp only [then_ok, ret_app]
    exact mkTup_ok (by show 2 ≤ sizeLine; decide)
  · have n1 : nods (gs.map nD) = gs.length := by
      rw [nods_one (by intro x hx; obtain ⟨y, _, rfl⟩ := List.mem_map.mp hx; simp [nod]), List.length_map]
    have n2 := nods_le fun y hy => (s2 y hy).2
    simp only [nod, nods, n1]
    omega
def law_b1 : List MS := [(.ifs (.not (.val (.call "_law_right" [(.var 5)]))) [(.ret (.bl false))] [])]
def law_b : List MS := [(.asg (.name 2) (.call "_law_deck" [(.var 0), (.var 1)])),
    (.par 3 4 (.call "_law_any_room" [(.var 2)]) (.call "_law_any_room" [(.var 2)])),
    (.for (.name 5) (.it (.tup [(.var 3), (.var 4), (.call "_law_long_room" [(.var 2)]), (.var 3)])) law_b1)]
theorem b_law_eq : b_law = [(.for (.name 1) (.it (.blt false "range" [(.blt false "max" [(.int (2)), (.blt false "min" [(.blt false "len" [(.var 0)]), (.int (6))])])])) law_b),
    (.ret (.and (.cmp (.call "spots_in" [(.tup [(.tup []), (.tup [])])]) .Eq (.tup [(.tup [])])) (.cmp (.call "figures_in" [(.tup [(.tup []), (.tup [])])]) .Eq (.tup []))))] := rfl
theorem case_ok {i : Nat} {ns : List Int} {S : Sto} (hi : i ≤ 6) (hl : ns.length ≤ 63) (hb : ∀ z ∈ ns, Builtin.Int.intBits z ≤ 1048576) {o2 o3 o4 o5 : Option D} :
    Wr (exSs (callN T gl KK) gl law_b [some (.scr ns), some (.int (i : Nat)), o2, o3, o4, o5] S) fun p S' => p.1 = .nx ∧ ∃ o1 o2 o3 o4 o5, p.2 = [some (.scr ns), o1, o2, o3, o4, o5] := by
  unfold law_b
  obtain ⟨v, S1, e1, rfl, d1, c1⟩ := deck_ok (k := 28) (i := i) (S := S) hl hb hi
  refine wr_cons (ex_asg (ev_call2 (ev_var rfl) (ev_var rfl) e1)) ?_
  simp only [List.set_cons_succ, List.set_cons_zero]
  obtain ⟨a, S2, e2, d2, c2, na, ra1, ra2, ra3⟩ := any_room_ok (K := 29) (m := 900000) (by decide) (d1.mono (by omega))
  obtain ⟨b, S3, e3, d3, c3, nb, rb1, rb2, rb3⟩ := any_room_ok (K := 29) (m := 800000) (by decide) (d2.mono (by omega))
  obtain ⟨c, S4, e4, d4, c4, nc, rc1, rc2, rc3⟩ := long_ok (K := 24) (m := 700000) (d3.mono (by omega))
  refine wr_cons (σ2 := [some (.scr ns), some (.int (i : Nat)), some (.loc S.length), some a, some b, o5]) (S2 := S3) (by
    rw [exS_par, ev_call1 (ev_var rfl) e2, then_ok, bnd_app, ev_call1 (ev_var rfl) e3, then_ok]
    rfl) ?_
  refine wr_one ?_
  refine wr_forS (ds := [a, b, c, a]) (S1 := S4) (by
    rw [evI_tup, evE_tup, evEs_cons, ev_var (d := a) rfl, then_ok, bnd_app, evEs_cons, ev_var (d := b) rfl, then_ok, bnd_app, evEs_cons, ev_call1 (ev_var rfl) e4, then_ok, bnd_app, evEs_cons, ev_var (d := a) rfl, then_ok, bnd_app, evEs_nil]
    simp only [then_ok, ret_app, mkTup_ok (show ([a, b, c, a] : List D).length ≤ sizeLine by show 4 ≤ sizeLine; decide), itOf_tup]) ?_
  have hall : ∀ y ∈ [a, b, c, a], DRoom y := by
    intro y hy
    simp only [List.mem_cons, List.not_mem_nil, or_false] at hy
    rcases hy with rfl | rfl | rfl | rfl
    · exact ⟨na, ra1, ra2, ra3⟩
    · exact ⟨nb, rb1, rb2, rb3⟩
    · exact ⟨nc, rc1, rc2, rc3⟩
    · exact ⟨na, ra1, ra2, ra3⟩
  refine (wr_for (k := 0) (I := fun _ σ _ => ∃ o5, σ = [some (.scr ns), some (.int (i : Nat)), some (.loc S.length), some a, some b, o5]) (J := fun σ _ => ∃ o1 o2 o3 o4 o5, σ = [some (.scr ns), o1, o2, o3, o4, o5]) ?_ (fun σ S' ⟨o5, h⟩ => ⟨_, _, _, _, _, h⟩) ⟨_, rfl⟩).mono fun r S' h => h
  rintro j y σ S5 hd ⟨o5', rfl⟩
  obtain ⟨n, hn, hr, hz⟩ := hall y (List.mem_of_getElem? hd)
  refine Wr_bnd (Wr.of (evG_name _ _) ?_)
  simp only [List.set_cons_succ, List.set_cons_zero]
  obtain ⟨v, S6, e6, rfl, c6⟩ := right_ok (S := S5) hr hn hz
  refine Wr.of (a := (.nx, [some (.scr ns), some (.int (i : Nat)), some (.loc S.length), some a, some b, some y])) (S' := S6) ?_ (.inl ⟨rfl, _, rfl⟩)
  have e6' : evE (callN T gl KK) gl [some (.scr ns), some (.int (i : Nat)), some (.loc S.length), some a, some b, some y] (.call "_law_right" [(.var 5)]) S5 = .ok (.bl true) S6 := ev_call1 (ev_var rfl) e6
  unfold law_b1
  rw [exSs_cons, exS_ifs, evT_not, evT_val, e6', then_ok, look_app, truthOf_bl]
  simp [exSs_nil]
theorem empty_room : RoomD 1 (.tup [.tup [], .tup []]) := ⟨[], [], rfl, by simp, by simp, by simp, by simp⟩
theorem lawok : LawOk T gl 63 30 := by
  intro ns hl hb
  have key : Wr (callN T gl 30 "law" [.scr ns] []) fun r _ => r = .bl true := by
    refine wr_call T_law rfl ?_
    show Wr (exSs (callN T gl KK) gl b_law [some (.scr ns), none, none, none, none, none] []) _
    rw [b_law_eq]
    have hL : lenM [.scr ns] [] = .ok (.int (ns.length : Int)) [] := by
      show bnd (look fun S => lenOf S (.scr ns)) _ [] = _
      rw [bnd_t (look_t (k := ns.length) (by simp [lenOf, seqOf])), gd_t (decide_eq_true (by rw [sz]; omega))]
      rfl
    obtain ⟨p, hp⟩ : ∃ p : Int, p = (if (6 : Int) < (ns.length : Int) then 6 else (ns.length : Int)) := ⟨_, rfl⟩
    have hp5 : 0 ≤ p ∧ p ≤ 6 := by rw [hp]; split <;> omega
    obtain ⟨q, hq, hq5⟩ : ∃ q : Nat, (if p > (2 : Int) then p else 2) = (q : Int) ∧ q ≤ 6 := by
      by_cases h : p > 2
      · exact ⟨p.toNat, by rw [if_pos h]; omega, by omega⟩
      · exact ⟨2, by rw [if_neg h]; rfl, by decide⟩
    have h1 : evE (callN T gl KK) gl [some (.scr ns), none, none, none, none, none] (.blt false "min" [(.blt false "len" [(.var 0)]), (.int (6))]) [] = .ok (.int p) [] := by
      refine ev_blt2 (ev_blt1 (f := "len") (ev_var rfl) (by rw [bm_len]; exact hL)) (evE_int _) ?_
      rw [bm_min]
      show MI.R.ok (D.int _) [] = _
      rw [hp]
    have h2 : evE (callN T gl KK) gl [some (.scr ns), none, none, none, none, none] (.blt false "max" [(.int (2)), (.blt false "min" [(.blt false "len" [(.var 0)]), (.int (6))])]) [] = .ok (.int (q : Int)) [] := by
      refine ev_blt2 (evE_int _) h1 ?_
      rw [bm_max]
      show MI.R.ok (D.int _) [] = _
      rw [hq]
    refine wr_seq (P := fun σ _ => True) ?_ ?_
    · refine wr_forS (ds := intsUp 0 q) (S1 := []) (ev_range h2 (by omega)) ?_
      refine (wr_for (k := 0) (I := fun _ σ _ => ∃ o1 o2 o3 o4 o5, σ = [some (.scr ns), o1, o2, o3, o4, o5]) (J := fun _ _ => True) ?_ (fun _ _ _ => trivial) ⟨_, _, _, _, _, rfl⟩).mono (fun r S' h => h)
      rintro i t σ S hd ⟨o1, o2, o3, o4, o5, rfl⟩
      obtain ⟨rfl, hi⟩ := intsUp_get hd
      refine Wr_bnd (Wr.of (evG_name _ _) ?_)
      simp only [List.set_cons_succ, List.set_cons_zero]
      rw [show (0 : Int) + (i : Int) = ((i : Nat) : Int) by omega]
      refine (case_ok (i := i) (S := S) (by omega) hl hb).mono ?_
      rintro r S' ⟨r1, p1, p2, p3, p4, p5, r2⟩
      exact .inl ⟨r1, _, _, _, _, _, r2⟩
    · rintro σ S2 _
      have m0 : ∀ S, mkTup [] S = .ok (.tup []) S := fun S => mkTup_ok (by decide)
      have m1 : ∀ (x : D) S, mkTup [x] S = .ok (.tup [x]) S := fun x S => mkTup_ok (by show 1 ≤ sizeLine; decide)
      have m2 : ∀ (x y : D) S, mkTup [x, y] S = .ok (.tup [x, y]) S := fun x y S => mkTup_ok (by show 2 ≤ sizeLine; decide)
      have er : ∀ S, evE (callN T gl KK) gl σ (.tup [(.tup []), (.tup [])]) S = .ok (.tup [.tup [], .tup []]) S := fun S => by
        simp only [evE_tup, evEs_cons, evEs_nil, then_ok, bnd_app, ret_app, m0, m2]
      obtain ⟨v, S3, e3, rfl, c3⟩ := spots_in_ok 1 KK (by decide) (.tup [.tup [], .tup []]) S2 empty_room (by decide) (by decide)
      have e4 := figures_in_ok (K := 21) (S := S3) empty_room (by decide) (by decide)
      have c1 : cmpM .Eq (.tup [.tup []]) (.tup [.tup []]) S3 = .ok (.bl true) S3 := rfl
      have c2 : cmpM .Eq (.tup []) (.tup []) S3 = .ok (.bl true) S3 := rfl
      have s1 : D.tup ((roomsL 1 (.tup [.tup [], .tup []])).map fun q => enT q.1) = .tup [.tup []] := rfl
      have s2 : D.tup (risen (namedL 1 (.tup [.tup [], .tup []]))) = .tup [] := by
        have : risen (namedL 1 (.tup [.tup [], .tup []])) = [] := List.length_eq_zero_iff.mp (by rw [risen_len]; rfl)
        rw [this]
      rw [s1] at e3
      rw [s2] at e4
      refine wr_ret (d := .bl true) (S2 := S3) ?_ rfl
      have l1 : evE (callN T gl KK) gl σ (.cmp (.call "spots_in" [(.tup [(.tup []), (.tup [])])]) .Eq (.tup [(.tup [])])) S2 = .ok (.bl true) S3 := by
        rw [evE_cmp, ev_call1 (er S2) e3, then_ok, bnd_app, evE_tup, evEs_cons, evE_tup, evEs_nil]
        simp only [then_ok, bnd_app, ret_app, m0, evEs_nil, m1, c1]
      have l2 : evE (callN T gl KK) gl σ (.cmp (.call "figures_in" [(.tup [(.tup []), (.tup [])])]) .Eq (.tup [])) S3 = .ok (.bl true) S3 := by
        rw [evE_cmp, ev_call1 (er S3) e4, then_ok, bnd_app, evE_tup, evEs_nil]
        simp only [then_ok, bnd_app, ret_app, m0, c2]
      rw [evE_and, l1, then_ok, bnd_app, look_app, truthOf_bl]
      simp [l2]
  obtain ⟨r, S', e, rfl⟩ := key
  exact ⟨S', e⟩
end K12
set_option Elab.async false
set_option linter.all false
set_option maxRecDepth 100000
set_option maxHeartbeats 4000000
namespace K12
open PySem PySem.Spec PyProof.Rows L2 MI

def topS (i : Nat) : Stmt := PySem.Challenge.pw_talkrooms_k12_spots_and_rooms_there.main.body.getD i (.Pass ⟨0, 0, 0, 0⟩)
def C_is_plain : TC := ⟨["saying"], [], ["PLAIN"], [], [], xsL, xnL⟩
theorem tr_is_plain : trSs C_is_plain (defScope (topS 2)) (defBody (topS 2)) = b_is_plain := by kernel_rfl
theorem sc_is_plain : FnScope C_is_plain.N ["saying"] (defScope (topS 2)) := ⟨rfl, rfl, rfl, by decide +kernel, rfl, by decide +kernel, by decide +kernel⟩
def C_sides_of : TC := ⟨["saying"], ["is_plain"], [], [], [], xsL, xnL⟩
theorem tr_sides_of : trSs C_sides_of (defScope (topS 3)) (defBody (topS 3)) = b_sides_of := by kernel_rfl
theorem sc_sides_of : FnScope C_sides_of.N ["saying"] (defScope (topS 3)) := ⟨rfl, rfl, rfl, by decide +kernel, rfl, by decide +kernel, by decide +kernel⟩
def C_all_named : TC := ⟨["room", "figures", "sayings", "inner", "saying", "side", "figure"], ["sides_of", "all_named"], [], ["list"], [], xsL, xnL⟩
theorem tr_all_named : trSs C_all_named (defScope (topS 4)) (defBody (topS 4)) = b_all_named := by kernel_rfl
theorem sc_all_named : FnScope C_all_named.N ["room"] (defScope (topS 4)) := ⟨rfl, rfl, rfl, by decide +kernel, rfl, by decide +kernel, by decide +kernel⟩
def C_spots_in : TC := ⟨["room", "found", "number", "saying", "side", "inner", "spot"], ["sides_of", "spots_in"], [], ["tuple", "enumerate"], [(12, 12, 12, 16)], xsL, xnL⟩
theorem tr_spots_in : trSs C_spots_in (defScope (topS 5)) (defBody (topS 5)) = b_spots_in := by kernel_rfl
theorem sc_spots_in : FnScope C_spots_in.N ["room"] (defScope (topS 5)) := ⟨rfl, rfl, rfl, by decide +kernel, rfl, by decide +kernel, by decide +kernel⟩
def C_room_at : TC := ⟨["room", "spot", "here", "at", "number", "side"], ["sides_of"], [], ["len", "range"], [], xsL, xnL⟩
theorem tr_room_at : trSs C_room_at (defScope (topS 6)) (defBody (topS 6)) = b_room_at := by kernel_rfl
theorem sc_room_at : FnScope C_room_at.N ["room", "spot"] (defScope (topS 6)) := ⟨rfl, rfl, rfl, by decide +kernel, rfl, by decide +kernel, by decide +kernel⟩
def C_figures_in : TC := ⟨["room"], ["all_named"], [], ["tuple", "sorted"], [], xsL, xnL⟩
theorem tr_figures_in : trSs C_figures_in (defScope (topS 7)) (defBody (topS 7)) = b_figures_in := by kernel_rfl
theorem sc_figures_in : FnScope C_figures_in.N ["room"] (defScope (topS 7)) := ⟨rfl, rfl, rfl, by decide +kernel, rfl, by decide +kernel, by decide +kernel⟩
def C_law_deck : TC := ⟨["_law_script", "_law_k", "_law_cell"], [], [], ["len", "int", "max"], [(30, 11, 30, 94)], xsL, xnL⟩
theorem tr_law_deck : trSs C_law_deck (defScope (topS 9)) (defBody (topS 9)) = b_law_deck := by kernel_rfl
theorem sc_law_deck : FnScope C_law_deck.N ["_law_script", "_law_k"] (defScope (topS 9)) := ⟨rfl, rfl, rfl, by decide +kernel, rfl, by decide +kernel, by decide +kernel⟩
def C_law_draw : TC := ⟨["_law_deck_here", "_law_ways", "_law_digit", "_law_number"], [], [], [], [], xsL, xnL⟩
theorem tr_law_draw : trSs C_law_draw (defScope (topS 10)) (defBody (topS 10)) = b_law_draw := by kernel_rfl
theorem sc_law_draw : FnScope C_law_draw.N ["_law_deck_here", "_law_ways"] (defScope (topS 10)) := ⟨rfl, rfl, rfl, by decide +kernel, rfl, by decide +kernel, by decide +kernel⟩
def C_law_kept : TC := ⟨[], [], [], [], [], xsL, xnL⟩
theorem tr_law_kept : trSs C_law_kept (defScope (topS 11)) (defBody (topS 11)) = b_law_kept := by kernel_rfl
theorem sc_law_kept : FnScope C_law_kept.N [] (defScope (topS 11)) := ⟨rfl, rfl, rfl, by decide +kernel, rfl, by decide +kernel, by decide +kernel⟩
def C_law_texts : TC := ⟨["_law_deck_here", "_law_many", "_law_letters", "_law_way", "_law_first", "_law_stem", "_law_k", "_law_at", "_law_found", "_law_sign", "_law_word"], ["_law_draw", "_law_kept"], [], ["int", "range"], [(48, 17, 48, 19)], xsL, xnL⟩
theorem tr_law_texts : trSs C_law_texts (defScope (topS 12)) (defBody (topS 12)) = b_law_texts := by kernel_rfl
theorem sc_law_texts : FnScope C_law_texts.N ["_law_deck_here", "_law_many"] (defScope (topS 12)) := ⟨rfl, rfl, rfl, by decide +kernel, rfl, by decide +kernel, by decide +kernel⟩
def C_law_words : TC := ⟨["_law_deck_here", "_law_some", "_law_names", "_law_word"], ["_law_texts"], [], ["sorted", "set"], [], xsL, xnL⟩
theorem tr_law_words : trSs C_law_words (defScope (topS 13)) (defBody (topS 13)) = b_law_words := by kernel_rfl
theorem sc_law_words : FnScope C_law_words.N ["_law_deck_here"] (defScope (topS 13)) := ⟨rfl, rfl, rfl, by decide +kernel, rfl, by decide +kernel, by decide +kernel⟩
def C_law_figures : TC := ⟨["_law_deck_here", "_law_first", "_law_step", "_law_left", "_law_k"], ["_law_draw"], [], ["len", "range"], [(62, 16, 62, 73), (63, 11, 63, 93)], xsL, xnL⟩
theorem tr_law_figures : trSs C_law_figures (defScope (topS 14)) (defBody (topS 14)) = b_law_figures := by kernel_rfl
theorem sc_law_figures : FnScope C_law_figures.N ["_law_deck_here"] (defScope (topS 14)) := ⟨rfl, rfl, rfl, by decide +kernel, rfl, by decide +kernel, by decide +kernel⟩
def C_law_pick : TC := ⟨["_law_deck_here", "_law_some"], ["_law_draw"], [], ["len"], [], xsL, xnL⟩
theorem tr_law_pick : trSs C_law_pick (defScope (topS 15)) (defBody (topS 15)) = b_law_pick := by kernel_rfl
theorem sc_law_pick : FnScope C_law_pick.N ["_law_deck_here", "_law_some"] (defScope (topS 15)) := ⟨rfl, rfl, rfl, by decide +kernel, rfl, by decide +kernel, by decide +kernel⟩
def C_law_plain : TC := ⟨["_law_deck_here", "_law_here", "_law_words_here", "_law_one", "_law_other", "_law_some"], ["_law_pick"], [], [], [], xsL, xnL⟩
theorem tr_law_plain : trSs C_law_plain (defScope (topS 16)) (defBody (topS 16)) = b_law_plain := by kernel_rfl
theorem sc_law_plain : FnScope C_law_plain.N ["_law_deck_here", "_law_here", "_law_words_here"] (defScope (topS 16)) := ⟨rfl, rfl, rfl, by decide +kernel, rfl, by decide +kernel, by decide +kernel⟩
def C_law_room : TC := ⟨["_law_deck_here", "_law_deep", "_law_left", "_law_here", "_law_words_here", "_law_budget", "_law_figures_here", "_law_k", "_law_sayings", "_law_sort", "_law_one", "_law_saying", "_law_more", "_law_other"], ["_law_draw", "_law_plain", "_law_room"], [], ["len", "tuple", "list", "min", "range"], [(74, 19, 74, 21)], xsL, xnL⟩
theorem tr_law_room : trSs C_law_room (defScope (topS 17)) (defBody (topS 17)) = b_law_room := by kernel_rfl
theorem sc_law_room : FnScope C_law_room.N ["_law_deck_here", "_law_deep", "_law_left", "_law_here", "_law_words_here", "_law_budget"] (defScope (topS 17)) := ⟨rfl, rfl, rfl, by decide +kernel, rfl, by decide +kernel, by decide +kernel⟩
def C_law_any_room : TC := ⟨["_law_deck_here", "_law_words_here"], ["_law_draw", "_law_words", "_law_figures", "_law_room"], [], [], [(91, 129, 91, 133)], xsL, xnL⟩
theorem tr_law_any_room : trSs C_law_any_room (defScope (topS 18)) (defBody (topS 18)) = b_law_any_room := by kernel_rfl
theorem sc_law_any_room : FnScope C_law_any_room.N ["_law_deck_here"] (defScope (topS 18)) := ⟨rfl, rfl, rfl, by decide +kernel, rfl, by decide +kernel, by decide +kernel⟩
def C_law_spots : TC := ⟨["_law_room_here", "_law_found", "_law_number", "_law_saying", "_law_side", "_law_inner", "_law_spot", "_law_there"], ["_law_spots"], [], ["enumerate"], [], xsL, xnL⟩
theorem tr_law_spots : trSs C_law_spots (defScope (topS 19)) (defBody (topS 19)) = b_law_spots := by kernel_rfl
theorem sc_law_spots : FnScope C_law_spots.N ["_law_room_here"] (defScope (topS 19)) := ⟨rfl, rfl, rfl, by decide +kernel, rfl, by decide +kernel, by decide +kernel⟩
def C_law_named : TC := ⟨["_law_room_here", "_law_found", "_law_spot", "_law_there"], ["_law_spots"], [], ["tuple", "list", "sorted"], [], xsL, xnL⟩
theorem tr_law_named : trSs C_law_named (defScope (topS 20)) (defBody (topS 20)) = b_law_named := by kernel_rfl
theorem sc_law_named : FnScope C_law_named.N ["_law_room_here"] (defScope (topS 20)) := ⟨rfl, rfl, rfl, by decide +kernel, rfl, by decide +kernel, by decide +kernel⟩
def C_law_right : TC := ⟨["_law_room_here", "_law_written", "_law_some", "_law_spot", "_law_there", "_law_behind", "_law_more", "_law_inner", "_law_one"], ["spots_in", "room_at", "figures_in", "_law_spots", "_law_named"], [], ["len", "repr", "tuple", "sorted"], [], xsL, xnL⟩
theorem tr_law_right : trSs C_law_right (defScope (topS 21)) (defBody (topS 21)) = b_law_right := by kernel_rfl
theorem sc_law_right : FnScope C_law_right.N ["_law_room_here"] (defScope (topS 21)) := ⟨rfl, rfl, rfl, by decide +kernel, rfl, by decide +kernel, by decide +kernel⟩
def C_law_long_room : TC := ⟨["_law_deck_here", "_law_words_here", "_law_here", "_law_some", "_law_k"], ["_law_words", "_law_figures", "_law_plain"], [], ["tuple", "range"], [], xsL, xnL⟩
theorem tr_law_long_room : trSs C_law_long_room (defScope (topS 22)) (defBody (topS 22)) = b_law_long_room := by kernel_rfl
theorem sc_law_long_room : FnScope C_law_long_room.N ["_law_deck_here"] (defScope (topS 22)) := ⟨rfl, rfl, rfl, by decide +kernel, rfl, by decide +kernel, by decide +kernel⟩
def C_law : TC := ⟨["_law_script", "_law_k", "_law_deck_here", "_law_one", "_law_other", "_law_room_here"], ["spots_in", "figures_in", "_law_deck", "_law_any_room", "_law_right", "_law_long_room"], [], ["len", "min", "max", "range"], [], xsL, xnL⟩
theorem tr_law : trSs C_law (defScope (topS 23)) (defBody (topS 23)) = b_law := by kernel_rfl
theorem sc_law : FnScope C_law.N ["_law_script"] (defScope (topS 23)) := ⟨rfl, rfl, rfl, by decide +kernel, rfl, by decide +kernel, by decide +kernel⟩
def unames : List Str := ["len", "int", "repr", "tuple", "list", "min", "max", "range", "enumerate", "sorted", "set"]
theorem all_mk {K : PySem.W.Frag} {h : Heap} {mg : Str → Option Value} (X : K.In h) (G : h.Ns mainGlobals mg)
    {f0 : Addr} {od0 an0 : Option Addr} {sl0 : Array (Option Value)} {oc0 kV0 dc0 pm0 cd0 ct0 : Value} (a0 : PySem.W.nsIn K mainGlobals "is_plain" = some (some (.ref f0))) (l0 : K.lookup f0 = some ⟨oc0, od0, .func (PySem.W.fnOf "is_plain" "is_plain" (defArgs (topS 2)) (defBody (topS 2)) (defScope (topS 2)) .none kV0 dc0 pm0 an0 cd0 ct0), sl0⟩) (c0 : PySem.W.codeIn K cd0 "is_plain" = true) (k0 : PySem.W.keepIn K (.ref f0) = true)
    {f1 : Addr} {od1 an1 : Option Addr} {sl1 : Array (Option Value)} {oc1 kV1 dc1 pm1 cd1 ct1 : Value} (a1 : PySem.W.nsIn K mainGlobals "sides_of" = some (some (.ref f1))) (l1 : K.lookup f1 = some ⟨oc1, od1, .func (PySem.W.fnOf "sides_of" "sides_of" (defArgs (topS 3)) (defBody (topS 3)) (defScope (topS 3)) .none kV1 dc1 pm1 an1 cd1 ct1), sl1⟩) (c1 : PySem.W.codeIn K cd1 "sides_of" = true) (k1 : PySem.W.keepIn K (.ref f1) = true)
    {f2 : Addr} {od2 an2 : Option Addr} {sl2 : Array (Option Value)} {oc2 kV2 dc2 pm2 cd2 ct2 : Value} (a2 : PySem.W.nsIn K mainGlobals "all_named" = some (some (.ref f2))) (l2 : K.lookup f2 = some ⟨oc2, od2, .func (PySem.W.fnOf "all_named" "all_named" (defArgs (topS 4)) (defBody (topS 4)) (defScope (topS 4)) .none kV2 dc2 pm2 an2 cd2 ct2), sl2⟩) (c2 : PySem.W.codeIn K cd2 "all_named" = true) (k2 : PySem.W.keepIn K (.ref f2) = true)
    {f3 : Addr} {od3 an3 : Option Addr} {sl3 : Array (Option Value)} {oc3 kV3 dc3 pm3 cd3 ct3 : Value} (a3 : PySem.W.nsIn K mainGlobals "spots_in" = some (some (.ref f3))) (l3 : K.lookup f3 = some ⟨oc3, od3, .func (PySem.W.fnOf "spots_in" "spots_in" (defArgs (topS 5)) (defBody (topS 5)) (defScope (topS 5)) .none kV3 dc3 pm3 an3 cd3 ct3), sl3⟩) (c3 : PySem.W.codeIn K cd3 "spots_in" = true) (k3 : PySem.W.keepIn K (.ref f3) = true)
    {f4 : Addr} {od4 an4 : Option Addr} {sl4 : Array (Option Value)} {oc4 kV4 dc4 pm4 cd4 ct4 : Value} (a4 : PySem.W.nsIn K mainGlobals "room_at" = some (some (.ref f4))) (l4 : K.lookup f4 = some ⟨oc4, od4, .func (PySem.W.fnOf "room_at" "room_at" (defArgs (topS 6)) (defBody (topS 6)) (defScope (topS 6)) .none kV4 dc4 pm4 an4 cd4 ct4), sl4⟩) (c4 : PySem.W.codeIn K cd4 "room_at" = true) (k4 : PySem.W.keepIn K (.ref f4) = true)
    {f5 : Addr} {od5 an5 : Option Addr} {sl5 : Array (Option Value)} {oc5 kV5 dc5 pm5 cd5 ct5 : Value} (a5 : PySem.W.nsIn K mainGlobals "figures_in" = some (some (.ref f5))) (l5 : K.lookup f5 = some ⟨oc5, od5, .func (PySem.W.fnOf "figures_in" "figures_in" (defArgs (topS 7)) (defBody (topS 7)) (defScope (topS 7)) .none kV5 dc5 pm5 an5 cd5 ct5), sl5⟩) (c5 : PySem.W.codeIn K cd5 "figures_in" = true) (k5 : PySem.W.keepIn K (.ref f5) = true)
    {f6 : Addr} {od6 an6 : Option Addr} {sl6 : Array (Option Value)} {oc6 kV6 dc6 pm6 cd6 ct6 : Value} (a6 : PySem.W.nsIn K mainGlobals "_law_deck" = some (some (.ref f6))) (l6 : K.lookup f6 = some ⟨oc6, od6, .func (PySem.W.fnOf "_law_deck" "_law_deck" (defArgs (topS 9)) (defBody (topS 9)) (defScope (topS 9)) .none kV6 dc6 pm6 an6 cd6 ct6), sl6⟩) (c6 : PySem.W.codeIn K cd6 "_law_deck" = true) (k6 : PySem.W.keepIn K (.ref f6) = true)
    {f7 : Addr} {od7 an7 : Option Addr} {sl7 : Array (Option Value)} {oc7 kV7 dc7 pm7 cd7 ct7 : Value} (a7 : PySem.W.nsIn K mainGlobals "_law_draw" = some (some (.ref f7))) (l7 : K.lookup f7 = some ⟨oc7, od7, .func (PySem.W.fnOf "_law_draw" "_law_draw" (defArgs (topS 10)) (defBody (topS 10)) (defScope (topS 10)) .none kV7 dc7 pm7 an7 cd7 ct7), sl7⟩) (c7 : PySem.W.codeIn K cd7 "_law_draw" = true) (k7 : PySem.W.keepIn K (.ref f7) = true)
    {f8 : Addr} {od8 an8 : Option Addr} {sl8 : Array (Option Value)} {oc8 kV8 dc8 pm8 cd8 ct8 : Value} (a8 : PySem.W.nsIn K mainGlobals "_law_kept" = some (some (.ref f8))) (l8 : K.lookup f8 = some ⟨oc8, od8, .func (PySem.W.fnOf "_law_kept" "_law_kept" (defArgs (topS 11)) (defBody (topS 11)) (defScope (topS 11)) .none kV8 dc8 pm8 an8 cd8 ct8), sl8⟩) (c8 : PySem.W.codeIn K cd8 "_law_kept" = true) (k8 : PySem.W.keepIn K (.ref f8) = true)
    {f9 : Addr} {od9 an9 : Option Addr} {sl9 : Array (Option Value)} {oc9 kV9 dc9 pm9 cd9 ct9 : Value} (a9 : PySem.W.nsIn K mainGlobals "_law_texts" = some (some (.ref f9))) (l9 : K.lookup f9 = some ⟨oc9, od9, .func (PySem.W.fnOf "_law_texts" "_law_texts" (defArgs (topS 12)) (defBody (topS 12)) (defScope (topS 12)) .none kV9 dc9 pm9 an9 cd9 ct9), sl9⟩) (c9 : PySem.W.codeIn K cd9 "_law_texts" = true) (k9 : PySem.W.keepIn K (.ref f9) = true)
    {f10 : Addr} {od10 an10 : Option Addr} {sl10 : Array (Option Value)} {oc10 kV10 dc10 pm10 cd10 ct10 : Value} (a10 : PySem.W.nsIn K mainGlobals "_law_words" = some (some (.ref f10))) (l10 : K.lookup f10 = some ⟨oc10, od10, .func (PySem.W.fnOf "_law_words" "_law_words" (defArgs (topS 13)) (defBody (topS 13)) (defScope (topS 13)) .none kV10 dc10 pm10 an10 cd10 ct10), sl10⟩) (c10 : PySem.W.codeIn K cd10 "_law_words" = true) (k10 : PySem.W.keepIn K (.ref f10) = true)
    {f11 : Addr} {od11 an11 : Option Addr} {sl11 : Array (Option Value)} {oc11 kV11 dc11 pm11 cd11 ct11 : Value} (a11 : PySem.W.nsIn K mainGlobals "_law_figures" = some (some (.ref f11))) (l11 : K.lookup f11 = some ⟨oc11, od11, .func (PySem.W.fnOf "_law_figures" "_law_figures" (defArgs (topS 14)) (defBody (topS 14)) (defScope (topS 14)) .none kV11 dc11 pm11 an11 cd11 ct11), sl11⟩) (c11 : PySem.W.codeIn K cd11 "_law_figures" = true) (k11 : PySem.W.keepIn K (.ref f11) = true)
    {f12 : Addr} {od12 an12 : Option Addr} {sl12 : Array (Option Value)} {oc12 kV12 dc12 pm12 cd12 ct12 : Value} (a12 : PySem.W.nsIn K mainGlobals "_law_pick" = some (some (.ref f12))) (l12 : K.lookup f12 = some ⟨oc12, od12, .func (PySem.W.fnOf "_law_pick" "_law_pick" (defArgs (topS 15)) (defBody (topS 15)) (defScope (topS 15)) .none kV12 dc12 pm12 an12 cd12 ct12), sl12⟩) (c12 : PySem.W.codeIn K cd12 "_law_pick" = true) (k12 : PySem.W.keepIn K (.ref f12) = true)
    {f13 : Addr} {od13 an13 : Option Addr} {sl13 : Array (Option Value)} {oc13 kV13 dc13 pm13 cd13 ct13 : Value} (a13 : PySem.W.nsIn K mainGlobals "_law_plain" = some (some (.ref f13))) (l13 : K.lookup f13 = some ⟨oc13, od13, .func (PySem.W.fnOf "_law_plain" "_law_plain" (defArgs (topS 16)) (defBody (topS 16)) (defScope (topS 16)) .none kV13 dc13 pm13 an13 cd13 ct13), sl13⟩) (c13 : PySem.W.codeIn K cd13 "_law_plain" = true) (k13 : PySem.W.keepIn K (.ref f13) = true)
    {f14 : Addr} {od14 an14 : Option Addr} {sl14 : Array (Option Value)} {oc14 kV14 dc14 pm14 cd14 ct14 : Value} (a14 : PySem.W.nsIn K mainGlobals "_law_room" = some (some (.ref f14))) (l14 : K.lookup f14 = some ⟨oc14, od14, .func (PySem.W.fnOf "_law_room" "_law_room" (defArgs (topS 17)) (defBody (topS 17)) (defScope (topS 17)) .none kV14 dc14 pm14 an14 cd14 ct14), sl14⟩) (c14 : PySem.W.codeIn K cd14 "_law_room" = true) (k14 : PySem.W.keepIn K (.ref f14) = true)
    {f15 : Addr} {od15 an15 : Option Addr} {sl15 : Array (Option Value)} {oc15 kV15 dc15 pm15 cd15 ct15 : Value} (a15 : PySem.W.nsIn K mainGlobals "_law_any_room" = some (some (.ref f15))) (l15 : K.lookup f15 = some ⟨oc15, od15, .func (PySem.W.fnOf "_law_any_room" "_law_any_room" (defArgs (topS 18)) (defBody (topS 18)) (defScope (topS 18)) .none kV15 dc15 pm15 an15 cd15 ct15), sl15⟩) (c15 : PySem.W.codeIn K cd15 "_law_any_room" = true) (k15 : PySem.W.keepIn K (.ref f15) = true)
    {f16 : Addr} {od16 an16 : Option Addr} {sl16 : Array (Option Value)} {oc16 kV16 dc16 pm16 cd16 ct16 : Value} (a16 : PySem.W.nsIn K mainGlobals "_law_spots" = some (some (.ref f16))) (l16 : K.lookup f16 = some ⟨oc16, od16, .func (PySem.W.fnOf "_law_spots" "_law_spots" (defArgs (topS 19)) (defBody (topS 19)) (defScope (topS 19)) .none kV16 dc16 pm16 an16 cd16 ct16), sl16⟩) (c16 : PySem.W.codeIn K cd16 "_law_spots" = true) (k16 : PySem.W.keepIn K (.ref f16) = true)
    {f17 : Addr} {od17 an17 : Option Addr} {sl17 : Array (Option Value)} {oc17 kV17 dc17 pm17 cd17 ct17 : Value} (a17 : PySem.W.nsIn K mainGlobals "_law_named" = some (some (.ref f17))) (l17 : K.lookup f17 = some ⟨oc17, od17, .func (PySem.W.fnOf "_law_named" "_law_named" (defArgs (topS 20)) (defBody (topS 20)) (defScope (topS 20)) .none kV17 dc17 pm17 an17 cd17 ct17), sl17⟩) (c17 : PySem.W.codeIn K cd17 "_law_named" = true) (k17 : PySem.W.keepIn K (.ref f17) = true)
    {f18 : Addr} {od18 an18 : Option Addr} {sl18 : Array (Option Value)} {oc18 kV18 dc18 pm18 cd18 ct18 : Value} (a18 : PySem.W.nsIn K mainGlobals "_law_right" = some (some (.ref f18))) (l18 : K.lookup f18 = some ⟨oc18, od18, .func (PySem.W.fnOf "_law_right" "_law_right" (defArgs (topS 21)) (defBody (topS 21)) (defScope (topS 21)) .none kV18 dc18 pm18 an18 cd18 ct18), sl18⟩) (c18 : PySem.W.codeIn K cd18 "_law_right" = true) (k18 : PySem.W.keepIn K (.ref f18) = true)
    {f19 : Addr} {od19 an19 : Option Addr} {sl19 : Array (Option Value)} {oc19 kV19 dc19 pm19 cd19 ct19 : Value} (a19 : PySem.W.nsIn K mainGlobals "_law_long_room" = some (some (.ref f19))) (l19 : K.lookup f19 = some ⟨oc19, od19, .func (PySem.W.fnOf "_law_long_room" "_law_long_room" (defArgs (topS 22)) (defBody (topS 22)) (defScope (topS 22)) .none kV19 dc19 pm19 an19 cd19 ct19), sl19⟩) (c19 : PySem.W.codeIn K cd19 "_law_long_room" = true) (k19 : PySem.W.keepIn K (.ref f19) = true)
    {f20 : Addr} {od20 an20 : Option Addr} {sl20 : Array (Option Value)} {oc20 kV20 dc20 pm20 cd20 ct20 : Value} (a20 : PySem.W.nsIn K mainGlobals "law" = some (some (.ref f20))) (l20 : K.lookup f20 = some ⟨oc20, od20, .func (PySem.W.fnOf "law" "law" (defArgs (topS 23)) (defBody (topS 23)) (defScope (topS 23)) .none kV20 dc20 pm20 an20 cd20 ct20), sl20⟩) (c20 : PySem.W.codeIn K cd20 "law" = true) (k20 : PySem.W.keepIn K (.ref f20) = true)
    (xa : (xnL.all (xnB K)) = true) (xb : (xsL.all (xcB K xnL)) = true)
    (u0 : PySem.W.nsIn K mainGlobals "len" = some none)
    (u1 : PySem.W.nsIn K mainGlobals "int" = some none)
    (u2 : PySem.W.nsIn K mainGlobals "repr" = some none)
    (u3 : PySem.W.nsIn K mainGlobals "tuple" = some none)
    (u4 : PySem.W.nsIn K mainGlobals "list" = some none)
    (u5 : PySem.W.nsIn K mainGlobals "min" = some none)
    (u6 : PySem.W.nsIn K mainGlobals "max" = some none)
    (u7 : PySem.W.nsIn K mainGlobals "range" = some none)
    (u8 : PySem.W.nsIn K mainGlobals "enumerate" = some none)
    (u9 : PySem.W.nsIn K mainGlobals "sorted" = some none)
    (u10 : PySem.W.nsIn K mainGlobals "set" = some none)
    {v0 : Value} (g0 : PySem.W.nsIn K mainGlobals "PLAIN" = some (some v0)) (r0 : relB K 8 (.ktup [(.str [105, 115]), (.str [99, 97, 108, 108, 101, 100]), (.str [111, 102]), (.str [100, 111, 101, 115])]) v0 = true) :
    ∀ {P : Program} {w : World} {fa : Addr}, mg "law" = some (.ref fa) → ∃ fd : FuncData, (∀ (s : Shared) (u : Value), BindsTo s fd ⟨[u], []⟩ [("_law_script", u)]) ∧ ∀ base : Heap, K.In base → base.Ns mainGlobals mg → SysK base → FnG P w K mg base (30 + 2) fa fd ["_law_script"] (spF K mg T gl 30 "law") := by
  have hU : ∀ y ∈ unames, mg y = none := by
    intro y hy
    simp only [unames, List.mem_cons, List.not_mem_nil, or_false] at hy
    rcases hy with rfl | rfl | rfl | rfl | rfl | rfl | rfl | rfl | rfl | rfl | rfl
    · exact PySem.W.mg_none_of X G u0
    · exact PySem.W.mg_none_of X G u1
    · exact PySem.W.mg_none_of X G u2
    · exact PySem.W.mg_none_of X G u3
    · exact PySem.W.mg_none_of X G u4
    · exact PySem.W.mg_none_of X G u5
    · exact PySem.W.mg_none_of X G u6
    · exact PySem.W.mg_none_of X G u7
    · exact PySem.W.mg_none_of X G u8
    · exact PySem.W.mg_none_of X G u9
    · exact PySem.W.mg_none_of X G u10
  have hF : ∀ y ∈ XT.fs, ∃ f, mg y = some (.ref f) := by
    intro y hy
    have hy : y ∈ fnames := hy
    simp only [fnames, List.mem_cons, List.not_mem_nil, or_false] at hy
    rcases hy with rfl | rfl | rfl | rfl | rfl | rfl | rfl | rfl | rfl | rfl | rfl | rfl | rfl | rfl | rfl | rfl | rfl | rfl | rfl | rfl | rfl
    · exact ⟨_, PySem.W.mg_of X G a0⟩
    · exact ⟨_, PySem.W.mg_of X G a1⟩
    · exact ⟨_, PySem.W.mg_of X G a2⟩
    · exact ⟨_, PySem.W.mg_of X G a3⟩
    · exact ⟨_, PySem.W.mg_of X G a4⟩
    · exact ⟨_, PySem.W.mg_of X G a5⟩
    · exact ⟨_, PySem.W.mg_of X G a6⟩
    · exact ⟨_, PySem.W.mg_of X G a7⟩
    · exact ⟨_, PySem.W.mg_of X G a8⟩
    · exact ⟨_, PySem.W.mg_of X G a9⟩
    · exact ⟨_, PySem.W.mg_of X G a10⟩
    · exact ⟨_, PySem.W.mg_of X G a11⟩
    · exact ⟨_, PySem.W.mg_of X G a12⟩
    · exact ⟨_, PySem.W.mg_of X G a13⟩
    · exact ⟨_, PySem.W.mg_of X G a14⟩
    · exact ⟨_, PySem.W.mg_of X G a15⟩
    · exact ⟨_, PySem.W.mg_of X G a16⟩
    · exact ⟨_, PySem.W.mg_of X G a17⟩
    · exact ⟨_, PySem.W.mg_of X G a18⟩
    · exact ⟨_, PySem.W.mg_of X G a19⟩
    · exact ⟨_, PySem.W.mg_of X G a20⟩
  have w0 := dclw_mk (ps := ["saying"]) (C := C_is_plain) l0 c0 k0 sc_is_plain tr_is_plain (fun _ _ _ _ _ _ us hl => match us, hl with | [_], _ => rfl) hU hF ⟨rfl, rfl⟩ (by decide +kernel) (by decide +kernel)
  have w1 := dclw_mk (ps := ["saying"]) (C := C_sides_of) l1 c1 k1 sc_sides_of tr_sides_of (fun _ _ _ _ _ _ us hl => match us, hl with | [_], _ => rfl) hU hF ⟨rfl, rfl⟩ (by decide +kernel) (by decide +kernel)
  have w2 := dclw_mk (ps := ["room"]) (C := C_all_named) l2 c2 k2 sc_all_named tr_all_named (fun _ _ _ _ _ _ us hl => match us, hl with | [_], _ => rfl) hU hF ⟨rfl, rfl⟩ (by decide +kernel) (by decide +kernel)
  have w3 := dclw_mk (ps := ["room"]) (C := C_spots_in) l3 c3 k3 sc_spots_in tr_spots_in (fun _ _ _ _ _ _ us hl => match us, hl with | [_], _ => rfl) hU hF ⟨rfl, rfl⟩ (by decide +kernel) (by decide +kernel)
  have w4 := dclw_mk (ps := ["room", "spot"]) (C := C_room_at) l4 c4 k4 sc_room_at tr_room_at (fun _ _ _ _ _ _ us hl => match us, hl with | [_, _], _ => rfl) hU hF ⟨rfl, rfl⟩ (by decide +kernel) (by decide +kernel)
  have w5 := dclw_mk (ps := ["room"]) (C := C_figures_in) l5 c5 k5 sc_figures_in tr_figures_in (fun _ _ _ _ _ _ us hl => match us, hl with | [_], _ => rfl) hU hF ⟨rfl, rfl⟩ (by decide +kernel) (by decide +kernel)
  have w6 := dclw_mk (ps := ["_law_script", "_law_k"]) (C := C_law_deck) l6 c6 k6 sc_law_deck tr_law_deck (fun _ _ _ _ _ _ us hl => match us, hl with | [_, _], _ => rfl) hU hF ⟨rfl, rfl⟩ (by decide +kernel) (by decide +kernel)
  have w7 := dclw_mk (ps := ["_law_deck_here", "_law_ways"]) (C := C_law_draw) l7 c7 k7 sc_law_draw tr_law_draw (fun _ _ _ _ _ _ us hl => match us, hl with | [_, _], _ => rfl) hU hF ⟨rfl, rfl⟩ (by decide +kernel) (by decide +kernel)
  have w8 := dclw_mk (ps := []) (C := C_law_kept) l8 c8 k8 sc_law_kept tr_law_kept (fun _ _ _ _ _ _ us hl => match us, hl with | [], _ => rfl) hU hF ⟨rfl, rfl⟩ (by decide +kernel) (by decide +kernel)
  have w9 := dclw_mk (ps := ["_law_deck_here", "_law_many"]) (C := C_law_texts) l9 c9 k9 sc_law_texts tr_law_texts (fun _ _ _ _ _ _ us hl => match us, hl with | [_, _], _ => rfl) hU hF ⟨rfl, rfl⟩ (by decide +kernel) (by decide +kernel)
  have w10 := dclw_mk (ps := ["_law_deck_here"]) (C := C_law_words) l10 c10 k10 sc_law_words tr_law_words (fun _ _ _ _ _ _ us hl => match us, hl with | [_], _ => rfl) hU hF ⟨rfl, rfl⟩ (by decide +kernel) (by decide +kernel)
  have w11 := dclw_mk (ps := ["_law_deck_here"]) (C := C_law_figures) l11 c11 k11 sc_law_figures tr_law_figures (fun _ _ _ _ _ _ us hl => match us, hl with | [_], _ => rfl) hU hF ⟨rfl, rfl⟩ (by decide +kernel) (by decide +kernel)
  have w12 := dclw_mk (ps := ["_law_deck_here", "_law_some"]) (C := C_law_pick) l12 c12 k12 sc_law_pick tr_law_pick (fun _ _ _ _ _ _ us hl => match us, hl with | [_, _], _ => rfl) hU hF ⟨rfl, rfl⟩ (by decide +kernel) (by decide +kernel)
  have w13 := dclw_mk (ps := ["_law_deck_here", "_law_here", "_law_words_here"]) (C := C_law_plain) l13 c13 k13 sc_law_plain tr_law_plain (fun _ _ _ _ _ _ us hl => match us, hl with | [_, _, _], _ => rfl) hU hF ⟨rfl, rfl⟩ (by decide +kernel) (by decide +kernel)
  have w14 := dclw_mk (ps := ["_law_deck_here", "_law_deep", "_law_left", "_law_here", "_law_words_here", "_law_budget"]) (C := C_law_room) l14 c14 k14 sc_law_room tr_law_room (fun _ _ _ _ _ _ us hl => match us, hl with | [_, _, _, _, _, _], _ => rfl) hU hF ⟨rfl, rfl⟩ (by decide +kernel) (by decide +kernel)
  have w15 := dclw_mk (ps := ["_law_deck_here"]) (C := C_law_any_room) l15 c15 k15 sc_law_any_room tr_law_any_room (fun _ _ _ _ _ _ us hl => match us, hl with | [_], _ => rfl) hU hF ⟨rfl, rfl⟩ (by decide +kernel) (by decide +kernel)
  have w16 := dclw_mk (ps := ["_law_room_here"]) (C := C_law_spots) l16 c16 k16 sc_law_spots tr_law_spots (fun _ _ _ _ _ _ us hl => match us, hl with | [_], _ => rfl) hU hF ⟨rfl, rfl⟩ (by decide +kernel) (by decide +kernel)
  have w17 := dclw_mk (ps := ["_law_room_here"]) (C := C_law_named) l17 c17 k17 sc_law_named tr_law_named (fun _ _ _ _ _ _ us hl => match us, hl with | [_], _ => rfl) hU hF ⟨rfl, rfl⟩ (by decide +kernel) (by decide +kernel)
  have w18 := dclw_mk (ps := ["_law_room_here"]) (C := C_law_right) l18 c18 k18 sc_law_right tr_law_right (fun _ _ _ _ _ _ us hl => match us, hl with | [_], _ => rfl) hU hF ⟨rfl, rfl⟩ (by decide +kernel) (by decide +kernel)
  have w19 := dclw_mk (ps := ["_law_deck_here"]) (C := C_law_long_room) l19 c19 k19 sc_law_long_room tr_law_long_room (fun _ _ _ _ _ _ us hl => match us, hl with | [_], _ => rfl) hU hF ⟨rfl, rfl⟩ (by decide +kernel) (by decide +kernel)
  have w20 := dclw_mk (ps := ["_law_script"]) (C := C_law) l20 c20 k20 sc_law tr_law (fun _ _ _ _ _ _ us hl => match us, hl with | [_], _ => rfl) hU hF ⟨rfl, rfl⟩ (by decide +kernel) (by decide +kernel)
  intro P w fa hfa
  have e := hfa.symm.trans (PySem.W.mg_of X G a20)
  cases e
  have hgl : ∀ p ∈ gT, ∃ u v, mg p.1 = some u ∧ RelV v u ∧ ∀ B ρ H, RelD ⟨K, mg, B⟩ ρ H p.2 v := by
    intro p hp
    simp only [gT, List.mem_cons, List.not_mem_nil, or_false] at hp
    rcases hp with rfl
    · exact glb_mk X G g0 r0
  have hdc : ∀ p ∈ tX t0 tR, ∀ f, mg p.1 = some (.ref f) → Dcl K mg p.1 f p.2 := by
    intro p hp
    unfold tX at hp
    rcases List.mem_append.mp hp with hp | hp
    · simp only [t0, List.mem_cons, List.not_mem_nil, or_false] at hp
      rcases hp with rfl | rfl | rfl | rfl | rfl | rfl | rfl | rfl | rfl | rfl | rfl | rfl | rfl | rfl | rfl | rfl | rfl | rfl | rfl | rfl | rfl
      · exact dcl_of X G a0 w0
      · exact dcl_of X G a1 w1
      · exact dcl_of X G a2 w2
      · exact dcl_of X G a3 w3
      · exact dcl_of X G a4 w4
      · exact dcl_of X G a5 w5
      · exact dcl_of X G a6 w6
      · exact dcl_of X G a7 w7
      · exact dcl_of X G a8 w8
      · exact dcl_of X G a9 w9
      · exact dcl_of X G a10 w10
      · exact dcl_of X G a11 w11
      · exact dcl_of X G a12 w12
      · exact dcl_of X G a13 w13
      · exact dcl_of X G a14 w14
      · exact dcl_of X G a15 w15
      · exact dcl_of X G a16 w16
      · exact dcl_of X G a17 w17
      · exact dcl_of X G a18 w18
      · exact dcl_of X G a19 w19
      · exact dcl_of X G a20 w20
    · simp only [tR, List.map_cons, List.map_nil, List.mem_cons, List.not_mem_nil, or_false] at hp
  obtain ⟨fd, hb, hf⟩ := law_fn (P := P) (w := w) bangT inT (glbs_mk (gT := gT) (fun _ => rfl) hgl) (defs_mk (tT := tX t0 tR) (fun _ => rfl) hdc) 29 T_law w20 fun _ _ => .of_eq rfl
  refine ⟨fd, hb, fun base => hf base (xfacts_mk X G xa xb ?_)⟩
  intro c anc fs hm
  have hm : (c, anc, fs) ∈ xsL := hm
  simp only [xsL, List.mem_cons, List.not_mem_nil, or_false, Prod.mk.injEq] at hm
end K12
set_option Elab.async false
set_option linter.all false
set_option maxRecDepth 100000
set_option maxHeartbeats 0
open PySem PySem.W PyProof.Rows
local macro_rules
  | `(tactic| o_head ($h:ident $k $a $e)) => `(tactic| o_head (MI.sHook $k $a $e ()))
theorem PySem.Challenge.cw_talkrooms_k12_spots_and_rooms_there_holds : PySem.Challenge.rw_talkrooms_k12_spots_and_rooms_there.Holds := by
  w_on; o_law; k_head; (case hw => w_witness2)
  k_fill
  refine MI.walk_ofG (l := PySem.Challenge.rw_talkrooms_k12_spots_and_rooms_there) (n := 63) (k := 30) (x := "_law_script") (T := K12.T) (gl := K12.gl) rfl (by decide) rfl ⟨rfl, by decide, by decide⟩ (fun w h Y => MI.s_in_of Y) rfl K12.lawok ?F
  case F =>
    intro w mg fa h KX G hmg
    refine' K12.all_mk KX G ?zza0 ?zzl0 ?zzc0 ?zzk0 ?zza1 ?zzl1 ?zzc1 ?zzk1 ?zza2 ?zzl2 ?zzc2 ?zzk2 ?zza3 ?zzl3 ?zzc3 ?zzk3 ?zza4 ?zzl4 ?zzc4 ?zzk4 ?zza5 ?zzl5 ?zzc5 ?zzk5 ?zza6 ?zzl6 ?zzc6 ?zzk6 ?zza7 ?zzl7 ?zzc7 ?zzk7 ?zza8 ?zzl8 ?zzc8 ?zzk8 ?zza9 ?zzl9 ?zzc9 ?zzk9 ?zza10 ?zzl10 ?zzc10 ?zzk10 ?zza11 ?zzl11 ?zzc11 ?zzk11 ?zza12 ?zzl12 ?zzc12 ?zzk12 ?zza13 ?zzl13 ?zzc13 ?zzk13 ?zza14 ?zzl14 ?zzc14 ?zzk14 ?zza15 ?zzl15 ?zzc15 ?zzk15 ?zza16 ?zzl16 ?zzc16 ?zzk16 ?zza17 ?zzl17 ?zzc17 ?zzk17 ?zza18 ?zzl18 ?zzc18 ?zzk18 ?zza19 ?zzl19 ?zzc19 ?zzk19 ?zza20 ?zzl20 ?zzc20 ?zzk20 ?zzxa ?zzxb ?zzu0 ?zzu1 ?zzu2 ?zzu3 ?zzu4 ?zzu5 ?zzu6 ?zzu7 ?zzu8 ?zzu9 ?zzu10 ?zzg0 ?zzr0 hmg
    (case zza0 => k_is)
    (case zzl0 => k_is)
    (case zzc0 => k_is)
    (case zzk0 => k_is)
    (case zza1 => k_is)
    (case zzl1 => k_is)
    (case zzc1 => k_is)
    (case zzk1 => k_is)
    (case zza2 => k_is)
    (case zzl2 => k_is)
    (case zzc2 => k_is)
    (case zzk2 => k_is)
    (case zza3 => k_is)
    (case zzl3 => k_is)
    (case zzc3 => k_is)
    (case zzk3 => k_is)
    (case zza4 => k_is)
    (case zzl4 => k_is)
    (case zzc4 => k_is)
    (case zzk4 => k_is)
    (case zza5 => k_is)
    (case zzl5 => k_is)
    (case zzc5 => k_is)
    (case zzk5 => k_is)
    (case zza6 => k_is)
    (case zzl6 => k_is)
    (case zzc6 => k_is)
    (case zzk6 => k_is)
    (case zza7 => k_is)
    (case zzl7 => k_is)
    (case zzc7 => k_is)
    (case zzk7 => k_is)
    (case zza8 => k_is)
    (case zzl8 => k_is)
    (case zzc8 => k_is)
    (case zzk8 => k_is)
    (case zza9 => k_is)
    (case zzl9 => k_is)
    (case zzc9 => k_is)
    (case zzk9 => k_is)
    (case zza10 => k_is)
    (case zzl10 => k_is)
    (case zzc10 => k_is)
    (case zzk10 => k_is)
    (case zza11 => k_is)
    (case zzl11 => k_is)
    (case zzc11 => k_is)
    (case zzk11 => k_is)
    (case zza12 => k_is)
    (case zzl12 => k_is)
    (case zzc12 => k_is)
    (case zzk12 => k_is)
    (case zza13 => k_is)
    (case zzl13 => k_is)
    (case zzc13 => k_is)
    (case zzk13 => k_is)
    (case zza14 => k_is)
    (case zzl14 => k_is)
    (case zzc14 => k_is)
    (case zzk14 => k_is)
    (case zza15 => k_is)
    (case zzl15 => k_is)
    (case zzc15 => k_is)
    (case zzk15 => k_is)
    (case zza16 => k_is)
    (case zzl16 => k_is)
    (case zzc16 => k_is)
    (case zzk16 => k_is)
    (case zza17 => k_is)
    (case zzl17 => k_is)
    (case zzc17 => k_is)
    (case zzk17 => k_is)
    (case zza18 => k_is)
    (case zzl18 => k_is)
    (case zzc18 => k_is)
    (case zzk18 => k_is)
    (case zza19 => k_is)
    (case zzl19 => k_is)
    (case zzc19 => k_is)
    (case zzk19 => k_is)
    (case zza20 => k_is)
    (case zzl20 => k_is)
    (case zzc20 => k_is)
    (case zzk20 => k_is)
    (case zzxa => kernel_rfl)
    (case zzxb => kernel_rfl)
    (case zzu0 => k_is)
    (case zzu1 => k_is)
    (case zzu2 => k_is)
    (case zzu3 => k_is)
    (case zzu4 => k_is)
    (case zzu5 => k_is)
    (case zzu6 => k_is)
    (case zzu7 => k_is)
    (case zzu8 => k_is)
    (case zzu9 => k_is)
    (case zzu10 => k_is)
    (case zzg0 => k_is)
    (case zzr0 => kernel_rfl)
