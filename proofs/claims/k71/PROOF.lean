import PyProof.Rows.All
import Wide.All
import OpenK.AllK
import Wide.FinOn
import HandS.ForMost
import HandS.TupAny
import HandS.Deep
import HandS.DictTup
import HandS.Conv
import HandS.TupLen
import HandS.Zip
import HandS.Rev
import HandS.IsInst
import HandS.StrMore
import KE.KDictDisplayH
import HandS.HeadWalk
import HandS.ExcBuiltin
import KE.DatumOrd
import PyProof.Rows.StrPadWhole
import HandS.RevTup
import KE.SortKeyHeap
import HandS.SortKw
import KE.DataMinMax
import PyProof.Rows.StrCut
import PyProof.Rows.StrSplitCount
import KE.KDictSum
import HandS.Small
import HandS.SetKeys
import KE.KDictCopyH
import HandS.More
import HandS.Defaults
import HandS.WordsExc
import HandS.Words
import HandS.Head2
import HandS.HeadHook2
import HandS.EndBits
import HandS.Ends
import HandS.Head0
import HandS.Head1
import HandS.HeadEnd
import HandS.HeadHook1
import KE.IntTextLaws
import KE.KIntText
import KE.IntTextText
import PySem.Challenge.RW_codemend_k71_distance
set_option Elab.async false
section
set_option linter.all false
set_option maxHeartbeats 4000000
set_option maxHeartbeats 4000000
/-! A small language of plain data, and its interpreter. -/
namespace CM

inductive Cl where
  | Book | Desk | Change | Swap | Read | PutIn | LeaveOut | Anew | MendError | NoPlace | NoText | NoFit | NoName | Twice | NoDay | NoAct | NoRow
  deriving DecidableEq, Repr, Inhabited
inductive Fl where
  | tree | line | place | old | new | words | node | why | name | book
  deriving DecidableEq, Repr, Inhabited
/-- a key's atom, a key -/
inductive Kx where
  | i (n : Int) | s (x : List Char)
  deriving DecidableEq, Repr, Inhabited
inductive Ky where
  | k (a : Kx) | t (as : List Kx)
  deriving DecidableEq, Repr, Inhabited
/-- data; fl, fd: a list, a dict that nobody changes any more; sc: the script; ol, od: a list, a dict in one hand (a slot's, a result's); ref: a place of the store -/
inductive D where
  | non | bl (b : Bool) | int (i : Int) | str (s : List Char) | tup (xs : List D)
  | fl (xs : List D) | sc (xs : List D) | fd (t : Bool) (kvs : List (Ky × D)) | ref (n : Nat)
  | ol (xs : List D) | od (t : Bool) (kvs : List (Ky × D))
  deriving Repr, Inhabited
inductive Cell where
  | lst (xs : List D) | dct (t : Bool) (kvs : List (Ky × D)) | obj (c : Cl) (fs : List (Fl × D))
  deriving Repr, Inhabited
abbrev Sto := List Cell
/-- what comes of a run: a value; an error (its place in the store); top: this can't be met; bad: not carried -/
inductive R (α : Type) where
  | ok (a : α) (st : Sto) | err (x : Nat) (st : Sto) | bad | top
  deriving Repr, Inhabited
def R.bind {α β : Type} (r : R α) (f : α → Sto → R β) : R β := match r with
  | .ok a st => f a st
  | .err x st => .err x st
  | .bad => .bad
  | .top => .top
def ofO {α : Type} (st : Sto) : Option α → R α
  | some a => .ok a st
  | none => .bad

/-! ### the language -/
inductive Op where
  | add | sub | mul | fdiv | mod | pow | eq | ne | lt | le | gt | ge | isin | notin | idx
  deriving DecidableEq, Repr, Inhabited
/-- built-in functions by value -/
inductive Bi where
  | len | int | str | tuple | list | abs | min2 | max2 | ord | all | maxd | max1 | mind | sorted
  deriving DecidableEq, Repr, Inhabited
/-- methods of built-in types by value -/
inductive Bm where
  | join | split | lstrip | rstrip | rjust | get | index | startswith | partition
  deriving DecidableEq, Repr, Inhabited
inductive Ty where
  | str | tuple | list | bool | int | ve | cl (c : Cl)
  deriving DecidableEq, Repr, Inhabited
inductive Tg where
  | one (i : Nat) | many (is : List Nat)
  deriving DecidableEq, Repr, Inhabited
/-- what is walked -/
inductive Ik where
  | seq | keys | range | enum | zip | rev | items | vals
  deriving DecidableEq, Repr, Inhabited
inductive E where
  | var (i : Nat) | non | bl (b : Bool) | int (i : Int) | str (s : List Char) | glob (x : String) (s : List Char) | globi (x : String) (i : Int)
  | tup (es : List E) | lst (es : List E) | dct (t : Bool) | dct1 (t : Bool) (k v : E)
  | op (o : Op) (a b : E) | neg (a : E) | not (a : E) | and (es : List E) | or (es : List E) | ife (c a b : E)
  | isN (a : E) | notN (a : E) | fld (a : E) (f : Fl) | slice (a : E) (lo hi : Option E)
  | comp (elt : E) (tg : Tg) (k : Ik) (src : List E) (ifs : List E)
  | call (k : Nat) (args : List E) | mk (k : Nat) (args : List E) | meth (k : Nat) (o : E) (args : List E)
  | bi (b : Bi) (args : List E) | bm (b : Bm) (o : E) (args : List E) | isi (a : E) (t : List Ty)
  | sortk (k : Nat) (a : E) | sortl (i : Nat) (b a : E) | dictOf (a : E) | listRev (a : E)
  | box (e : E) | dget (o k x : E) | inRng (neg : Bool) (a lo hi : E)
  deriving Repr, Inhabited
inductive S where
  | asg (t : Tg) (e : E) | setF (o : E) (f : Fl) (e : E) | setI (o k e : E) | aug (i : Nat) (o : Op) (e : E)
  | expr (e : E) | append (o e : E) | extend (o e : E) | update (o e : E) | pop (o e : E) | setd (o k e : E) | clear (o : E) | insert0 (o e : E)
  | ret (e : E) | retN | iff (c : E) (a b : List S) | for (t : Tg) (k : Ik) (src : List E) (b : List S) | while (c : E) (b : List S)
  | cont | brk | pass | raise (c : Cl) (k : Option Nat) (args : List E)
  | tryE (b : List S) (cs : List Cl) (nm : Option Nat) (h : List S) (els : List S)
  | frz (i : Nat) | bxv (i : Nat)
  deriving Repr, Inhabited

/-! ### data are the same -/
mutual
def deq : D → D → Bool
  | .non, .non => true
  | .bl a, .bl b => a == b
  | .int i, .int j => i == j
  | .str x, .str y => x == y
  | .tup xs, .tup ys => deqs xs ys
  | .fl xs, .fl ys => deqs xs ys
  | .sc xs, .sc ys => deqs xs ys
  | .ol xs, .ol ys => deqs xs ys
  | .fd t k, .fd t' k' => (t == t') && deqk k k'
  | .od t k, .od t' k' => (t == t') && deqk k k'
  | .ref n, .ref m => n == m
  | _, _ => false
def deqs : List D → List D → Bool
  | [], [] => true
  | x :: xs, y :: ys => deq x y && deqs xs ys
  | _, _ => false
def deqk : List (Ky × D) → List (Ky × D) → Bool
  | [], [] => true
  | (k, x) :: xs, (j, y) :: ys => decide (k = j) && deq x y && deqk xs ys
  | _, _ => false
end

/-! ### values -/
def lsOf (st : Sto) : D → Option (List D)
  | .ol xs => some xs
  | .fl xs => some xs
  | .sc xs => some xs
  | .ref n => match st[n]? with
    | some (.lst xs) => some xs
    | _ => none
  | _ => none
/-- .. but not the script -/
def lsP (st : Sto) : D → Option (List D)
  | .sc _ => none
  | d => lsOf st d
def dcOf (st : Sto) : D → Option (Bool × List (Ky × D))
  | .od t k => some (t, k)
  | .fd t k => some (t, k)
  | .ref n => match st[n]? with
    | some (.dct t k) => some (t, k)
    | _ => none
  | _ => none
/-- .. that may be changed -/
def dcP (st : Sto) : D → Option (Bool × List (Ky × D))
  | .fd _ _ => none
  | d => dcOf st d
/-- a value handed on: what was in one hand is changed no more -/
def frz : D → D
  | .ol xs => .fl xs
  | .od t k => .fd t k
  | d => d
def kxOf : D → Option Kx
  | .int i => some (.i i)
  | .str s => some (.s s)
  | _ => none
def kxsOf : List D → Option (List Kx)
  | [] => some []
  | d :: r => match kxOf d, kxsOf r with
    | some a, some as => some (a :: as)
    | _, _ => none
def keyOf (t : Bool) : D → Option Ky
  | .tup xs => if t then (kxsOf xs).map .t else none
  | d => if t then none else (kxOf d).map .k
def kxD : Kx → D
  | .i n => .int n
  | .s x => .str x
def kyD : Ky → D
  | .k a => kxD a
  | .t as => .tup (as.map kxD)
def dGet (k : Ky) : List (Ky × D) → Option D
  | [] => none
  | (j, d) :: r => if j = k then some d else dGet k r
def dHas (k : Ky) (kvs : List (Ky × D)) : Bool := (dGet k kvs).isSome
def dPut (k : Ky) (v : D) (kvs : List (Ky × D)) : List (Ky × D) :=
  if (kvs.any fun p => decide (p.1 = k)) = true then kvs.map (fun p => if p.1 = k then (p.1, v) else p) else kvs ++ [(k, v)]
def dDrop (k : Ky) (kvs : List (Ky × D)) : List (Ky × D) := kvs.filter fun p => decide (p.1 ≠ k)

mutual
/-- plain data of depth n at most, without places of the store, without dicts -/
def okd (n : Nat) : D → Bool
  | .non => true
  | .bl _ => true
  | .int _ => true
  | .str _ => true
  | .tup xs => decide (0 < n) && okds (n - 1) xs
  | .fl xs => decide (0 < n) && okds (n - 1) xs
  | .sc xs => decide (0 < n) && okds (n - 1) xs
  | .ol xs => decide (0 < n) && okds (n - 1) xs
  | _ => false
def okds (n : Nat) : List D → Bool
  | [] => true
  | x :: r => okd n x && okds n r
end
mutual
/-- Python's == of such data -/
def peq : D → D → Bool
  | .non, .non => true
  | .bl a, .bl b => a == b
  | .bl a, .int j => (if a then 1 else 0) == j
  | .int i, .bl b => i == (if b then 1 else 0)
  | .int i, .int j => i == j
  | .str x, .str y => x == y
  | .tup xs, .tup ys => peqs xs ys
  | .fl xs, .fl ys => peqs xs ys
  | .fl xs, .sc ys => peqs xs ys
  | .fl xs, .ol ys => peqs xs ys
  | .sc xs, .fl ys => peqs xs ys
  | .sc xs, .sc ys => peqs xs ys
  | .sc xs, .ol ys => peqs xs ys
  | .ol xs, .fl ys => peqs xs ys
  | .ol xs, .sc ys => peqs xs ys
  | .ol xs, .ol ys => peqs xs ys
  | _, _ => false
def peqs : List D → List D → Bool
  | [], [] => true
  | x :: xs, y :: ys => peq x y && peqs xs ys
  | _, _ => false
end
/-- places of the store that hold lists are read -/
def drf (st : Sto) : Nat → D → D
  | 0, d => d
  | n + 1, .ref r => (match st[r]? with
    | some (.lst xs) => .fl (xs.map (drf st n))
    | _ => .ref r)
  | n + 1, .tup xs => .tup (xs.map (drf st n))
  | n + 1, .fl xs => .fl (xs.map (drf st n))
  | n + 1, .sc xs => .fl (xs.map (drf st n))
  | n + 1, .ol xs => .fl (xs.map (drf st n))
  | _ + 1, d => d
def eqS (st : Sto) (a b : D) : Option Bool :=
  if okd 60 a && okd 60 b then some (peq a b)
  else if okd 60 (drf st 60 a) && okd 60 (drf st 60 b) then some (peq (drf st 60 a) (drf st 60 b)) else none
def atI (xs : List D) (i : Int) : Option D := (L2.ixN xs.length i).bind fun j => xs[j]?
def cutL {α : Type} (xs : List α) (lo hi : Option Int) : List α := (xs.drop (HT.sIx xs.length 0 lo)).take (HT.sIx xs.length xs.length hi - HT.sIx xs.length 0 lo)
def toStr (s : List Char) : PySem.Str := ⟨(s.map Char.toNat).toArray⟩
def strInt (i : Int) : List Char := if i < 0 then '-' :: Nat.toDigits 10 i.natAbs else Nat.toDigits 10 i.natAbs
def intStr (s : List Char) : Option Int := if s.length ≤ 640 then PySem.intText? (toStr s) else none

/-- < of texts -/
def ltStr : List Char → List Char → Bool
  | [], [] => false
  | [], _ :: _ => true
  | _ :: _, [] => false
  | x :: xs, y :: ys => if x = y then ltStr xs ys else decide (x.toNat < y.toNat)
/-- < of tuples of numbers and texts; numbers, texts -/
def ltA : D → D → Option Bool
  | .int i, .int j => some (decide (i < j))
  | .str x, .str y => some (ltStr x y)
  | _, _ => none
def ltTup : List D → List D → Option Bool
  | [], [] => some false
  | [], _ :: _ => some true
  | _ :: _, [] => some false
  | x :: xs, y :: ys => match ltA x y with
    | some b => if peq x y then ltTup xs ys else some b
    | none => none
def isAtom : D → Bool
  | .int _ => true
  | .str _ => true
  | _ => false
def ltD : D → D → Option Bool
  | .tup xs, .tup ys => if xs.all isAtom && ys.all isAtom then ltTup xs ys else none
  | a, b => ltA a b

def addS (st : Sto) : D → D → Option D
  | .int i, .int j => some (.int (i + j))
  | .str x, .str y => if x.length + y.length ≤ 16777216 then some (.str (x ++ y)) else none
  | .tup xs, .tup ys => if xs.length + ys.length ≤ 16777216 then some (.tup (xs ++ ys)) else none
  | a, b => match lsP st a, lsP st b with
    | some xs, some ys => if xs.length + ys.length ≤ 16777216 then some (.ol (xs ++ ys)) else none
    | _, _ => none
def mulS (st : Sto) : D → D → Option D
  | .int i, .int j => if (-(2 ^ 64) < i ∧ i < 2 ^ 64) ∨ (-(2 ^ 64) < j ∧ j < 2 ^ 64) then some (.int (i * j)) else none
  | a, .int k => (match lsP st a with
    | some xs => if -(2 ^ 63) ≤ k ∧ k < 2 ^ 63 ∧ xs.length * k.toNat ≤ 16777216 then some (.ol (List.replicate k.toNat xs).flatten) else none
    | none => none)
  | _, _ => none
/-- two numbers -/
def intS (f : Int → Int → Option D) : D → D → Option D
  | .int i, .int j => f i j
  | _, _ => none
def inS (st : Sto) : D → D → Option Bool
  | .str [c], .str s => some (decide (c ∈ s))
  | a, .tup xs => if okd 0 a && okds 0 xs then some (xs.any fun x => peq x a) else none
  | a, b => match dcOf st b with
    | some (t, kvs) => (keyOf t a).map fun k => dHas k kvs
    | none => match lsOf st b with
      | some xs => if okd 59 a && okds 58 xs then some (xs.any fun x => peq x a)
        else if okd 59 (drf st 60 a) && okds 58 (xs.map (drf st 59)) then some ((xs.map (drf st 59)).any fun x => peq x (drf st 60 a)) else none
      | none => none
def idxS (st : Sto) : D → D → Option D
  | .str s, .int i => if s.length ≤ 16777216 then ((L2.ixN s.length i).bind fun j => s[j]?).map fun c => .str [c] else none
  | .tup xs, .int i => atI xs i
  | a, b => match dcOf st a with
    | some (t, kvs) => (keyOf t b).bind fun k => dGet k kvs
    | none => match lsOf st a, b with
      | some xs, .int i => atI xs i
      | _, _ => none
def opS (st : Sto) (o : Op) (a b : D) : Option D := match o with
  | .add => addS st a b
  | .sub => intS (fun i j => some (.int (i - j))) a b
  | .mul => mulS st a b
  | .fdiv => intS (fun i j => if 0 < j ∧ j < 1073741824 then some (.int (i / j)) else none) a b
  | .mod => intS (fun i j => if 0 < j then some (.int (i % j)) else none) a b
  | .pow => intS (fun i j => if 0 ≤ j ∧ j ≤ 1000000 ∧ i.natAbs < 2 ^ 64 then some (.int (i ^ j.toNat)) else none) a b
  | .eq => (eqS st a b).map .bl
  | .ne => (eqS st a b).map fun r => .bl (!r)
  | .lt => (ltD a b).map .bl
  | .gt => intS (fun i j => some (.bl (decide (j < i)))) a b
  | .le => intS (fun i j => some (.bl (decide (i ≤ j)))) a b
  | .ge => intS (fun i j => some (.bl (decide (j ≤ i)))) a b
  | .isin => (inS st a b).map .bl
  | .notin => (inS st a b).map fun r => .bl (!r)
  | .idx => idxS st a b

/-! ### classes -/
def Cl.base : Cl → Option Cl
  | .Swap => some .Change
  | .Read => some .Change
  | .PutIn => some .Change
  | .LeaveOut => some .Change
  | .Anew => some .Change
  | .NoPlace => some .MendError
  | .NoText => some .MendError
  | .NoFit => some .MendError
  | .NoName => some .MendError
  | .Twice => some .MendError
  | .NoDay => some .MendError
  | .NoAct => some .MendError
  | .NoRow => some .MendError
  | _ => none
def Cl.isSub (c d : Cl) : Bool := c == d || c.base == some d
def Cl.isErr (c : Cl) : Bool := c == .MendError || c.base == some .MendError
def isTy (st : Sto) : D → Ty → Option Bool
  | .non, _ => some false
  | .bl _, t => some (t == .bool || t == .int)
  | .int _, t => some (t == .int)
  | .str _, t => some (t == .str)
  | .tup _, t => some (t == .tuple)
  | .fl _, t => some (t == .list)
  | .sc _, t => some (t == .list)
  | .ol _, t => some (t == .list)
  | .fd t _, _ => if t then none else some false
  | .od _ _, _ => some false
  | .ref n, t => match st[n]? with
    | some (.lst _) => some (t == .list)
    | some (.dct _ _) => some false
    | some (.obj c _) => some (match t with
      | .cl d => c.isSub d
      | .ve => c.isErr
      | _ => false)
    | none => none
def isTys (st : Sto) (d : D) : List Ty → Option Bool
  | [] => some false
  | t :: r => match isTy st d t with
    | some true => some true
    | some false => isTys st d r
    | none => none

/-! ### built-in functions -/
def blsOf : List D → Option (List Bool)
  | [] => some []
  | .bl b :: r => (blsOf r).map (b :: ·)
  | _ => none
def intsOf : List D → Option (List Int)
  | [] => some []
  | .int i :: r => (intsOf r).map (i :: ·)
  | _ => none
def strsOf : List D → Option (List (List Char))
  | [] => some []
  | .str s :: r => (strsOf r).map (s :: ·)
  | _ => none
def maxL : List Int → Option Int
  | [] => none
  | x :: r => match maxL r with
    | none => some x
    | some m => some (if m > x then m else x)
def minL : List Int → Option Int
  | [] => none
  | x :: r => match minL r with
    | none => some x
    | some m => some (if m < x then m else x)
/-- a stable sort by keys -/
def ltB (a b : D) : Bool := ltD a b == some true
def insP (p : D × D) : List (D × D) → List (D × D)
  | [] => [p]
  | q :: r => if ltB q.1 p.1 then q :: insP p r else p :: q :: r
def sortP : List (D × D) → List (D × D)
  | [] => []
  | p :: r => insP p (sortP r)
def isStrD : D → Bool
  | .str _ => true
  | _ => false
/-- keys of one shape can be compared -/
def shp : D → Option (Bool × List Bool)
  | .int _ => some (false, [false])
  | .str _ => some (false, [true])
  | .tup (x :: r) => if (x :: r).all isAtom then some (true, (x :: r).map isStrD) else none
  | _ => none
def sameK : List D → Bool
  | [] => true
  | k :: r => (shp k).isSome && r.all fun x => shp x == shp k
def sortK (ps : List (D × D)) : Option (List (D × D)) := if sameK (ps.map (·.1)) then some (sortP ps) else none
def lenS (st : Sto) : D → Option D
  | .str s => if s.length ≤ 16777216 then some (.int s.length) else none
  | .tup xs => some (.int xs.length)
  | d => match lsOf st d with
    | some xs => some (.int xs.length)
    | none => (dcOf st d).map fun k => .int k.2.length
def intB : D → Option D
  | .int i => some (.int i)
  | .bl b => some (.int (if b then 1 else 0))
  | .str s => (intStr s).map .int
  | _ => none
def strB : D → Option D
  | .int i => if 0 ≤ i ∧ i.natAbs.log2 < 1920 then some (.str (strInt i)) else none
  | _ => none
def tupB (st : Sto) : D → Option D
  | .tup xs => some (.tup xs)
  | d => (lsOf st d).map .tup
def lstB (st : Sto) : D → Option D
  | .tup xs => some (.ol xs)
  | d => match lsOf st d with
    | some xs => some (.ol xs)
    | none => match dcOf st d with
      | some (true, k) => some (.ol (k.map fun p => kyD p.1))
      | _ => none
def biS (st : Sto) (b : Bi) (ds : List D) : Option D := match b, ds with
  | .len, [d] => lenS st d
  | .int, [d] => intB d
  | .str, [d] => strB d
  | .tuple, [d] => tupB st d
  | .list, [d] => lstB st d
  | .abs, [.int i] => some (.int (if i < 0 then -i else i))
  | .min2, [.int i, .int j] => some (.int (if j < i then j else i))
  | .max2, [.int i, .int j] => some (.int (if j > i then j else i))
  | .ord, [.str [c]] => some (.int c.toNat)
  | .all, [d] => ((lsOf st d).bind blsOf).map fun bs => .bl (bs.all id)
  | .max1, [d] => (((lsOf st d).bind intsOf).bind maxL).map .int
  | .maxd, [d, .int k] => ((lsOf st d).bind intsOf).map fun ns => .int ((maxL ns).getD k)
  | .mind, [d, .int k] => ((lsOf st d).bind intsOf).map fun ns => .int ((minL ns).getD k)
  | .sorted, [d] => ((lsOf st d).bind fun xs => sortK (xs.map fun x => (x, x))).map fun ps => .ol (ps.map (·.2))
  | _, _ => none
def joinC (sep : List Char) : List (List Char) → List Char
  | [] => []
  | [x] => x
  | x :: r => x ++ sep ++ joinC sep r
def splitC (c : Char) : List Char → List Char → List (List Char)
  | acc, [] => [acc]
  | acc, x :: r => if x = c then acc :: splitC c [] r else splitC c (acc ++ [x]) r
def partC (c : Char) : List Char → Option (List Char × List Char)
  | [] => none
  | x :: r => if x = c then some ([], r) else (partC c r).map fun p => (x :: p.1, p.2)
def bmS (st : Sto) : Bm → D → List D → Option D
  | .join, .str sep, [.tup xs] => (strsOf xs).bind fun ss => if (ss.map List.length).sum + sep.length * ss.length ≤ 16777216 then some (.str (joinC sep ss)) else none
  | .join, .str sep, [d] => ((lsOf st d).bind strsOf).bind fun ss => if (ss.map List.length).sum + sep.length * ss.length ≤ 16777216 then some (.str (joinC sep ss)) else none
  | .split, .str s, [.str [c]] => if s.length + 2 ≤ 16777216 ∧ c.toNat < 128 then some (.ol ((splitC c [] s).map .str)) else none
  | .lstrip, .str s, [.str cs] => if s.length ≤ 16777216 then some (.str (s.dropWhile fun c => decide (c ∈ cs))) else none
  | .rstrip, .str s, [.str cs] => if s.length ≤ 16777216 then some (.str (s.reverse.dropWhile fun c => decide (c ∈ cs)).reverse) else none
  | .rjust, .str s, [.int n, .str [c]] => if 0 ≤ n ∧ n ≤ 1000 then some (.str (List.replicate (n.toNat - s.length) c ++ s)) else none
  | .get, d, [k, x] => (dcOf st d).bind fun z => (keyOf z.1 k).map fun y => (dGet y z.2).getD x
  | .index, d, [x] => (lsOf st d).bind fun xs => if okd 0 x && okds 0 xs then (xs.findIdx? fun y => peq y x).map fun j => .int j else none
  | .startswith, .str s, [.str p] => some (.bl (decide (s.take p.length = p)))
  | .partition, .str s, [.str [c]] => if s.length ≤ 16777216 ∧ c.toNat < 128 then some (match partC c s with
    | some (a, b) => .tup [.str a, .str [c], .str b]
    | none => .tup [.str s, .str [], .str []]) else none
  | _, _, _ => none

/-- whose method it is -/
def bmT (st : Sto) (b : Bm) (d : D) : Bool := match b with
  | .get => (dcOf st d).isSome
  | .index => (lsOf st d).isSome
  | _ => match d with
    | .str _ => true
    | _ => false
/-! ### the run -/
abbrev Slots := List (Option D)
abbrev Fn := List D → Sto → R D
/-- what a def's body calls: functions (classes are called likewise), methods by the class -/
structure Calls where
  f : Nat → Fn := fun _ _ _ => .bad
  m : Nat → Cl → Option Fn := fun _ _ => none

def setS (ρ : Slots) (i : Nat) (d : D) : Slots := ρ.set i (some d)
/-- a target takes a value -/
def asgT : Tg → D → Slots → Option Slots
  | .one i, d, ρ => some (ρ.set i (some d))
  | .many is, .tup xs, ρ => if xs.length = is.length then some ((is.zip xs).foldl (fun ρ p => ρ.set p.1 (some p.2)) ρ) else none
  | _, _, _ => none
def rangeL (a : Int) : Nat → List D
  | 0 => []
  | n + 1 => .int a :: rangeL (a + 1) n
def rangeC (a c : Int) : Nat → List D
  | 0 => []
  | n + 1 => .int a :: rangeC (a + c) c n
def enumL : Nat → List D → List D
  | _, [] => []
  | k, x :: r => .tup [.int k, x] :: enumL (k + 1) r
def zipL : List D → List D → List D
  | x :: xs, y :: ys => .tup [x, y] :: zipL xs ys
  | _, _ => []
/-- the items of what is walked -/
def itemsOf (st : Sto) : Ik → List D → Option (List D)
  | .seq, [.tup xs] => some xs
  | .seq, [.str s] => if s.length ≤ 16777216 then some (s.map fun c => .str [c]) else none
  | .seq, [d] => lsOf st d
  | .keys, [.fd _ k] => some (k.map fun p => kyD p.1)
  | .items, [.fd false k] => some (k.map fun p => .tup [kyD p.1, p.2])
  | .vals, [.fd false k] => some (k.map (·.2))
  | .range, [.int n] => if -(2 ^ 62) ≤ n ∧ n < 2 ^ 24 then some (rangeL 0 n.toNat) else none
  | .range, [.int a, .int b] => if -(2 ^ 62) ≤ a ∧ a < 2 ^ 62 ∧ -(2 ^ 62) ≤ b ∧ b < 2 ^ 62 ∧ b - a < 2 ^ 24 then some (rangeL a (b - a).toNat) else none
  | .range, [.int a, .int b, .int c] => if -(2 ^ 24) ≤ a ∧ a < 2 ^ 24 ∧ -(2 ^ 24) ≤ b ∧ b < 2 ^ 24 ∧ 0 < c ∧ c < 2 ^ 20 ∧ b - a < 2 ^ 24 then some (rangeC a c ((b - a + c - 1) / c).toNat) else none
  | .enum, [d] => (lsOf st d).map (enumL 0)
  | .zip, [.tup xs, .tup ys] => some (zipL xs ys)
  | .zip, [a, b] => (match lsOf st a, lsOf st b with
    | some xs, some ys => some (zipL xs ys)
    | _, _ => none)
  | .rev, [d] => (lsOf st d).map List.reverse
  | _, _ => none
/-- the places of the store that are walked stand still -/
def still (st st' : Sto) : List D → Bool
  | [] => true
  | .ref n :: r => (match st[n]?, st'[n]? with
    | some (.lst xs), some (.lst ys) => deqs xs ys
    | some (.dct t k), some (.dct t' k') => (t == t') && deqk k k'
    | _, _ => false) && still st st' r
  | _ :: r => still st st' r

def compGo (g : D → Sto → R (Option D)) : List D → Sto → R (List D)
  | [], st => .ok [] st
  | x :: r, st => (g x st).bind fun o st1 => (compGo g r st1).bind fun ds st2 => match o with
    | some d => .ok (d :: ds) st2
    | none => .ok ds st2
def keysGo (g : D → Sto → R D) : List D → Sto → R (List (D × D))
  | [], st => .ok [] st
  | x :: r, st => (g x st).bind fun k st1 => (keysGo g r st1).bind fun ds st2 => .ok ((k, x) :: ds) st2
def pairsOf : List D → Option (List (D × D))
  | [] => some []
  | .tup [a, b] :: r => (pairsOf r).map ((a, b) :: ·)
  | _ => none
def dictOfP (t : Bool) : List (D × D) → Option (List (Ky × D))
  | ps => ps.foldlM (fun acc p => (keyOf t p.1).map fun k => dPut k p.2 acc) []

/-- a def: how many slots, which callees; its body -/
inductive Fw where
  | next (ρ : Slots) | brk (ρ : Slots) | cont (ρ : Slots) | ret (d : D)
  deriving Repr, Inhabited

def getS (ρ : Slots) (i : Nat) : Option D := match ρ[i]? with
  | some (some d) => some d
  | _ => none
/-- a value that may be handed on: not one that a slot has in hand -/
def free : D → Bool
  | .ol _ => false
  | .od _ _ => false
  | _ => true
def isBl : D → Option Bool
  | .bl b => some b
  | _ => none
def fldOf (st : Sto) (f : Fl) : D → Option D
  | .ref n => match st[n]? with
    | some (.obj _ fs) => fs.lookup f
    | _ => none
  | _ => none
def clsOf (st : Sto) : D → Option Cl
  | .ref n => match st[n]? with
    | some (.obj c _) => some c
    | _ => none
  | _ => none
/-- what is sorted: a list, a dict's keys -/
def srcK (st : Sto) (x : D) : Option (List D) := match lsOf st x with
  | some xs => some xs
  | none => match dcOf st x with
    | some (false, ks) => some (ks.map fun p => kyD p.1)
    | _ => none
/-- forget slots -/
def wipeS (ρ : Slots) : List Nat → Slots
  | [] => ρ
  | i :: r => (wipeS ρ r).set i none
def Tg.slots : Tg → List Nat
  | .one i => [i]
  | .many is => is
def box (d : D) (st : Sto) : R D := match d with
  | .ol xs => .ok (.ref st.length) (st ++ [.lst xs])
  | .od t k => .ok (.ref st.length) (st ++ [.dct t k])
  | _ => .bad
def sliceS (st : Sto) (d : D) (lo hi : Option Int) : Option D := match d with
  | .str s => if s.length ≤ 16777216 then some (.str (cutL s lo hi)) else none
  | .tup xs => some (.tup (cutL xs lo hi))
  | d => (lsOf st d).map fun xs => .ol (cutL xs lo hi)
def optI : Option D → Option (Option Int)
  | none => some none
  | some (.int i) => some (some i)
  | _ => none

def isNon : D → Bool
  | .non => true
  | _ => false
/-- borrowed: what a slot has in hand may be looked at -/
def bor (ρ : Slots) (e : E) (f : Sto → R D) (st : Sto) : R D := match e with
  | .var i => ofO st (getS ρ i)
  | _ => f st
mutual
def ev (C : Calls) (ρ : Slots) : E → Sto → R D
  | .var i, st => ofO st ((getS ρ i).filter free)
  | .non, st => .ok .non st
  | .bl b, st => .ok (.bl b) st
  | .int i, st => .ok (.int i) st
  | .str s, st => .ok (.str s) st
  | .glob _ s, st => .ok (.str s) st
  | .globi _ i, st => .ok (.int i) st
  | .tup es, st => (evs C ρ es st).bind fun ds st => .ok (.tup ds) st
  | .lst es, st => (evs C ρ es st).bind fun ds st => .ok (.ol ds) st
  | .dct t, st => .ok (.od t []) st
  | .dct1 t k v, st => (ev C ρ k st).bind fun a st => (ev C ρ v st).bind fun b st => match keyOf t a with
    | some y => .ok (.od t [(y, frz b)]) st
    | none => .bad
  | .op o a b, st => (bor ρ a (ev C ρ a) st).bind fun x st => (bor ρ b (ev C ρ b) st).bind fun y st => ofO st (opS st o x y)
  | .neg a, st => (ev C ρ a st).bind fun x st => match x with
    | .int i => .ok (.int (-i)) st
    | _ => .bad
  | .not a, st => (ev C ρ a st).bind fun x st => match x with
    | .bl b => .ok (.bl (!b)) st
    | _ => .bad
  | .and es, st => evAnd C ρ es st
  | .or es, st => evOr C ρ es st
  | .ife c a b, st => (ev C ρ c st).bind fun x st => match x with
    | .bl true => ev C ρ a st
    | .bl false => ev C ρ b st
    | _ => .bad
  | .isN a, st => (bor ρ a (ev C ρ a) st).bind fun x st => .ok (.bl (isNon x)) st
  | .notN a, st => (bor ρ a (ev C ρ a) st).bind fun x st => .ok (.bl (!isNon x)) st
  | .fld a f, st => (ev C ρ a st).bind fun x st => ofO st (fldOf st f x)
  | .slice a lo hi, st => (bor ρ a (ev C ρ a) st).bind fun x st => (evO C ρ lo st).bind fun l st => (evO C ρ hi st).bind fun h st => ofO st (sliceS st x l h)
  | .comp elt tg k src ifs, st => (evBs C ρ src st).bind fun ds st0 => match itemsOf st0 k ds with
    | some items => if 16777216 < items.length then .top else (compGo (fun x st => match asgT tg x (wipeS ρ tg.slots) with
      | some ρ1 => (evTs C ρ1 ifs st).bind fun b st => if b then (ev C ρ1 elt st).bind fun d st1 => if still st0 st1 ds then .ok (some (frz d)) st1 else .bad else if still st0 st ds then .ok none st else .bad
      | none => .bad) items st0).bind fun xs st => .ok (.ol xs) st
    | none => .bad
  | .call k es, st => (evs C ρ es st).bind fun ds st => C.f k ds st
  | .mk k es, st => (evs C ρ es st).bind fun ds st => C.f k ds st
  | .meth k o es, st => (ev C ρ o st).bind fun x st => match (clsOf st x).bind (C.m k) with
    | some F => (evs C ρ es st).bind fun ds st => F (x :: ds) st
    | none => .bad
  | .bi b es, st => (evBs C ρ es st).bind fun ds st => ofO st (biS st b ds)
  | .bm b o es, st => (bor ρ o (ev C ρ o) st).bind fun x st => if bmT st b x then (evBs C ρ es st).bind fun ds st => ofO st (bmS st b x ds) else .bad
  | .isi a ts, st => (bor ρ a (ev C ρ a) st).bind fun x st => ofO st ((isTys st x ts).map .bl)
  | .sortk k a, st => (bor ρ a (ev C ρ a) st).bind fun x st0 => match srcK st0 x with
    | some xs => (keysGo (fun d st => C.f k [d] st) xs st0).bind fun ps st => ofO st ((sortK ps).map fun qs => .ol (qs.map (·.2)))
    | none => .bad
  | .sortl i b a, st => (bor ρ a (ev C ρ a) st).bind fun x st0 => match lsOf st0 x with
    | some xs => (keysGo (fun d st => ev C ((wipeS ρ (List.range ρ.length)).set i (some d)) b st) xs st0).bind fun ps st => ofO st ((sortK ps).map fun qs => .ol (qs.map (·.2)))
    | none => .bad
  | .dictOf a, st => (bor ρ a (ev C ρ a) st).bind fun x st => ofO st (((lsOf st x).bind pairsOf).bind fun ps => (dictOfP true ps).map (.od true))
  | .listRev a, st => (bor ρ a (ev C ρ a) st).bind fun x st => ofO st ((lsOf st x).map fun xs => .ol xs.reverse)
  | .box e, st => (ev C ρ e st).bind fun d st => box d st
  | .dget o k x, st => (bor ρ o (ev C ρ o) st).bind fun d st => if (dcOf st d).isSome then (ev C ρ k st).bind fun a st => (ev C ρ x st).bind fun b st => match dcOf st d with
    | some (t, kvs) => (match keyOf t a with
      | some y => .ok ((dGet y kvs).getD (frz b)) st
      | none => .bad)
    | none => .bad else .bad
  | .inRng g a lo hi, st => (ev C ρ a st).bind fun x st => (ev C ρ lo st).bind fun l st => (ev C ρ hi st).bind fun h st => match x, l, h with
    | .int i, .int l, .int h => .ok (.bl (decide (l ≤ i ∧ i < h) != g)) st
    | _, _, _ => .bad
termination_by structural e => e
def evs (C : Calls) (ρ : Slots) : List E → Sto → R (List D)
  | [], st => .ok [] st
  | e :: r, st => (ev C ρ e st).bind fun d st => (evs C ρ r st).bind fun ds st => .ok (frz d :: ds) st
termination_by structural e => e
def evBs (C : Calls) (ρ : Slots) : List E → Sto → R (List D)
  | [], st => .ok [] st
  | e :: r, st => (bor ρ e (ev C ρ e) st).bind fun d st => (evBs C ρ r st).bind fun ds st => .ok (d :: ds) st
termination_by structural e => e
def evO (C : Calls) (ρ : Slots) : Option E → Sto → R (Option Int)
  | none, st => .ok none st
  | some e, st => (ev C ρ e st).bind fun d st => match d with
    | .int i => .ok (some i) st
    | _ => .bad
termination_by structural e => e
def evTs (C : Calls) (ρ : Slots) : List E → Sto → R Bool
  | [], st => .ok true st
  | e :: r, st => (ev C ρ e st).bind fun d st => match d with
    | .bl true => evTs C ρ r st
    | .bl false => .ok false st
    | _ => .bad
termination_by structural e => e
def evAnd (C : Calls) (ρ : Slots) : List E → Sto → R D
  | [], st => .ok (.bl true) st
  | e :: r, st => (ev C ρ e st).bind fun d st => match d with
    | .bl true => evAnd C ρ r st
    | .bl false => .ok (.bl false) st
    | _ => .bad
termination_by structural e => e
def evOr (C : Calls) (ρ : Slots) : List E → Sto → R D
  | [], st => .ok (.bl false) st
  | e :: r, st => (ev C ρ e st).bind fun d st => match d with
    | .bl true => .ok (.bl true) st
    | .bl false => evOr C ρ r st
    | _ => .bad
termination_by structural e => e
end
abbrev evB (C : Calls) (ρ : Slots) (e : E) (st : Sto) : R D := bor ρ e (ev C ρ e) st

/-! ### statements -/
def forGo (tg : Tg) (body : Slots → Sto → R Fw) (ok : Sto → Bool) : List D → Slots → Sto → R Fw
  | [], ρ, st => .ok (.next ρ) st
  | x :: r, ρ, st => match asgT tg x ρ with
    | some ρ1 => (body ρ1 st).bind fun fw st1 => match fw with
      | .next ρ2 => if ok st1 then forGo tg body ok r ρ2 st1 else .bad
      | .cont ρ2 => if ok st1 then forGo tg body ok r ρ2 st1 else .bad
      | .brk ρ2 => .ok (.next ρ2) st1
      | .ret d => .ok (.ret d) st1
    | none => .bad
def whileGo (c : Slots → Sto → R D) (body : Slots → Sto → R Fw) : Nat → Slots → Sto → R Fw
  | 0, _, _ => .bad
  | n + 1, ρ, st => (c ρ st).bind fun d st => match d with
    | .bl true => (body ρ st).bind fun fw st1 => match fw with
      | .next ρ2 => whileGo c body n ρ2 st1
      | .cont ρ2 => whileGo c body n ρ2 st1
      | .brk ρ2 => .ok (.next ρ2) st1
      | .ret d => .ok (.ret d) st1
    | .bl false => .ok (.next ρ) st
    | _ => .bad
/-- the list that o stands for is changed -/
def updL (o : E) (x : D) (ρ : Slots) (st : Sto) (g : List D → Option (List D)) : R Slots := match x with
  | .ref n => (match st[n]? with
    | some (.lst xs) => (match g xs with
      | some ys => .ok ρ (st.set n (.lst ys))
      | none => .bad)
    | _ => .bad)
  | .ol xs => (match o with
    | .var i => (match g xs with
      | some ys => .ok (ρ.set i (some (.ol ys))) st
      | none => .bad)
    | _ => .bad)
  | _ => .bad
def updD (o : E) (x : D) (ρ : Slots) (st : Sto) (g : Bool → List (Ky × D) → Option (List (Ky × D))) : R Slots := match x with
  | .ref n => (match st[n]? with
    | some (.dct t xs) => (match g t xs with
      | some ys => .ok ρ (st.set n (.dct t ys))
      | none => .bad)
    | _ => .bad)
  | .od t xs => (match o with
    | .var i => (match g t xs with
      | some ys => .ok (ρ.set i (some (.od t ys))) st
      | none => .bad)
    | _ => .bad)
  | _ => .bad
def putFl (f : Fl) (v : D) : List (Fl × D) → List (Fl × D)
  | [] => [(f, v)]
  | (g, d) :: r => if g = f then (g, v) :: r else (g, d) :: putFl f v r
def setFld (st : Sto) (x : D) (f : Fl) (v : D) : Option Sto := match x with
  | .ref n => (match st[n]? with
    | some (.obj c fs) => if fs.length < 100 then some (st.set n (.obj c (putFl f v fs))) else none
    | _ => none)
  | _ => none
def setIdx (o : E) (x k v : D) (ρ : Slots) (st : Sto) : R Slots := match k, lsOf st x with
  | .int i, some _ => updL o x ρ st fun xs => (L2.ixN xs.length i).map fun j => xs.set j v
  | k, _ => updD o x ρ st fun t kvs => (keyOf t k).bind fun y => if kvs.length < 16777216 then some (dPut y v kvs) else none

def isI : D → Bool
  | .int _ => true
  | _ => false
/-- a method that changes its list, its dict -/
def mutL (C : Calls) (ρ : Slots) (o : E) (es : List E) (st : Sto) (g : List D → List D → Option (List D)) : R Fw :=
  (evB C ρ o st).bind fun x st => if (lsP st x).isSome then (evs C ρ es st).bind fun ds st => (updL o x ρ st (g ds)).bind fun ρ st => .ok (.next ρ) st else .bad
def mutD (C : Calls) (ρ : Slots) (o : E) (es : List E) (st : Sto) (g : List D → Bool → List (Ky × D) → Option (List (Ky × D))) : R Fw :=
  (evB C ρ o st).bind fun x st => if (dcP st x).isSome then (evs C ρ es st).bind fun ds st => (updD o x ρ st (g ds)).bind fun ρ st => .ok (.next ρ) st else .bad
/-- how many turns a while may take -/
def turns : Nat := 100000
mutual
def evS (C : Calls) : S → Slots → Sto → R Fw
  | .asg t e, ρ, st => (ev C ρ e st).bind fun d st => ofO st ((asgT t d ρ).map .next)
  | .setF o f e, ρ, st => (ev C ρ e st).bind fun d st => (ev C ρ o st).bind fun x st => match setFld st x f (frz d) with
    | some st => .ok (.next ρ) st
    | none => .bad
  | .setI o k e, ρ, st => (ev C ρ e st).bind fun d st => (evB C ρ o st).bind fun x st => (ev C ρ k st).bind fun y st => (setIdx o x y (frz d) ρ st).bind fun ρ st => .ok (.next ρ) st
  | .aug i o e, ρ, st => match getS ρ i with
    | some x => if isI x then (ev C ρ e st).bind fun y st => if isI y then ofO st ((opS st o x y).map fun z => .next (ρ.set i (some z))) else .bad else .bad
    | none => .bad
  | .expr e, ρ, st => (ev C ρ e st).bind fun _ st => .ok (.next ρ) st
  | .append o e, ρ, st => mutL C ρ o [e] st fun ds xs => match ds with
    | [d] => if xs.length < 16777216 then some (xs ++ [d]) else none
    | _ => none
  | .extend o e, ρ, st => (evB C ρ o st).bind fun x st => if (lsP st x).isSome then (evB C ρ e st).bind fun d st => match lsP st d with
    | some ys => (updL o x ρ st fun xs => if xs.length + ys.length ≤ 16777216 then some (xs ++ ys) else none).bind fun ρ st => .ok (.next ρ) st
    | none => .bad else .bad
  | .update o e, ρ, st => (evB C ρ o st).bind fun x st => match x with
    | .od _ _ => (ev C ρ e st).bind fun d st => (match frz d with
      | .fd t' more => (updD o x ρ st fun t kvs => if t = true ∧ t' = true ∧ kvs.isEmpty = false ∧ kvs.length + more.length ≤ 16777216 then some (more.foldl (fun acc p => dPut p.1 p.2 acc) kvs) else none).bind fun ρ st => .ok (.next ρ) st
      | _ => .bad)
    | _ => .bad
  | .pop o e, ρ, st => mutD C ρ o [e] st fun ds t kvs => match ds with
    | [d] => (keyOf t d).bind fun y => if dHas y kvs = true ∧ t = true then some (dDrop y kvs) else none
    | _ => none
  | .setd o k e, ρ, st => mutD C ρ o [k, e] st fun ds t kvs => match ds with
    | [d, v] => (keyOf t d).bind fun y => if kvs.length < 16777216 ∧ t = false then some (if dHas y kvs then kvs else dPut y v kvs) else none
    | _ => none
  | .clear o, ρ, st => mutL C ρ o [] st fun _ _ => some []
  | .insert0 o e, ρ, st => mutL C ρ o [.int 0, e] st fun ds xs => match ds with
    | [.int 0, d] => if xs.length < 16777216 then some (d :: xs) else none
    | _ => none
  | .ret e, ρ, st => (evB C ρ e st).bind fun d st => .ok (.ret d) st
  | .retN, _, st => .ok (.ret .non) st
  | .iff c a b, ρ, st => (ev C ρ c st).bind fun d st => match d with
    | .bl true => evSs C a ρ st
    | .bl false => evSs C b ρ st
    | _ => .bad
  | .for t k src b, ρ, st => (evs C ρ src st).bind fun ds st0 => match itemsOf st0 k ds with
    | some items => if 16777216 < items.length then .top else forGo t (fun ρ st => evSs C b ρ st) (fun st => still st0 st ds) items ρ st0
    | none => .bad
  | .while c b, ρ, st => whileGo (fun ρ st => ev C ρ c st) (fun ρ st => evSs C b ρ st) turns ρ st
  | .cont, ρ, st => .ok (.cont ρ) st
  | .brk, ρ, st => .ok (.brk ρ) st
  | .pass, ρ, st => .ok (.next ρ) st
  | .raise _ _ _, _, _ => .bad
  | .tryE b _ _ _ els, ρ, st => match evSs C b ρ st with
    | .ok (.next ρ) st => evSs C els ρ st
    | .ok fw st => .ok fw st
    | .top => .top
    | _ => .bad
  | .frz i, ρ, st => match getS ρ i with
    | some d => .ok (.next (ρ.set i (some (frz d)))) st
    | none => .ok (.next ρ) st
  | .bxv i, ρ, st => match getS ρ i with
    | some d => (box d st).bind fun d st => .ok (.next (ρ.set i (some d))) st
    | none => .bad
termination_by structural s => s
def evSs (C : Calls) : List S → Slots → Sto → R Fw
  | [], ρ, st => .ok (.next ρ) st
  | s :: r, ρ, st => (evS C s ρ st).bind fun fw st => match fw with
    | .next ρ => evSs C r ρ st
    | fw => .ok fw st
termination_by structural s => s
end
/-- a def runs -/
def runFn (C : Calls) (np n : Nat) (body : List S) (args : List D) (st : Sto) : R D := if args.length = np then (match evSs C body (args.map some ++ List.replicate (n - args.length) none) st with
  | .ok (.ret d) st => .ok d st
  | .ok (.next _) st => .ok .non st
  | .err x st => .err x st
  | .top => .top
  | _ => .bad) else .bad
/-! ### programs -/
/-- what a name that is called means: a def, and values for parameters left out; a class, and its __init__ -/
inductive Callee where
  | fn (q : Nat) (dd : List D)
  | kw (q : Nat) (perm : List (Option Nat))
  | mk (c : Cl) (q : Nat)
  deriving Repr, Inhabited
structure Def where
  np : Nat
  n : Nat
  body : List S
  fs : List Callee := []
  ms : List (List (Cl × Nat)) := []
  deriving Repr, Inhabited
def permD (perm : List (Option Nat)) (ds : List D) : List D := perm.map fun o => match o with
  | some i => ds.getD i .non
  | none => .non
def callF (run : Nat → Fn) : Option Callee → Fn
  | some (.fn q dd) => fun ds st => run q (ds ++ dd) st
  | some (.kw q perm) => fun ds st => run q (permD perm ds) st
  | some (.mk c q) => fun ds st => (run q (.ref st.length :: ds) (st ++ [.obj c []])).bind fun r st2 => if isNon r then .ok (.ref st.length) st2 else .bad
  | none => fun _ _ => .bad
def callsOf (run : Nat → Fn) (d : Def) : Calls where
  f := fun k => callF run d.fs[k]?
  m := fun k c => (d.ms[k]?.bind fun l => l.lookup c).map run
/-- a program's defs, so deep at most -/
def runP (ds : List Def) : Nat → Nat → Fn
  | 0, _ => fun _ _ => .bad
  | n + 1, q => match ds[q]? with
    | some d => runFn (callsOf (runP ds n) d) d.np d.n d.body
    | none => fun _ _ => .bad
example : ev {} [] (.op .add (.int 3) (.int 4)) [] = .ok (.int 7) [] := rfl
end CM
end
section
set_option linter.all false
set_option maxRecDepth 100000
set_option maxHeartbeats 4000000
set_option maxHeartbeats 4000000
/-! The interpreter's data in the abstract heap. -/
namespace CM
open PySem PySem.Spec PyProof.Rows L2

/-- a class's address -/
abbrev ClA := Cl → Option Addr
def kxK : Kx → Key
  | .i n => .inl n
  | .s x => .inr (toStr x)
/-- the script's list: locked, or an object of the module -/
def ScL (K : PySem.W.Frag) (H : Hp) (a : Addr) (xs : List V) : Prop := (∃ o, H a = some (.frz o (.lst xs))) ∨
  ∃ (o : Obj) (its : Array Value) (n : Nat), K.lookup a = some o ∧ o.cls = .type "list" ∧ o.dict = none ∧ o.data = .seq its n ∧ its.size ≤ sizeLine ∧ Vals xs its.toList
theorem ScL.seq {K : PySem.W.Frag} {H : Hp} {a : Addr} {xs : List V} (h : ScL K H a xs) : SqL K H a xs := by
  rcases h with ⟨o, h⟩ | h
  · exact .inl (.inr ⟨o, h⟩)
  · exact .inr h
def Fl.s : Fl → Str
  | .tree => "tree" | .line => "line" | .place => "place" | .old => "old" | .new => "new" | .words => "words" | .node => "node" | .why => "why" | .name => "name" | .book => "book"

section
variable (K : PySem.W.Frag) (as : List Addr) (ow : Addr → Prop) (H : Hp)
mutual
inductive RepV : V → D → Prop
  | non : RepV .non .non
  | bl (b : Bool) : RepV (.bl b) (.bl b)
  | int (i : Int) : RepV (.int i) (.int i)
  | str (s : List Char) : RepV (.str (toStr s)) (.str s)
  | tup {p : Addr} {vs : List V} {ds : List D} : H p = some (.tup vs) → RepVs vs ds → RepV (.ref p) (.tup ds)
  | fl {p : Addr} {vs : List V} {ds : List D} : H p = some (.lst vs) → p ∉ as → ¬ ow p → RepVs vs ds → RepV (.ref p) (.fl ds)
  | sc {p : Addr} {vs : List V} {ds : List D} : ScL K H p vs → RepVs vs ds → RepV (.ref p) (.sc ds)
  | fdk {p : Addr} {kvs : List (Key × V)} {ks : List (Ky × D)} : Rd H p (.dK kvs) → p ∉ as → ¬ ow p → RepK kvs ks → RepV (.ref p) (.fd false ks)
  | fdt {p : Addr} {kvs : List (List Key × V)} {ks : List (Ky × D)} : Rd H p (.dT kvs) → p ∉ as → ¬ ow p → RepT kvs ks → RepV (.ref p) (.fd true ks)
  | ref {n : Nat} {a : Addr} : as[n]? = some a → RepV (.ref a) (.ref n)
inductive RepVs : List V → List D → Prop
  | nil : RepVs [] []
  | cons {v : V} {vs : List V} {d : D} {ds : List D} : RepV v d → RepVs vs ds → RepVs (v :: vs) (d :: ds)
inductive RepK : List (Key × V) → List (Ky × D) → Prop
  | nil : RepK [] []
  | cons {a : Kx} {v : V} {d : D} {r : List (Key × V)} {s : List (Ky × D)} : RepV v d → RepK r s → RepK ((kxK a, v) :: r) ((.k a, d) :: s)
inductive RepT : List (List Key × V) → List (Ky × D) → Prop
  | nil : RepT [] []
  | cons {a : List Kx} {v : V} {d : D} {r : List (List Key × V)} {s : List (Ky × D)} : RepV v d → RepT r s → RepT ((a.map kxK, v) :: r) ((.t a, d) :: s)
end
inductive RepF : List (Str × V) → List (Fl × D) → Prop
  | nil : RepF [] []
  | cons {f : Fl} {v : V} {d : D} {r : List (Str × V)} {s : List (Fl × D)} : RepV K as ow H v d → RepF r s → RepF ((f.s, v) :: r) ((f, d) :: s)
/-- .. in one hand too -/
def RepX (v : V) : D → Prop
  | .ol ds => ∃ p vs, v = .ref p ∧ ow p ∧ H p = some (.lst vs) ∧ RepVs K as ow H vs ds
  | .od false ks => ∃ p kvs, v = .ref p ∧ ow p ∧ H p = some (.dK kvs) ∧ RepK K as ow H kvs ks
  | .od true ks => ∃ p kvs, v = .ref p ∧ ow p ∧ H p = some (.dT kvs) ∧ RepT K as ow H kvs ks
  | d => RepV K as ow H v d
end
/-- what stands in the store may be written -/
def isMut : HO → Bool
  | .lst _ => true
  | .dK _ => true
  | .dT _ => true
  | .ins _ _ _ => true
  | _ => false
section
variable (K : PySem.W.Frag) (cA : ClA)
def RepC (as : List Addr) (ow : Addr → Prop) (H : Hp) (a : Addr) : Cell → Prop
  | .lst ds => ∃ vs, H a = some (.lst vs) ∧ RepVs K as ow H vs ds
  | .dct false ks => ∃ kvs, H a = some (.dK kvs) ∧ RepK K as ow H kvs ks
  | .dct true ks => ∃ kvs, H a = some (.dT kvs) ∧ RepT K as ow H kvs ks
  | .obj c fs => ∃ C dx gs, cA c = some C ∧ H a = some (.ins C dx gs) ∧ RepF K as ow H gs fs
structure Rel (as : List Addr) (ow : Addr → Prop) (H : Hp) (st : Sto) : Prop where
  len : as.length = st.length
  nd : as.Nodup
  dis : ∀ a, ow a → a ∉ as
  mta : ∀ a ∈ as, ∃ o, H a = some o ∧ isMut o = true
  mto : ∀ a, ow a → ∃ o, H a = some o ∧ isMut o = true
  cell : ∀ (n : Nat) (c : Cell) (a : Addr), st[n]? = some c → as[n]? = some a → RepC K cA as ow H a c
/-- what a run leaves: the store grows, what is not of the store stays -/
structure Pst (as : List Addr) (ow : Addr → Prop) (H : Hp) (as' : List Addr) (ow' : Addr → Prop) (H' : Hp) (st' : Sto) : Prop where
  pre : as <+: as'
  pw : ∀ p, ow p → ow' p
  keep : ∀ p o, H p = some o → p ∉ as → H' p = some o ∧ p ∉ as' ∧ (ow' p → ow p)
  rel : Rel K cA as' ow' H' st'
end
section
variable {K : PySem.W.Frag} {cA : ClA} {as as' as2 : List Addr} {ow ow' ow2 : Addr → Prop} {H H' H2 : Hp} {st st' st2 : Sto}
theorem Rel.notTup (R : Rel K cA as ow H st) {p : Addr} {o : HO} (h : H p = some o) (ho : isMut o = false) : p ∉ as ∧ ¬ ow p := by
  refine ⟨fun q => ?_, fun q => ?_⟩
  · obtain ⟨o', h', m⟩ := R.mta p q
    rw [h] at h'; cases h'; rw [ho] at m; cases m
  · obtain ⟨o', h', m⟩ := R.mto p q
    rw [h] at h'; cases h'; rw [ho] at m; cases m
/-- what is needed to carry a datum over -/
structure Car (as : List Addr) (ow : Addr → Prop) (H : Hp) (as' : List Addr) (ow' : Addr → Prop) (H' : Hp) : Prop where
  pre : as <+: as'
  tup : ∀ p vs, H p = some (.tup vs) → H' p = some (.tup vs)
  frz : ∀ p o u, H p = some (.frz o u) → H' p = some (.frz o u)
  oth : ∀ p o, H p = some o → p ∉ as → ¬ ow p → H' p = some o ∧ p ∉ as' ∧ ¬ ow' p
theorem prefix_get {as as' : List Addr} (h : as <+: as') {n : Nat} {a : Addr} (e : as[n]? = some a) : as'[n]? = some a := by
  obtain ⟨t, rfl⟩ := h
  have hl := (List.getElem?_eq_some_iff.mp e).1
  rw [List.getElem?_append_left hl]; exact e
mutual
theorem RepV.car (c : Car as ow H as' ow' H') : ∀ {v : V} {d : D}, RepV K as ow H v d → RepV K as' ow' H' v d
  | _, _, .non => .non
  | _, _, .bl b => .bl b
  | _, _, .int i => .int i
  | _, _, .str s => .str s
  | _, _, .tup h r => .tup (c.tup _ _ h) (RepVs.car c r)
  | _, _, .fl h n1 n2 r => let ⟨a, b, d⟩ := c.oth _ _ h n1 n2; .fl a b d (RepVs.car c r)
  | _, _, .sc h r => .sc (h.elim (fun ⟨o, e⟩ => .inl ⟨o, c.frz _ _ _ e⟩) .inr) (RepVs.car c r)
  | _, _, .fdk h n1 n2 r => by
    have q := RepK.car c r
    rcases h with h | ⟨o, h⟩
    · obtain ⟨a, b, d⟩ := c.oth _ _ h n1 n2
      exact .fdk (.inl a) b d q
    · obtain ⟨a, b, d⟩ := c.oth _ _ h n1 n2
      exact .fdk (.inr ⟨o, a⟩) b d q
  | _, _, .fdt h n1 n2 r => by
    have q := RepT.car c r
    rcases h with h | ⟨o, h⟩
    · obtain ⟨a, b, d⟩ := c.oth _ _ h n1 n2
      exact .fdt (.inl a) b d q
    · obtain ⟨a, b, d⟩ := c.oth _ _ h n1 n2
      exact .fdt (.inr ⟨o, a⟩) b d q
  | _, _, .ref e => .ref (prefix_get c.pre e)
theorem RepVs.car (c : Car as ow H as' ow' H') : ∀ {vs : List V} {ds : List D}, RepVs K as ow H vs ds → RepVs K as' ow' H' vs ds
  | _, _, .nil => .nil
  | _, _, .cons a r => .cons (RepV.car c a) (RepVs.car c r)
theorem RepK.car (c : Car as ow H as' ow' H') : ∀ {vs : List (Key × V)} {ds : List (Ky × D)}, RepK K as ow H vs ds → RepK K as' ow' H' vs ds
  | _, _, .nil => .nil
  | _, _, .cons a r => .cons (RepV.car c a) (RepK.car c r)
theorem RepT.car (c : Car as ow H as' ow' H') : ∀ {vs : List (List Key × V)} {ds : List (Ky × D)}, RepT K as ow H vs ds → RepT K as' ow' H' vs ds
  | _, _, .nil => .nil
  | _, _, .cons a r => .cons (RepV.car c a) (RepT.car c r)
end
theorem RepF.car (c : Car as ow H as' ow' H') {vs : List (Str × V)} {ds : List (Fl × D)} (h : RepF K as ow H vs ds) : RepF K as' ow' H' vs ds := by
  induction h with
  | nil => exact .nil
  | cons a _ ih => exact .cons (a.car c) ih

theorem Pst.car (R : Rel K cA as ow H st) (p : Pst K cA as ow H as' ow' H' st') : Car as ow H as' ow' H' where
  pre := p.pre
  tup := fun q vs h => (p.keep q _ h (R.notTup h rfl).1).1
  frz := fun q o u h => (p.keep q _ h (R.notTup h rfl).1).1
  oth := fun q o h n1 n2 => let ⟨a, b, c⟩ := p.keep q o h n1; ⟨a, b, fun z => n2 (c z)⟩
theorem Pst.refl (R : Rel K cA as ow H st) : Pst K cA as ow H as ow H st := ⟨List.prefix_refl _, fun _ h => h, fun p o h n => ⟨h, n, fun z => z⟩, R⟩
theorem Pst.trans (a : Pst K cA as ow H as' ow' H' st') (b : Pst K cA as' ow' H' as2 ow2 H2 st2) : Pst K cA as ow H as2 ow2 H2 st2 :=
  ⟨a.pre.trans b.pre, fun p h => b.pw p (a.pw p h), fun p o h n => by
    obtain ⟨h1, n1, w1⟩ := a.keep p o h n
    obtain ⟨h2, n2, w2⟩ := b.keep p o h1 n1
    exact ⟨h2, n2, fun z => w1 (w2 z)⟩, b.rel⟩
theorem Rel.owNot (R : Rel K cA as ow H st) {p : Addr} (h : ow p) : p ∉ as := R.dis p h
/-- a value in one hand is carried over a run -/
theorem RepX.pst (R : Rel K cA as ow H st) (p : Pst K cA as ow H as' ow' H' st') {v : V} {d : D} (h : RepX K as ow H v d) : RepX K as' ow' H' v d := by
  have c := p.car R
  cases d with
  | ol ds =>
    obtain ⟨q, vs, e, w, hq, r⟩ := h
    exact ⟨q, vs, e, p.pw q w, (p.keep q _ hq (R.owNot w)).1, r.car c⟩
  | od t ks =>
    cases t with
    | false =>
      obtain ⟨q, vs, e, w, hq, r⟩ := h
      exact ⟨q, vs, e, p.pw q w, (p.keep q _ hq (R.owNot w)).1, r.car c⟩
    | true =>
      obtain ⟨q, vs, e, w, hq, r⟩ := h
      exact ⟨q, vs, e, p.pw q w, (p.keep q _ hq (R.owNot w)).1, r.car c⟩
  | _ => exact RepV.car c h
/-- fewer in hand: weaker -/
theorem Car.less (hw : ∀ p, ow' p → ow p) : Car as ow H as ow' H :=
  ⟨List.prefix_refl _, fun _ _ h => h, fun _ _ _ h => h, fun p o h n1 n2 => ⟨h, n1, fun z => n2 (hw p z)⟩⟩
theorem RepC.car (c : Car as ow H as' ow' H') {a : Addr} (h : H' a = H a) : ∀ {x : Cell}, RepC K cA as ow H a x → RepC K cA as' ow' H' a x := by
  intro x q
  cases x with
  | lst ds => obtain ⟨vs, e, r⟩ := q; exact ⟨vs, h.trans e, r.car c⟩
  | dct t ks =>
    cases t with
    | false => obtain ⟨vs, e, r⟩ := q; exact ⟨vs, h.trans e, r.car c⟩
    | true => obtain ⟨vs, e, r⟩ := q; exact ⟨vs, h.trans e, r.car c⟩
  | obj k fs => obtain ⟨C, dx, gs, e0, e, r⟩ := q; exact ⟨C, dx, gs, e0, h.trans e, r.car c⟩
theorem Rel.less (R : Rel K cA as ow H st) (hw : ∀ p, ow' p → ow p) : Rel K cA as ow' H st where
  len := R.len
  nd := R.nd
  dis := fun a h => R.dis a (hw a h)
  mta := R.mta
  mto := fun a h => R.mto a (hw a h)
  cell := fun n c a e1 e2 => (R.cell n c a e1 e2).car (Car.less hw) rfl

theorem RepVs.length {vs : List V} {ds : List D} (h : RepVs K as ow H vs ds) : vs.length = ds.length := by
  induction vs generalizing ds with
  | nil => cases h; rfl
  | cons v vs ih => cases h with | cons a r => simp [ih r]
theorem RepVs.get : ∀ {vs : List V} {ds : List D} {i : Nat} {d : D}, RepVs K as ow H vs ds → ds[i]? = some d → ∃ v, vs[i]? = some v ∧ RepV K as ow H v d
  | _, _, _, _, .nil, e => by simp at e
  | _, _, 0, _, .cons a r, e => by simp at e; subst e; exact ⟨_, rfl, a⟩
  | _, _, i + 1, d, .cons a r, e => by
    obtain ⟨v, h1, h2⟩ := RepVs.get (i := i) (d := d) r (by simpa using e)
    exact ⟨v, by simpa using h1, h2⟩
theorem RepVs.getV : ∀ {vs : List V} {ds : List D} {i : Nat} {v : V}, RepVs K as ow H vs ds → vs[i]? = some v → ∃ d, ds[i]? = some d ∧ RepV K as ow H v d
  | _, _, _, _, .nil, e => by simp at e
  | _, _, 0, _, .cons a r, e => by simp at e; subst e; exact ⟨_, rfl, a⟩
  | _, _, i + 1, d, .cons a r, e => by
    obtain ⟨v, h1, h2⟩ := RepVs.getV (i := i) (v := d) r (by simpa using e)
    exact ⟨v, by simpa using h1, h2⟩
theorem RepVs.append : ∀ {vs ws : List V} {ds es : List D}, RepVs K as ow H vs ds → RepVs K as ow H ws es → RepVs K as ow H (vs ++ ws) (ds ++ es)
  | _, _, _, _, .nil, s => s
  | _, _, _, _, .cons a r, s => .cons a (RepVs.append r s)
theorem RepVs.take : ∀ {vs : List V} {ds : List D} (n : Nat), RepVs K as ow H vs ds → RepVs K as ow H (vs.take n) (ds.take n)
  | _, _, 0, _ => .nil
  | _, _, _ + 1, .nil => .nil
  | _, _, n + 1, .cons a r => .cons a (RepVs.take n r)
theorem RepVs.drop : ∀ {vs : List V} {ds : List D} (n : Nat), RepVs K as ow H vs ds → RepVs K as ow H (vs.drop n) (ds.drop n)
  | _, _, 0, r => r
  | _, _, _ + 1, .nil => .nil
  | _, _, n + 1, .cons _ r => RepVs.drop n r
theorem RepVs.reverse : ∀ {vs : List V} {ds : List D}, RepVs K as ow H vs ds → RepVs K as ow H vs.reverse ds.reverse
  | _, _, .nil => .nil
  | _, _, .cons a r => by rw [List.reverse_cons, List.reverse_cons]; exact RepVs.append (RepVs.reverse r) (.cons a .nil)
theorem RepVs.cut {vs : List V} {ds : List D} (h : RepVs K as ow H vs ds) (lo hi : Option Int) : RepVs K as ow H (cutV vs lo hi) (cutL ds lo hi) := by
  unfold cutV cutL
  rw [h.length]
  exact (h.drop _).take _
theorem RepVs.set {v : V} {d : D} (q : RepV K as ow H v d) : ∀ {vs : List V} {ds : List D} (i : Nat), RepVs K as ow H vs ds → RepVs K as ow H (vs.set i v) (ds.set i d)
  | _, _, _, .nil => .nil
  | _, _, 0, .cons _ r => .cons q r
  | _, _, i + 1, .cons a r => .cons a (RepVs.set q i r)
theorem RepVs.rep {vs : List V} {ds : List D} (h : RepVs K as ow H vs ds) : ∀ k : Nat, RepVs K as ow H (List.replicate k vs).flatten (List.replicate k ds).flatten
  | 0 => .nil
  | k + 1 => by rw [List.replicate_succ, List.replicate_succ, List.flatten_cons, List.flatten_cons]; exact h.append (h.rep k)
end
end CM
end
section
set_option linter.all false
set_option maxRecDepth 100000
set_option maxHeartbeats 4000000
/-! Operators. -/
namespace CM
open PySem PySem.Spec PyProof.Rows L2

section
variable (K : PySem.W.Frag) (cA : ClA)
/-- what a value's maker has to give -/
def Out (as : List Addr) (ow : Addr → Prop) (H : Hp) (st : Sto) (d : D) (Q : VK) : Prop :=
  ∀ v as' ow' H', Pst K cA as ow H as' ow' H' st → RepX K as' ow' H' v d → (free d = false → ∀ p, v = .ref p → ¬ ow p) → Q v H'
def rS (o : Op) : R2 := fun x y H Q => ∃ as ow st a b d, Rel K cA as ow H st ∧ RepX K as ow H x a ∧ RepX K as ow H y b ∧ opS st o a b = some d ∧ Out K cA as ow H st d Q
end
section
variable {K : PySem.W.Frag} {cA : ClA} {as : List Addr} {ow : Addr → Prop} {H : Hp} {st : Sto} {Q : VK}
theorem RepV.x {v : V} {d : D} (h : RepV K as ow H v d) (f : free d = true) : RepX K as ow H v d := by
  cases d with
  | ol _ => cases f
  | od _ _ => cases f
  | _ => exact h
theorem Out.here {d : D} {v : V} (o : Out K cA as ow H st d Q) (R : Rel K cA as ow H st) (h : RepV K as ow H v d) (f : free d = true) : Q v H :=
  o v as ow H (Pst.refl R) (h.x f) fun z => by rw [f] at z; cases z
theorem Rel.freshN (R : Rel K cA as ow H st) {p : Addr} (h : H p = none) : p ∉ as ∧ ¬ ow p := by
  refine ⟨fun q => ?_, fun q => ?_⟩
  · obtain ⟨o, e, _⟩ := R.mta p q; rw [h] at e; cases e
  · obtain ⟨o, e, _⟩ := R.mto p q; rw [h] at e; cases e
theorem Rel.updOther (R : Rel K cA as ow H st) {p : Addr} {o : HO} (h : H p = none) : Rel K cA as ow (upd H p o) st := by
  obtain ⟨n1, n2⟩ := R.freshN h
  have nea : ∀ a, a ∈ as → a ≠ p := fun a ha e => n1 (e ▸ ha)
  have neo : ∀ a, ow a → a ≠ p := fun a ha e => n2 (e ▸ ha)
  have car : Car as ow H as ow (upd H p o) := ⟨List.prefix_refl _, fun q vs e => by rw [upd_ne (ne_of_none e h)]; exact e, fun q ob u e => by rw [upd_ne (ne_of_none e h)]; exact e,
    fun q ob e a b => ⟨by rw [upd_ne (ne_of_none e h)]; exact e, a, b⟩⟩
  refine ⟨R.len, R.nd, R.dis, fun a ha => ?_, fun a ha => ?_, fun n c a e1 e2 => (R.cell n c a e1 e2).car car ?_⟩
  · rw [upd_ne (nea a ha)]; exact R.mta a ha
  · rw [upd_ne (neo a ha)]; exact R.mto a ha
  · exact upd_ne (nea a (List.mem_of_getElem? e2))
theorem Pst.lay (R : Rel K cA as ow H st) {p : Addr} {o : HO} (h : H p = none) : Pst K cA as ow H as ow (upd H p o) st :=
  ⟨List.prefix_refl _, fun _ z => z, fun q ob e n => ⟨by rw [upd_ne (ne_of_none e h)]; exact e, n, fun z => z⟩, R.updOther h⟩
/-- a new object taken in hand -/
theorem Pst.own (R : Rel K cA as ow H st) {p : Addr} {o : HO} (h : H p = none) (m : isMut o = true) : Pst K cA as ow H as (fun q => ow q ∨ q = p) (upd H p o) st := by
  obtain ⟨n1, n2⟩ := R.freshN h
  have R1 : Rel K cA as ow (L2.upd H p o) st := R.updOther h
  have nea : ∀ a, a ∈ as → a ≠ p := fun a ha e => n1 (e ▸ ha)
  have neo : ∀ a, ow a → a ≠ p := fun a ha e => n2 (e ▸ ha)
  have nn : ∀ q ob, H q = some ob → q ≠ p := fun q ob e z => by subst z; rw [h] at e; cases e
  have car : Car as ow H as (fun q => ow q ∨ q = p) (L2.upd H p o) := ⟨List.prefix_refl _, fun q vs e => by rw [upd_ne (ne_of_none e h)]; exact e, fun q ob u e => by rw [upd_ne (ne_of_none e h)]; exact e,
    fun q ob e a b => ⟨by rw [upd_ne (ne_of_none e h)]; exact e, a, fun z => z.elim b (nn q ob e)⟩⟩
  refine ⟨List.prefix_refl _, fun _ z => .inl z, fun q ob e n => ⟨by rw [upd_ne (ne_of_none e h)]; exact e, n, fun z => z.elim id fun z => absurd z (nn q ob e)⟩, ⟨R.len, R.nd, fun a ha => ?_, fun a ha => ?_, fun a ha => ?_, fun n c a e1 e2 => (R.cell n c a e1 e2).car car ?_⟩⟩
  · rcases ha with q | q
    · exact R.dis a q
    · subst q; exact n1
  · rw [upd_ne (nea a ha)]; exact R.mta a ha
  · rcases ha with q | q
    · rw [upd_ne (neo a q)]; exact R.mto a q
    · subst q; exact ⟨o, upd_same, m⟩
  · exact upd_ne (nea a (List.mem_of_getElem? e2))
theorem Out.newT {vs : List V} {ds : List D} (o : Out K cA as ow H st (.tup ds) Q) (R : Rel K cA as ow H st) (r : RepVs K as ow H vs ds) {p : Addr} (h : H p = none) : Q (.ref p) (upd H p (.tup vs)) := by
  have P := Pst.lay (o := .tup vs) R h
  exact o _ _ _ _ P (.tup upd_same (r.car (P.car R))) fun z => by cases z
theorem Out.newL {vs : List V} {ds : List D} (o : Out K cA as ow H st (.ol ds) Q) (R : Rel K cA as ow H st) (r : RepVs K as ow H vs ds) {p : Addr} (h : H p = none) : Q (.ref p) (upd H p (.lst vs)) := by
  have P := Pst.own (o := .lst vs) R h rfl
  exact o _ _ _ _ P ⟨p, vs, rfl, .inr rfl, upd_same, r.car (P.car R)⟩ fun _ q e => by cases e; exact (R.freshN h).2
theorem Out.newK {kvs : List (Key × V)} {ks : List (Ky × D)} (o : Out K cA as ow H st (.od false ks) Q) (R : Rel K cA as ow H st) (r : RepK K as ow H kvs ks) {p : Addr} (h : H p = none) : Q (.ref p) (upd H p (.dK kvs)) := by
  have P := Pst.own (o := .dK kvs) R h rfl
  exact o _ _ _ _ P ⟨p, kvs, rfl, .inr rfl, upd_same, r.car (P.car R)⟩ fun _ q e => by cases e; exact (R.freshN h).2
theorem Out.newDT {kvs : List (List Key × V)} {ks : List (Ky × D)} (o : Out K cA as ow H st (.od true ks) Q) (R : Rel K cA as ow H st) (r : RepT K as ow H kvs ks) {p : Addr} (h : H p = none) : Q (.ref p) (upd H p (.dT kvs)) := by
  have P := Pst.own (o := .dT kvs) R h rfl
  exact o _ _ _ _ P ⟨p, kvs, rfl, .inr rfl, upd_same, r.car (P.car R)⟩ fun _ q e => by cases e; exact (R.freshN h).2

/-! ### reading -/
theorem ls_rd (R : Rel K cA as ow H st) {v : V} {d : D} {xs : List D} (h : RepX K as ow H v d) (e : lsOf st d = some xs) : ∃ p vs, v = .ref p ∧ SqL K H p vs ∧ RepVs K as ow H vs xs := by
  cases d with
  | ol ds => obtain ⟨p, vs, q1, _, q2, q3⟩ := h; cases e; exact ⟨p, vs, q1, .of q2, q3⟩
  | fl ds => cases h with | fl a _ _ r => cases e; exact ⟨_, _, rfl, .of a, r⟩
  | sc ds => cases h with | sc a r => cases e; exact ⟨_, _, rfl, a.seq, r⟩
  | ref n =>
    cases h with
    | ref ea =>
      cases ec : st[n]? with
      | none => simp [lsOf, ec] at e
      | some c =>
        simp only [lsOf, ec] at e
        cases c with
        | lst ys =>
          cases e
          obtain ⟨vs, h1, h2⟩ := R.cell n _ _ ec ea
          exact ⟨_, vs, rfl, .of h1, h2⟩
        | _ => cases e
  | _ => cases e
theorem lsP_of {d : D} {xs : List D} (e : lsP st d = some xs) : lsOf st d = some xs := by
  cases d <;> first | exact e | cases e
theorem lsP_rd (R : Rel K cA as ow H st) {v : V} {d : D} {xs : List D} (h : RepX K as ow H v d) (e : lsP st d = some xs) : ∃ p vs, v = .ref p ∧ H p = some (.lst vs) ∧ RepVs K as ow H vs xs := by
  cases d with
  | ol ds => obtain ⟨p, vs, q1, _, q2, q3⟩ := h; cases e; exact ⟨p, vs, q1, q2, q3⟩
  | fl ds => cases h with | fl a _ _ r => cases e; exact ⟨_, _, rfl, a, r⟩
  | ref n =>
    cases h with
    | ref ea =>
      cases ec : st[n]? with
      | none => simp [lsP, lsOf, ec] at e
      | some c =>
        simp only [lsP, lsOf, ec] at e
        cases c with
        | lst ys =>
          cases e
          obtain ⟨vs, h1, h2⟩ := R.cell n _ _ ec ea
          exact ⟨_, vs, rfl, h1, h2⟩
        | _ => cases e
  | _ => cases e
theorem tup_rd {v : V} {xs : List D} (h : RepX K as ow H v (.tup xs)) : ∃ p vs, v = .ref p ∧ H p = some (.tup vs) ∧ RepVs K as ow H vs xs := by
  cases h with | tup a r => exact ⟨_, _, rfl, a, r⟩
theorem int_rd {v : V} {i : Int} (h : RepX K as ow H v (.int i)) : v = .int i := by cases h; rfl
theorem str_rd {v : V} {s : List Char} (h : RepX K as ow H v (.str s)) : v = .str (toStr s) := by cases h; rfl
theorem bl_rd {v : V} {b : Bool} (h : RepX K as ow H v (.bl b)) : v = .bl b := by cases h; rfl
theorem kx_rd {v : V} {d : D} {a : Kx} (h : RepV K as ow H v d) (e : kxOf d = some a) : v = kV (kxK a) := by
  cases h <;> simp [kxOf] at e <;> subst e <;> rfl
theorem kxs_rd : ∀ {vs : List V} {ds : List D} {as' : List Kx}, RepVs K as ow H vs ds → kxsOf ds = some as' → vs = (as'.map kxK).map kV
  | _, _, _, .nil, e => by cases e; rfl
  | _, _, as', .cons (ds := ds) (d := d) a r, e => by
    unfold kxsOf at e
    cases h1 : kxOf d with
    | none => rw [h1] at e; simp at e
    | some b =>
      cases h2 : kxsOf ds with
      | none => rw [h1, h2] at e; simp at e
      | some bs =>
        rw [h1, h2] at e
        simp at e; subst e
        rw [kx_rd a h1, kxs_rd r h2]; rfl
/-! ### texts -/
theorem toStr_tl (s : List Char) : (toStr s).cps.toList = s.map Char.toNat := by simp [toStr]
theorem toStr_len (s : List Char) : (toStr s).length = s.length := by simp [toStr, Str.length]
theorem char_inj {a b : Char} (h : a.toNat = b.toNat) : a = b := Char.ext (UInt32.toNat_inj.mp h)
theorem map_char_inj : ∀ {a b : List Char}, a.map Char.toNat = b.map Char.toNat → a = b
  | [], [], _ => rfl
  | [], _ :: _, h => by cases h
  | _ :: _, [], h => by cases h
  | x :: xs, y :: ys, h => by
    simp only [List.map_cons, List.cons.injEq] at h
    rw [char_inj h.1, map_char_inj h.2]
theorem toStr_inj {a b : List Char} (h : toStr a = toStr b) : a = b := by
  have e : (toStr a).cps.toList = (toStr b).cps.toList := by rw [h]
  rw [toStr_tl, toStr_tl] at e
  exact map_char_inj e
theorem toStr_app (a b : List Char) : toStr (a ++ b) = toStr a ++ toStr b := by
  apply Str.ext'
  apply Array.toList_inj.mp
  rw [toStr_tl, List.map_append]
  show _ = TL.tl (toStr a ++ toStr b)
  rw [TL.tl_append]
  show _ = (toStr a).cps.toList ++ (toStr b).cps.toList
  rw [toStr_tl, toStr_tl]
theorem kxK_inj {a b : Kx} (h : kxK a = kxK b) : a = b := by
  cases a <;> cases b
  · have := Sum.inl.inj h; rw [this]
  · cases h
  · cases h
  · rw [toStr_inj (Sum.inr.inj h)]
theorem map_kxK_inj : ∀ {a b : List Kx}, a.map kxK = b.map kxK → a = b
  | [], [], _ => rfl
  | [], _ :: _, h => by cases h
  | _ :: _, [], h => by cases h
  | x :: xs, y :: ys, h => by
    simp only [List.map_cons, List.cons.injEq] at h
    rw [kxK_inj h.1, map_kxK_inj h.2]
/-! ### dicts -/
theorem repK_get (a : Kx) : ∀ {kvs : List (Key × V)} {ks : List (Ky × D)}, RepK K as ow H kvs ks → (valV kvs (kxK a) = none ∧ dGet (.k a) ks = none) ∨ ∃ v d, valV kvs (kxK a) = some v ∧ dGet (.k a) ks = some d ∧ RepV K as ow H v d
  | _, _, .nil => .inl ⟨rfl, rfl⟩
  | _, _, .cons (a := b) q r => by
    by_cases e : b = a
    · subst e
      exact .inr ⟨_, _, valV_pos rfl, by simp [dGet], q⟩
    · rw [valV_neg (fun z => e (kxK_inj z))]
      simp only [dGet, Ky.k.injEq, e, if_false]
      exact repK_get a r
theorem repT_get (a : List Kx) : ∀ {kvs : List (List Key × V)} {ks : List (Ky × D)}, RepT K as ow H kvs ks → (valV kvs (a.map kxK) = none ∧ dGet (.t a) ks = none) ∨ ∃ v d, valV kvs (a.map kxK) = some v ∧ dGet (.t a) ks = some d ∧ RepV K as ow H v d
  | _, _, .nil => .inl ⟨rfl, rfl⟩
  | _, _, .cons (a := b) q r => by
    by_cases e : b = a
    · subst e
      exact .inr ⟨_, _, valV_pos rfl, by simp [dGet], q⟩
    · rw [valV_neg (fun z => e (map_kxK_inj z))]
      simp only [dGet, Ky.t.injEq, e, if_false]
      exact repT_get a r
/-- a key of a dict, looked up -/
theorem dc_get (R : Rel K cA as ow H st) {v y : V} {d e : D} {t : Bool} {ks : List (Ky × D)} {k : Ky} (h : RepX K as ow H v d) (hd : dcOf st d = some (t, ks)) (hy : RepX K as ow H y e) (hk : keyOf t e = some k) :
    ∃ p o, v = .ref p ∧ DGet H p y o ∧ ((o = none ∧ dGet k ks = none) ∨ ∃ w c, o = some w ∧ dGet k ks = some c ∧ RepV K as ow H w c) := by
  -- the key
  have key : ∀ {p : Addr} , (t = false → ∃ kvs, v = .ref p ∧ Rd H p (.dK kvs) ∧ RepK K as ow H kvs ks) → (t = true → ∃ kvs, v = .ref p ∧ Rd H p (.dT kvs) ∧ RepT K as ow H kvs ks) →
      ∃ p o, v = .ref p ∧ DGet H p y o ∧ ((o = none ∧ dGet k ks = none) ∨ ∃ w c, o = some w ∧ dGet k ks = some c ∧ RepV K as ow H w c) := by
    intro p hK hT
    cases t with
    | false =>
      obtain ⟨kvs, rfl, rd, rk⟩ := hK rfl
      have : ∃ a, kxOf e = some a ∧ k = .k a := by
        cases e <;> simp [keyOf, kxOf] at hk ⊢ <;> exact hk.symm
      obtain ⟨a, ha, rfl⟩ := this
      have hv : RepV K as ow H y e := by cases e <;> first | exact hy | cases ha
      have ey := kx_rd hv ha
      subst ey
      exact ⟨p, _, rfl, .inl ⟨kvs, kxK a, rd, rfl, rfl⟩, repK_get a rk⟩
    | true =>
      obtain ⟨kvs, rfl, rd, rk⟩ := hT rfl
      cases e with
      | tup xs =>
        obtain ⟨b, vs, rfl, hb, rv⟩ := tup_rd hy
        simp only [keyOf, if_true] at hk
        cases hx : kxsOf xs with
        | none => rw [hx] at hk; cases hk
        | some bs =>
          rw [hx] at hk; cases hk
          have ev := kxs_rd rv hx
          subst ev
          exact ⟨p, _, rfl, .inr ⟨kvs, bs.map kxK, b, rd, rfl, hb, rfl⟩, repT_get bs rk⟩
      | _ => simp [keyOf] at hk
  cases d with
  | od t' ks' =>
    cases hd
    cases t with
    | false => obtain ⟨p, kvs, q1, _, q2, q3⟩ := h; exact key (p := p) (fun _ => ⟨kvs, q1, .of q2, q3⟩) (fun z => by cases z)
    | true => obtain ⟨p, kvs, q1, _, q2, q3⟩ := h; exact key (p := p) (fun z => by cases z) (fun _ => ⟨kvs, q1, .of q2, q3⟩)
  | fd t' ks' =>
    cases hd
    cases h with
    | fdk a _ _ r => exact key (fun _ => ⟨_, rfl, a, r⟩) (fun z => by cases z)
    | fdt a _ _ r => exact key (fun z => by cases z) (fun _ => ⟨_, rfl, a, r⟩)
  | ref n =>
    cases h with
    | ref ea =>
      cases ec : st[n]? with
      | none => simp [dcOf, ec] at hd
      | some c =>
        simp only [dcOf, ec] at hd
        cases c with
        | dct t' ks' =>
          cases hd
          have rc := R.cell n _ _ ec ea
          cases t with
          | false => obtain ⟨kvs, h1, h2⟩ := rc; exact key (fun _ => ⟨kvs, rfl, .of h1, h2⟩) (fun z => by cases z)
          | true => obtain ⟨kvs, h1, h2⟩ := rc; exact key (fun z => by cases z) (fun _ => ⟨kvs, rfl, .of h1, h2⟩)
        | _ => cases hd
  | _ => cases hd
end

/-! ### == -/
mutual
def pyD : D → PyData
  | .non => .none
  | .bl b => .bool b
  | .int i => .int i
  | .str s => .str (toStr s)
  | .tup xs => .tuple (pyDs xs)
  | .fl xs => .list (pyDs xs)
  | .sc xs => .list (pyDs xs)
  | .ol xs => .list (pyDs xs)
  | _ => .none
def pyDs : List D → List PyData
  | [] => []
  | x :: r => pyD x :: pyDs r
end
theorem strOk_toStr (s : List Char) : PyData.strOk (toStr s) = true := by
  unfold PyData.strOk
  rw [Array.all_eq_true]
  intro i hi
  simp only [toStr, decide_eq_true_eq]
  simp only [List.getElem_toArray, List.getElem_map]
  have := (s[i]'(by simpa [toStr] using hi)).valid
  have h2 : (s[i]'(by simpa [toStr] using hi)).toNat < 1114112 := by
    rcases this with h | h
    · exact Nat.lt_trans h (by decide)
    · exact h.2
  exact decide_eq_true h2
mutual
theorem lay_ok : ∀ (n : Nat) (d : D), okd n d = true → (pyD d).canLay0 = true ∧ (pyD d).depth ≤ n
  | _, .non, _ => ⟨rfl, Nat.zero_le _⟩
  | _, .bl _, _ => ⟨rfl, Nat.zero_le _⟩
  | _, .int _, _ => ⟨rfl, Nat.zero_le _⟩
  | _, .str s, _ => ⟨by simp [pyD, PyData.canLay0, strOk_toStr], by simp [pyD, PyData.depth]⟩
  | n, .tup xs, h => by
    simp only [okd, Bool.and_eq_true, decide_eq_true_eq] at h
    obtain ⟨a, b⟩ := lays_ok (n - 1) xs h.2
    exact ⟨by simpa [pyD, PyData.canLay0] using a, by simp only [pyD, PyData.depth]; omega⟩
  | n, .fl xs, h => by
    simp only [okd, Bool.and_eq_true, decide_eq_true_eq] at h
    obtain ⟨a, b⟩ := lays_ok (n - 1) xs h.2
    exact ⟨by simpa [pyD, PyData.canLay0] using a, by simp only [pyD, PyData.depth]; omega⟩
  | n, .sc xs, h => by
    simp only [okd, Bool.and_eq_true, decide_eq_true_eq] at h
    obtain ⟨a, b⟩ := lays_ok (n - 1) xs h.2
    exact ⟨by simpa [pyD, PyData.canLay0] using a, by simp only [pyD, PyData.depth]; omega⟩
  | n, .ol xs, h => by
    simp only [okd, Bool.and_eq_true, decide_eq_true_eq] at h
    obtain ⟨a, b⟩ := lays_ok (n - 1) xs h.2
    exact ⟨by simpa [pyD, PyData.canLay0] using a, by simp only [pyD, PyData.depth]; omega⟩
  | _, .fd _ _, h => by simp [okd] at h
  | _, .od _ _, h => by simp [okd] at h
  | _, .ref _, h => by simp [okd] at h
theorem lays_ok : ∀ (n : Nat) (ds : List D), okds n ds = true → PyData.canLayAll0 (pyDs ds) = true ∧ PyData.depthAll (pyDs ds) ≤ n
  | _, [], _ => ⟨rfl, Nat.zero_le _⟩
  | n, d :: r, h => by
    simp only [okds, Bool.and_eq_true] at h
    obtain ⟨a, b⟩ := lay_ok n d h.1
    obtain ⟨a', b'⟩ := lays_ok n r h.2
    exact ⟨by simp [pyDs, PyData.canLayAll0, a, a'], by simp only [pyDs, PyData.depthAll]; omega⟩
end
theorem shaped_ok {d : D} (h : okd 60 d = true) : SeqAt.shaped (pyD d) = true := by
  obtain ⟨a, b⟩ := lay_ok 60 d h
  unfold SeqAt.shaped
  rw [a, decide_eq_true (by omega)]; rfl
section
variable {K : PySem.W.Frag} {cA : ClA} {as : List Addr} {ow : Addr → Prop} {H : Hp} {st : Sto} {Q : VK}
mutual
theorem dp_of : ∀ (d : D) (n : Nat) {v : V}, okd n d = true → RepX K as ow H v d → Dp K H v (pyD d)
  | .non, _, _, _, h => by cases h; exact .non
  | .bl _, _, _, _, h => by cases h; exact .bl _
  | .int _, _, _, _, h => by cases h; exact .int _
  | .str _, _, _, _, h => by cases h; exact .str _
  | .tup xs, n, _, o, h => by
    simp only [okd, Bool.and_eq_true, decide_eq_true_eq] at o
    cases h with | tup a r => exact .tup (.of a) (dps_of xs (n - 1) o.2 r)
  | .fl xs, n, _, o, h => by
    simp only [okd, Bool.and_eq_true, decide_eq_true_eq] at o
    cases h with | fl a _ _ r => exact .lst (.of a) (dps_of xs (n - 1) o.2 r)
  | .sc xs, n, _, o, h => by
    simp only [okd, Bool.and_eq_true, decide_eq_true_eq] at o
    cases h with | sc a r => exact .lst a.seq (dps_of xs (n - 1) o.2 r)
  | .ol xs, n, _, o, h => by
    simp only [okd, Bool.and_eq_true, decide_eq_true_eq] at o
    obtain ⟨p, vs, rfl, _, a, r⟩ := h
    exact .lst (.of a) (dps_of xs (n - 1) o.2 r)
  | .fd _ _, _, _, o, _ => by simp [okd] at o
  | .od _ _, _, _, o, _ => by simp [okd] at o
  | .ref _, _, _, o, _ => by simp [okd] at o
theorem dps_of : ∀ (ds : List D) (n : Nat) {vs : List V}, okds n ds = true → RepVs K as ow H vs ds → DpAll K H vs (pyDs ds)
  | [], _, _, _, h => by cases h; exact .nil
  | d :: r, n, _, o, h => by
    simp only [okds, Bool.and_eq_true] at o
    cases h with
    | cons a b =>
      refine .cons (dp_of d n o.1 ?_) (dps_of r n o.2 b)
      cases d <;> first | exact a | cases a
end
end
mutual
theorem eqv_peq : ∀ (a b : D) (n m : Nat), okd n a = true → okd m b = true → PyData.eqv (pyD a) (pyD b) = peq a b
  | a, b, n, m, ha, hb => by
    cases a with
    | fd _ _ => simp [okd] at ha
    | od _ _ => simp [okd] at ha
    | ref _ => simp [okd] at ha
    | tup xs =>
      simp only [okd, Bool.and_eq_true] at ha
      cases b with
      | tup ys => simp only [okd, Bool.and_eq_true] at hb; simp only [pyD, PyData.eqv, peq]; exact eqvs_peqs xs ys _ _ ha.2 hb.2
      | fd _ _ => simp [okd] at hb
      | od _ _ => simp [okd] at hb
      | ref _ => simp [okd] at hb
      | _ => rfl
    | fl xs =>
      simp only [okd, Bool.and_eq_true] at ha
      cases b with
      | fl ys => simp only [okd, Bool.and_eq_true] at hb; simp only [pyD, PyData.eqv, peq]; exact eqvs_peqs xs ys _ _ ha.2 hb.2
      | sc ys => simp only [okd, Bool.and_eq_true] at hb; simp only [pyD, PyData.eqv, peq]; exact eqvs_peqs xs ys _ _ ha.2 hb.2
      | ol ys => simp only [okd, Bool.and_eq_true] at hb; simp only [pyD, PyData.eqv, peq]; exact eqvs_peqs xs ys _ _ ha.2 hb.2
      | fd _ _ => simp [okd] at hb
      | od _ _ => simp [okd] at hb
      | ref _ => simp [okd] at hb
      | _ => rfl
    | sc xs =>
      simp only [okd, Bool.and_eq_true] at ha
      cases b with
      | fl ys => simp only [okd, Bool.and_eq_true] at hb; simp only [pyD, PyData.eqv, peq]; exact eqvs_peqs xs ys _ _ ha.2 hb.2
      | sc ys => simp only [okd, Bool.and_eq_true] at hb; simp only [pyD, PyData.eqv, peq]; exact eqvs_peqs xs ys _ _ ha.2 hb.2
      | ol ys => simp only [okd, Bool.and_eq_true] at hb; simp only [pyD, PyData.eqv, peq]; exact eqvs_peqs xs ys _ _ ha.2 hb.2
      | fd _ _ => simp [okd] at hb
      | od _ _ => simp [okd] at hb
      | ref _ => simp [okd] at hb
      | _ => rfl
    | ol xs =>
      simp only [okd, Bool.and_eq_true] at ha
      cases b with
      | fl ys => simp only [okd, Bool.and_eq_true] at hb; simp only [pyD, PyData.eqv, peq]; exact eqvs_peqs xs ys _ _ ha.2 hb.2
      | sc ys => simp only [okd, Bool.and_eq_true] at hb; simp only [pyD, PyData.eqv, peq]; exact eqvs_peqs xs ys _ _ ha.2 hb.2
      | ol ys => simp only [okd, Bool.and_eq_true] at hb; simp only [pyD, PyData.eqv, peq]; exact eqvs_peqs xs ys _ _ ha.2 hb.2
      | fd _ _ => simp [okd] at hb
      | od _ _ => simp [okd] at hb
      | ref _ => simp [okd] at hb
      | _ => rfl
    | str x =>
      cases b with
      | str y =>
        simp only [pyD, PyData.eqv, peq]
        by_cases e : x = y
        · subst e; simp
        · rw [beq_false_of_ne e, beq_false_of_ne fun q => e (toStr_inj q)]
      | fd _ _ => simp [okd] at hb
      | od _ _ => simp [okd] at hb
      | ref _ => simp [okd] at hb
      | _ => rfl
    | _ =>
      cases b with
      | fd _ _ => simp [okd] at hb
      | od _ _ => simp [okd] at hb
      | ref _ => simp [okd] at hb
      | _ => rfl
theorem eqvs_peqs : ∀ (a b : List D) (n m : Nat), okds n a = true → okds m b = true → PyData.eqvAll (pyDs a) (pyDs b) = peqs a b
  | [], [], _, _, _, _ => rfl
  | [], _ :: _, _, _, _, _ => rfl
  | _ :: _, [], _, _, _, _ => rfl
  | x :: xs, y :: ys, n, m, ha, hb => by
    simp only [okds, Bool.and_eq_true] at ha hb
    simp only [pyDs, PyData.eqvAll, peqs]
    rw [eqv_peq x y n m ha.1 hb.1, eqvs_peqs xs ys n m ha.2 hb.2]
end
section
variable {K : PySem.W.Frag} {cA : ClA} {as : List Addr} {ow : Addr → Prop} {H : Hp} {st : Sto} {Q : VK}
/-- the same where places of the store are read -/
theorem dp_drf (R : Rel K cA as ow H st) : ∀ (n : Nat) (d : D) (m : Nat) {v : V}, okd m (drf st n d) = true → RepX K as ow H v d → Dp K H v (pyD (drf st n d))
  | 0, d, m, v, o, h => dp_of d m o h
  | n + 1, d, m, v, o, h => by
    have all : ∀ (ds : List D) (m : Nat) {vs : List V}, okds m (ds.map (drf st n)) = true → RepVs K as ow H vs ds → DpAll K H vs (pyDs (ds.map (drf st n))) := by
      intro ds
      induction ds with
      | nil => intro m vs _ r; cases r; exact .nil
      | cons x r ih =>
        intro m vs o q
        simp only [List.map_cons, okds, Bool.and_eq_true] at o
        cases q with
        | cons a b =>
          refine .cons (dp_drf R n x m o.1 ?_) (ih m o.2 b)
          cases x <;> first | exact a | cases a
    cases d with
    | ref r =>
      cases h with
      | ref ea =>
        cases ec : st[r]? with
        | none => simp [drf, ec, okd] at o
        | some c =>
          cases c with
          | lst xs =>
            simp only [drf, ec, okd, Bool.and_eq_true] at o ⊢
            obtain ⟨vs, h1, h2⟩ := R.cell r _ _ ec ea
            exact .lst (.of h1) (all xs _ o.2 h2)
          | _ => simp [drf, ec, okd] at o
    | tup xs =>
      simp only [drf, okd, Bool.and_eq_true] at o ⊢
      cases h with | tup a r => exact .tup (.of a) (all xs _ o.2 r)
    | fl xs =>
      simp only [drf, okd, Bool.and_eq_true] at o ⊢
      cases h with | fl a _ _ r => exact .lst (.of a) (all xs _ o.2 r)
    | sc xs =>
      simp only [drf, okd, Bool.and_eq_true] at o ⊢
      cases h with | sc a r => exact .lst a.seq (all xs _ o.2 r)
    | ol xs =>
      simp only [drf, okd, Bool.and_eq_true] at o ⊢
      obtain ⟨p, vs, rfl, _, a, r⟩ := h
      exact .lst (.of a) (all xs _ o.2 r)
    | fd _ _ => simp [drf, okd] at o
    | od _ _ => simp [drf, okd] at o
    | _ => exact dp_of _ m (by simpa [drf] using o) h
/-- == and != -/
theorem eq_rd (R : Rel K cA as ow H st) {a b : D} {x y : V} {r : Bool} (ha : RepX K as ow H x a) (hb : RepX K as ow H y b) (e : eqS st a b = some r) :
    ∃ d e', Dp K H x d ∧ Dp K H y e' ∧ SeqAt.shaped d = true ∧ SeqAt.shaped e' = true ∧ PyData.eqv d e' = r := by
  unfold eqS at e
  split at e
  · rename_i q
    simp only [Bool.and_eq_true] at q
    cases e
    exact ⟨_, _, dp_of a 60 q.1 ha, dp_of b 60 q.2 hb, shaped_ok q.1, shaped_ok q.2, eqv_peq a b _ _ q.1 q.2⟩
  · split at e
    · rename_i q
      simp only [Bool.and_eq_true] at q
      cases e
      exact ⟨_, _, dp_drf R 60 a 60 q.1 ha, dp_drf R 60 b 60 q.2 hb, shaped_ok q.1, shaped_ok q.2, eqv_peq _ _ _ _ q.1 q.2⟩
    · cases e
end
end CM
end
section
set_option linter.all false
set_option maxRecDepth 100000
set_option maxHeartbeats 4000000
namespace CM
open PySem PySem.Spec PyProof.Rows L2

/-! ### < of tuples of numbers and texts -/
inductive AtomIs : D → Value → Prop
  | int (i : Int) (t : Tok) : AtomIs (.int i) (.int i t)
  | str (s : List Char) (t : Tok) : AtomIs (.str s) (.str (toStr s) t)
abbrev AtomsAre : List D → List Value → Prop := Paired AtomIs
theorem ltStr_eq : ∀ a b : List Char, ltStr a b = decide (a.map Char.toNat < b.map Char.toNat)
  | [], [] => by simp [ltStr]
  | [], y :: ys => by simp [ltStr]
  | x :: xs, [] => by simp [ltStr]
  | x :: xs, y :: ys => by
    simp only [ltStr, List.map_cons, List.cons_lt_cons_iff]
    by_cases e : x = y
    · subst e
      rw [if_pos rfl, ltStr_eq xs ys]
      simp
    · rw [if_neg e]
      have ne : x.toNat ≠ y.toNat := fun q => e (char_inj q)
      simp [ne]
theorem ltA_run {x y : D} {u v : Value} {b : Bool} (hx : AtomIs x u) (hy : AtomIs y v) (h : ltA x y = some b) (A : Around) (s : Shared) :
    SeqAt.EqAt A s u v (peq x y) ∧ ∀ (prog : Program) (w : World) (E : Value → Shared → Prop) (Q : Value → Shared → Prop), Q (.bool b) s → wpAny (model prog w) A (richCompare .Lt u v) Q E s := by
  cases hx with
  | int i t =>
    cases hy with
    | int j t' =>
      cases h
      refine ⟨?_, fun prog w E Q q => HT.rcLt_int A s i t j t' prog w E Q q⟩
      obtain ⟨e, he, hi⟩ := HT.eqAt_int A s i t j t'
      have : peq (.int i) (.int j) = e := by
        simp only [peq]
        cases e with
        | true => simpa using hi.mp rfl
        | false => simpa using fun q => Bool.false_ne_true (hi.mpr q)
      rw [this]; exact he
    | str _ _ => cases h
  | str a t =>
    cases hy with
    | int _ _ => cases h
    | str b' t' =>
      cases h
      refine ⟨?_, fun prog w E Q q => DT.rcLt_str A s _ t _ t' prog w E Q ?_⟩
      · have := SeqAt.EqAt.str_str (A := A) (s := s) (toStr a) t (toStr b') t'
        have e : (toStr a == toStr b') = peq (.str a) (.str b') := by
          simp only [peq]
          by_cases q : a = b'
          · subst q; simp
          · rw [beq_false_of_ne q, beq_false_of_ne fun z => q (toStr_inj z)]
        rw [← e]; exact this
      · rw [toStr_tl, toStr_tl, ← ltStr_eq]; exact q
section
open PySem.SeqAt
open PySem.AutoSeq1 (wpAny_loadPart')
open PySem.MeetsSeq PySem.MeetsSeq2 PySem.MeetsSeq3
theorem tuple_lt_atoms (l b : Addr) (items items2 : Array Value) (n n2 : Nat) (dd dd2 : Option Addr) (sl sl2 : Array (Option Value)) (ns ms : List D) (hi : AtomsAre ns items.toList) (hj : AtomsAre ms items2.toList) (r : Bool) (hr : ltTup ns ms = some r) :
    Meets (Builtin.«tuple.__lt__» ⟨[.ref l, .ref b], []⟩)
      (fun _ R s => s.heap.get? l = some { cls := .type "tuple", dict := dd, data := .seq items n, slots := sl } ∧ s.heap.get? b = some { cls := .type "tuple", dict := dd2, data := .seq items2 n2, slots := sl2 } ∧
        R (.ok (.ret (.bool r))) s) :=
  .of_wp fun prog w A R s h => by
    obtain ⟨hp, g, d, tk, os⟩ := s; obtain ⟨hl, hb, h⟩ := h
    have f2 := AutoSeq1.sub_tuple_tuple
    have z1 : items.size = ns.length := by rw [Paired.length hi]; simp
    have z2 : items2.size = ms.length := by rw [Paired.length hj]; simp
    wp_walk using wpAny_loadPart' hl, wpAny_loadPart' hb, wpAny_forIn_list _ (fun rest b s' => b.1 = none ∧ s' = ⟨hp, g, d, tk, os⟩ ∧ ∃ (vs ws : List Value) (ns' ms' : List D), rest = vs.zip ws ∧
      AtomsAre ns' vs ∧ AtomsAre ms' ws ∧ ns'.length + items2.size = ms'.length + items.size ∧ ltTup ns' ms' = some r) _
    case turn =>
      rintro ⟨y, x⟩ rest b s' ⟨hb', rfl, vs, ws, ns', ms', hz, hvi, hwi, hlen, hR⟩
      cases hvi with
      | nil => rw [List.zip_nil_left] at hz; cases hz
      | cons a hvi' =>
        cases hwi with
        | nil => rw [List.zip_nil_right] at hz; cases hz
        | cons c hwi' =>
          rw [List.zip_cons_cons] at hz
          injection hz with hyx hrest
          injection hyx with hy hx
          subst hy hx
          rename_i p ps us1 q qs ws1
          simp only [List.length_cons] at hlen
          cases hA : ltA p q with
          | none => simp [ltTup, hA] at hR
          | some t =>
            simp only [ltTup, hA] at hR
            obtain ⟨he, hri⟩ := ltA_run a c hA A.in1 ⟨hp, g, d, tk, os⟩
            refine wpAny_bind (he prog w _ _ ?_)
            cases hq : peq p q with
            | true =>
              rw [hq, if_pos rfl] at hR
              wp_walk
              exact ⟨rfl, rfl, _, _, _, _, hrest, hvi', hwi', by omega, hR⟩
            | false =>
              rw [hq, if_neg Bool.false_ne_true] at hR
              cases hR
              have hri := hri prog w
              wp_walk using hri
              exact ⟨_, rfl, by simpa using h⟩
    case fin =>
      rintro ⟨b1, b2⟩ s' ⟨hb', rfl, vs, ws, ns', ms', hz, hvi, hwi, hlen, hR⟩
      simp only at hb'
      subst hb'
      have hv : r = decide (items.size < items2.size) := by
        cases hvi with
        | nil =>
          cases hwi with
          | nil =>
            simp only [List.length_nil] at hlen
            cases hR
            exact (decide_eq_false (by omega)).symm
          | cons c hw =>
            simp only [List.length_nil, List.length_cons] at hlen
            cases hR
            exact (decide_eq_true (by omega)).symm
        | cons a hv =>
          cases hwi with
          | nil =>
            simp only [List.length_nil, List.length_cons] at hlen
            cases hR
            exact (decide_eq_false (by omega)).symm
          | cons c hw =>
            rw [List.zip_cons_cons] at hz
            cases hz
      rw [hv] at h
      wp_walk
      exact ⟨_, rfl, by simpa [Builtin.Tuple.tupleCompareSizes] using h⟩
    case h =>
      exact ⟨rfl, rfl, _, _, ns, ms, rfl, hi, hj, by omega, hr⟩
end
section
variable {prog : Program} {w : World} {A : Around} {E : Value → Shared → Prop} {s : Shared}
theorem lt_tupAtoms {l b : Addr} {items items2 : Array Value} {ns ms : List D} {r : Bool} {Q : Value → Shared → Prop} (hl : IsTup s.heap l items) (hb : IsTup s.heap b items2) (hi : AtomsAre ns items.toList) (hj : AtomsAre ms items2.toList) (hr : ltTup ns ms = some r)
    (hu : A.units < cLine) (h : Q (.bool r) s) : wpAny (model prog w) A (compareOp .Lt (.ref l) (.ref b)) Q E s := by
  obtain ⟨⟨cls, dd, data, sl⟩, ho, hc, n, hd⟩ := id hl
  obtain ⟨⟨cls2, dd2, data2, sl2⟩, ho2, hc2, n2, hd2⟩ := id hb
  simp only at hc hd hc2 hd2
  subst hc hd hc2 hd2
  exact richCompare_meets_room (op := .Lt) ⟨_, ho, rfl⟩ ⟨_, ho2, rfl⟩ PySem.F.slot_tuple_lt PySem.F.entry_tuple_lt (PySem.F.args_tuple_lt_2 _ _) (tuple_lt_atoms l b items items2 n n2 dd dd2 sl sl2 ns ms hi hj r hr)
    ⟨ho, ho2, show Value.bool r ≠ Value.notImplemented ∧ Q (.bool r) s from ⟨(fun z => nomatch z), h⟩⟩ hu
end
section
variable {K : PySem.W.Frag} {cA : ClA} {as : List Addr} {ow : Addr → Prop} {H : Hp} {st : Sto} {Q : VK}
theorem atoms_of : ∀ {ds : List D} {vs : List V} {us : List Value}, RepVs K as ow H vs ds → Vals vs us → ds.all isAtom = true → AtomsAre ds us
  | _, _, _, .nil, .nil, _ => .nil
  | d :: ds, _, _, .cons a r, .cons b t, h => by
    simp only [List.all_cons, Bool.and_eq_true] at h
    refine .cons ?_ (atoms_of r t h.2)
    cases a with
    | int i => obtain ⟨t, rfl⟩ := b; exact .int _ _
    | str s => obtain ⟨t, rfl⟩ := b; exact .str _ _
    | _ => cases h.1

/-! ### the operators -/
variable {X : Cx}
theorem snd_int (f : Int → Int → Option D) {o : Op} {g : Value → Value → Sem Value} (ho : ∀ st a b, opS st o a b = intS f a b) {C : Int → Int → Prop} {h : Int → Int → V} (hr : OpR X g (rI C h)) (hf : ∀ i j d, f i j = some d → C i j ∧ ∃ k : Int ⊕ Bool, (d = match k with | .inl n => .int n | .inr b => .bl b) ∧ h i j = match k with | .inl n => .int n | .inr b => .bl b) :
    OpR X g (rS K cA o) := by
  intro pins s σ H x y v u Q I rx ry hh
  obtain ⟨as, ow, st, a, b, d, R, ha, hb, e, out⟩ := hh
  rw [ho] at e
  cases a with
  | int i =>
    cases b with
    | int j =>
      obtain ⟨hC, k, hd, hk⟩ := hf i j d e
      refine hr pins s σ H x y v u Q I rx ry ⟨i, j, int_rd ha, int_rd hb, hC, ?_⟩
      cases k with
      | inl n => subst hd; rw [hk]; exact out.here R (.int n) rfl
      | inr n => subst hd; rw [hk]; exact out.here R (.bl n) rfl
    | _ => cases e
  | _ => cases e
theorem rI_of0 {g : Value → Value → Sem Value} {h : Int → Int → V} (hr : OpR X g (rI0 h)) : OpR X g (rI (fun _ _ => True) h) := by
  intro pins s σ H x y v u Q I rx ry hh
  obtain ⟨i, j, a, b, _, q⟩ := hh
  exact hr pins s σ H x y v u Q I rx ry ⟨i, j, a, b, q⟩
theorem snd_sub : OpR X (binaryOp .Sub) (rS K cA .sub) := snd_int _ (fun _ _ _ => rfl) (rI_of0 op_sub) fun i j d e => by cases e; exact ⟨trivial, .inl _, rfl, rfl⟩
theorem snd_fdiv : OpR X (binaryOp .FloorDiv) (rS K cA .fdiv) := snd_int _ (fun _ _ _ => rfl) op_fdiv fun i j d e => by
  split at e
  · rename_i q; cases e; exact ⟨q, .inl _, rfl, rfl⟩
  · cases e
theorem snd_mod : OpR X (binaryOp .Mod) (rS K cA .mod) := snd_int _ (fun _ _ _ => rfl) op_mod fun i j d e => by
  split at e
  · rename_i q; cases e; exact ⟨q, .inl _, rfl, rfl⟩
  · cases e
theorem snd_pow : OpR X (binaryOp .Pow) (rS K cA .pow) := snd_int _ (fun _ _ _ => rfl) op_pow fun i j d e => by
  split at e
  · rename_i q; cases e; exact ⟨q, .inl _, rfl, rfl⟩
  · cases e
theorem snd_gt : OpR X (compareOp .Gt) (rS K cA .gt) := snd_int _ (fun _ _ _ => rfl) (rI_of0 op_gt) fun i j d e => by cases e; exact ⟨trivial, .inr _, rfl, rfl⟩
theorem snd_le : OpR X (compareOp .LtE) (rS K cA .le) := snd_int _ (fun _ _ _ => rfl) (rI_of0 op_le) fun i j d e => by cases e; exact ⟨trivial, .inr _, rfl, rfl⟩
theorem snd_ge : OpR X (compareOp .GtE) (rS K cA .ge) := snd_int _ (fun _ _ _ => rfl) (rI_of0 op_ge) fun i j d e => by cases e; exact ⟨trivial, .inr _, rfl, rfl⟩
theorem snd_add : OpR X (binaryOp .Add) (rS X.K cA .add) := by
  intro pins s σ H x y v u Q I rx ry hh
  obtain ⟨as, ow, st, a, b, d, R, ha, hb, e, out⟩ := hh
  have lists : (∃ xs ys, lsP st a = some xs ∧ lsP st b = some ys ∧ xs.length + ys.length ≤ 16777216 ∧ d = .ol (xs ++ ys)) → wpAny (model X.prog X.w) X.A (binaryOp .Add v u) (EP X pins σ Q) X.xe s := by
    rintro ⟨xs, ys, h1, h2, hl, rfl⟩
    obtain ⟨p, vs, rfl, hp, r1⟩ := lsP_rd R ha h1
    obtain ⟨q, ws, rfl, hq, r2⟩ := lsP_rd R hb h2
    refine op_cat pins s σ H _ _ v u Q I rx ry ⟨p, q, vs, ws, rfl, rfl, hp, hq, by rw [r1.length, r2.length, sizeLine_eq]; exact hl, fun r hr => out.newL R (r1.append r2) hr⟩
  have e : addS st a b = some d := e
  unfold addS at e
  split at e
  · cases e
    exact op_add pins s σ H x y v u Q I rx ry ⟨_, _, int_rd ha, int_rd hb, out.here R (.int _) rfl⟩
  · split at e
    · rename_i hl
      cases e
      refine op_add_str pins s σ H x y v u Q I rx ry ⟨_, _, str_rd ha, str_rd hb, by rw [toStr_len, toStr_len, sizeLine_eq]; exact hl, ?_⟩
      rw [← toStr_app]
      exact out.here R (.str _) rfl
    · cases e
  · split at e
    · rename_i hl
      cases e
      obtain ⟨p, vs, rfl, hp, r1⟩ := tup_rd ha
      obtain ⟨q, ws, rfl, hq, r2⟩ := tup_rd hb
      refine op_catA pins s σ H _ _ v u Q I rx ry ⟨p, q, vs, ws, rfl, rfl, .of hp, .of hq, by rw [r1.length, r2.length, sizeLine_eq]; exact hl, fun z => ?_, fun z1 z2 => ?_, fun _ _ r hr => out.newT R (r1.append r2) hr⟩
      · subst z; cases r1; exact out.here R (.tup hq (by simpa using r2)) rfl
      · subst z2; cases r2; exact out.here R (.tup hp (by simpa using r1)) rfl
    · cases e
  · split at e
    · rename_i h1 h2
      split at e
      · rename_i hl; cases e; exact lists ⟨_, _, h1, h2, hl, rfl⟩
      · cases e
    · cases e
theorem snd_mul : OpR X (binaryOp .Mult) (rS X.K cA .mul) := by
  intro pins s σ H x y v u Q I rx ry hh
  obtain ⟨as, ow, st, a, b, d, R, ha, hb, e, out⟩ := hh
  have e : mulS st a b = some d := e
  unfold mulS at e
  split at e
  · split at e
    · rename_i hl; cases e
      exact op_mul pins s σ H x y v u Q I rx ry ⟨_, _, int_rd ha, int_rd hb, hl, out.here R (.int _) rfl⟩
    · cases e
  · split at e
    · rename_i h1
      split at e
      · rename_i hl
        cases e
        obtain ⟨p, vs, rfl, hp, r1⟩ := lsP_rd R ha h1
        have eb := int_rd hb
        exact op_rep pins s σ H _ y v u Q I rx ry ⟨p, _, vs, rfl, eb, hp, hl.1, hl.2.1, by rw [r1.length, sizeLine_eq]; exact hl.2.2, fun r hr => out.newL R (r1.rep _) hr⟩
      · cases e
    · cases e
  · cases e
theorem snd_eq (hu : X.A.units + 64 < cLine) : OpR X (compareOp .Eq) (rS X.K cA .eq) := by
  intro pins s σ H x y v u Q I rx ry hh
  obtain ⟨as, ow, st, a, b, d, R, ha, hb, e, out⟩ := hh
  have e : (eqS st a b).map D.bl = some d := e
  cases h : eqS st a b with
  | none => rw [h] at e; cases e
  | some r =>
    rw [h] at e; cases e
    obtain ⟨p, q, h1, h2, h3, h4, h5⟩ := eq_rd R ha hb h
    exact op_eqD hu pins s σ H x y v u Q I rx ry ⟨p, q, h1, h2, h3, h4, by rw [h5]; exact out.here R (.bl _) rfl⟩
theorem snd_ne (hu : X.A.units + 64 < cLine) : OpR X (compareOp .NotEq) (rS X.K cA .ne) := by
  intro pins s σ H x y v u Q I rx ry hh
  obtain ⟨as, ow, st, a, b, d, R, ha, hb, e, out⟩ := hh
  have e : (eqS st a b).map (fun r => D.bl (!r)) = some d := e
  cases h : eqS st a b with
  | none => rw [h] at e; cases e
  | some r =>
    rw [h] at e; cases e
    obtain ⟨p, q, h1, h2, h3, h4, h5⟩ := eq_rd R ha hb h
    exact op_neD hu pins s σ H x y v u Q I rx ry ⟨p, q, h1, h2, h3, h4, by rw [h5]; exact out.here R (.bl _) rfl⟩
theorem ltTup_atoms : ∀ {xs ys : List D} {r : Bool}, ltTup xs ys = some r → True := fun _ => trivial
theorem snd_lt (hu : X.A.units < cLine) : OpR X (compareOp .Lt) (rS X.K cA .lt) := by
  intro pins s σ H x y v u Q I rx ry hh
  obtain ⟨as, ow, st, a, b, d, R, ha, hb, e, out⟩ := hh
  have e : (ltD a b).map D.bl = some d := e
  cases h : ltD a b with
  | none => rw [h] at e; cases e
  | some r =>
    rw [h] at e; cases e
    unfold ltD at h
    split at h
    · rename_i xs ys
      split at h
      · rename_i hat
        obtain ⟨p, vs, rfl, hp, r1⟩ := tup_rd ha
        obtain ⟨q, ws, rfl, hq, r2⟩ := tup_rd hb
        cases rx
        cases ry
        simp only [Bool.and_eq_true] at hat
        obtain ⟨its, rv, t1, _⟩ := I.tuple (.of hp)
        obtain ⟨its2, rv2, t2, _⟩ := I.tuple (.of hq)
        exact lt_tupAtoms t1 t2 (by simpa using atoms_of r1 rv hat.1) (by simpa using atoms_of r2 rv2 hat.2) h hu ⟨.bl r, H, I, rfl, out.here R (.bl _) rfl⟩
      · cases h
    · unfold ltA at h
      split at h
      · cases h
        exact op_lt pins s σ H x y v u Q I rx ry ⟨_, _, int_rd ha, int_rd hb, out.here R (.bl _) rfl⟩
      · cases h
        refine op_lt_str pins s σ H x y v u Q I rx ry ⟨_, _, str_rd ha, str_rd hb, ?_⟩
        rw [toStr_tl, toStr_tl, ← ltStr_eq]
        exact out.here R (.bl _) rfl
      · cases h
end
end CM
end
section
set_option linter.all false
set_option maxRecDepth 100000
set_option maxHeartbeats 4000000
namespace CM
open PySem PySem.Spec PyProof.Rows L2
section
variable {K : PySem.W.Frag} {cA : ClA} {as : List Addr} {ow : Addr → Prop} {H : Hp} {st : Sto} {Q : VK} {X : Cx}
theorem flat0 {d : D} {v : V} (o : okd 0 d = true) (h : RepV K as ow H v d) : flatV v = true := by
  cases h <;> first | rfl | simp [okd] at o
theorem eqV_peq {a b : D} {v w : V} (oa : okd 0 a = true) (ob : okd 0 b = true) (ha : RepV K as ow H v a) (hb : RepV K as ow H w b) : eqV v w = peq a b := by
  cases ha with
  | str s =>
    cases hb with
    | str t =>
      show (toStr s == toStr t) = (s == t)
      by_cases q : s = t
      · subst q; simp
      · rw [beq_false_of_ne q, beq_false_of_ne fun z => q (toStr_inj z)]
    | tup _ _ => simp [okd] at ob
    | fl _ _ _ _ => simp [okd] at ob
    | sc _ _ => simp [okd] at ob
    | fdk _ _ _ _ => simp [okd] at ob
    | fdt _ _ _ _ => simp [okd] at ob
    | ref _ => simp [okd] at ob
    | _ => rfl
  | tup _ _ => simp [okd] at oa
  | fl _ _ _ _ => simp [okd] at oa
  | sc _ _ => simp [okd] at oa
  | fdk _ _ _ _ => simp [okd] at oa
  | fdt _ _ _ _ => simp [okd] at oa
  | ref _ => simp [okd] at oa
  | _ =>
    cases hb with
    | tup _ _ => simp [okd] at ob
    | fl _ _ _ _ => simp [okd] at ob
    | sc _ _ => simp [okd] at ob
    | fdk _ _ _ _ => simp [okd] at ob
    | fdt _ _ _ _ => simp [okd] at ob
    | ref _ => simp [okd] at ob
    | _ => rfl
theorem flats0 : ∀ {ds : List D} {vs : List V}, okds 0 ds = true → RepVs K as ow H vs ds → vs.all flatV = true
  | _, _, _, .nil => rfl
  | _, _, o, .cons a r => by
    simp only [okds, Bool.and_eq_true] at o
    simp [flat0 o.1 a, flats0 o.2 r]
theorem inV_any {a : D} {v : V} (oa : okd 0 a = true) (ha : RepV K as ow H v a) : ∀ {ds : List D} {vs : List V}, okds 0 ds = true → RepVs K as ow H vs ds → inV v vs = ds.any fun x => peq x a
  | _, _, _, .nil => rfl
  | _, _, o, .cons b r => by
    simp only [okds, Bool.and_eq_true] at o
    unfold inV
    simp only [List.any_cons]
    rw [eqV_peq o.1 oa b ha]
    have := inV_any oa ha o.2 r
    unfold inV at this
    rw [this]
theorem repV_of {d : D} {v : V} (h : RepX K as ow H v d) (f : free d = true) : RepV K as ow H v d := by
  cases d <;> first | exact h | cases f
theorem free_okd {n : Nat} {d : D} (h : okd 0 d = true) : free d = true := by
  cases d <;> simp [okd] at h <;> rfl
theorem dps_drf (R : Rel K cA as ow H st) (n : Nat) : ∀ (ds : List D) (m : Nat) {vs : List V}, okds m (ds.map (drf st n)) = true → RepVs K as ow H vs ds → DpAll K H vs (pyDs (ds.map (drf st n)))
  | [], _, _, _, h => by cases h; exact .nil
  | d :: r, m, _, o, h => by
    simp only [List.map_cons, okds, Bool.and_eq_true] at o
    cases h with
    | cons a b =>
      refine .cons (dp_drf R n d m o.1 ?_) (dps_drf R n r m o.2 b)
      cases d <;> first | exact a | cases a
theorem any_eqv (a : D) (n : Nat) (oa : okd n a = true) : ∀ (ds : List D) (m : Nat), okds m ds = true → ((pyDs ds).any fun z => PyData.eqv z (pyD a)) = ds.any fun x => peq x a
  | [], _, _ => rfl
  | d :: r, m, o => by
    simp only [okds, Bool.and_eq_true] at o
    simp only [pyDs, List.any_cons]
    rw [eqv_peq d a m n o.1 oa, any_eqv a n oa r m o.2]
theorem shaped_n {n : Nat} {d : D} (hn : n ≤ 60) (h : okd n d = true) : SeqAt.shaped (pyD d) = true := by
  obtain ⟨a, b⟩ := lay_ok n d h
  unfold SeqAt.shaped
  rw [a, decide_eq_true (by omega)]; rfl
theorem shaped_list {n : Nat} {ds : List D} (hn : n ≤ 58) (h : okds n ds = true) : SeqAt.shaped (.list (pyDs ds)) = true :=
  shaped_n (d := .fl ds) (n := n + 1) (by omega) (by simp [okd, h])
/-- in, not in: what is asked -/
theorem in_rd (hu : X.A.units + 65 < cLine) {pins : List (Addr × Obj)} {σ : L2.St} {s : Shared} {x y : V} {v u : Value} {a b : D} {r : Bool} (I : Inv X pins σ H s) (rx : RelV x v) (ry : RelV y u) (R : Rel X.K cA as ow H st) (ha : RepX X.K as ow H x a) (hb : RepX X.K as ow H y b) (e : inS st a b = some r)
    (k : Bool) (Q : VK) (q : Q (.bl (if k then r else !r)) H) : wpAny (model X.prog X.w) X.A (compareOp (if k then .In else .NotIn) v u) (EP X pins σ Q) X.xe s := by
  unfold inS at e
  split at e
  · rename_i c z
    cases e
    have e1 := str_rd ha
    have e2 := str_rd hb
    have em : decide (c.toNat ∈ (toStr z).cps.toList) = decide (c ∈ z) := by
      rw [toStr_tl]
      congr 1
      apply propext
      constructor
      · intro h
        obtain ⟨d, h1, h2⟩ := List.mem_map.mp h
        rw [← char_inj h2]; exact h1
      · exact fun h => List.mem_map_of_mem h
    cases k with
    | true => exact op_in_sign pins s σ H x y v u Q I rx ry ⟨c.toNat, toStr z, e1, e2, by rw [em]; exact q⟩
    | false => exact op_notIn_sign pins s σ H x y v u Q I rx ry ⟨c.toNat, toStr z, e1, e2, by rw [em]; exact q⟩
  · rename_i xs _
    split at e
    · rename_i o
      simp only [Bool.and_eq_true] at o
      cases e
      obtain ⟨p, vs, rfl, hp, r1⟩ := tup_rd hb
      have hav := repV_of ha (free_okd (n := 0) o.1)
      have ei := inV_any o.1 hav o.2 r1
      cases k with
      | true => exact op_in_seq pins s σ H x _ v u Q I rx ry ⟨p, vs, rfl, .inr (.of hp), flat0 o.1 hav, flats0 o.2 r1, by rw [if_neg Bool.false_ne_true, ei]; exact q⟩
      | false => exact op_notIn_seq pins s σ H x _ v u Q I rx ry ⟨p, vs, rfl, .inr (.of hp), flat0 o.1 hav, flats0 o.2 r1, by rw [if_pos rfl, ei]; exact q⟩
    · cases e
  · split at e
    · rename_i t kvs hd
      cases hk : keyOf t a with
      | none => rw [hk] at e; cases e
      | some ky =>
        rw [hk] at e; cases e
        obtain ⟨p, o, rfl, g, ho⟩ := dc_get R hb hd ha hk
        obtain rfl : u = Value.ref p := ry
        have eo : o.isSome = dHas ky kvs := by
          unfold dHas
          rcases ho with ⟨h1, h2⟩ | ⟨w, c, h1, h2, _⟩ <;> rw [h1, h2] <;> rfl
        cases k with
        | true => exact d_in (by omega) I g rx fun s3 I3 => ⟨.bl o.isSome, H, I3, rfl, by rw [eo]; exact q⟩
        | false => exact d_notIn (by omega) I g rx fun s3 I3 => ⟨.bl (!o.isSome), H, I3, rfl, by rw [eo]; exact q⟩
    · split at e
      · rename_i xs hl
        obtain ⟨p, vs, rfl, hp, r1⟩ := ls_rd R hb hl
        have fin : ∀ (d : PyData) (ds : List PyData), Dp X.K H x d → DpAll X.K H vs ds → SeqAt.shaped d = true → SeqAt.shaped (.list ds) = true → (ds.any fun z => PyData.eqv z d) = r →
            wpAny (model X.prog X.w) X.A (compareOp (if k then .In else .NotIn) v u) (EP X pins σ Q) X.xe s := by
          intro d ds h1 h2 h3 h4 h5
          cases k with
          | true => exact op_inD hu pins s σ H x _ v u Q I rx ry ⟨d, ds, h1, .lst hp h2, h3, h4, by rw [h5]; exact q⟩
          | false => exact op_notInD hu pins s σ H x _ v u Q I rx ry ⟨d, ds, h1, .lst hp h2, h3, h4, by rw [h5]; exact q⟩
        split at e
        · rename_i o
          simp only [Bool.and_eq_true] at o
          cases e
          exact fin _ _ (dp_of a 59 o.1 ha) (dps_of xs 58 o.2 r1) (shaped_n (by omega) o.1) (shaped_list (by omega) o.2) (any_eqv a 59 o.1 xs 58 o.2)
        · split at e
          · rename_i o
            simp only [Bool.and_eq_true] at o
            cases e
            exact fin _ _ (dp_drf R 60 a 59 o.1 ha) (dps_drf R 59 xs 58 o.2 r1) (shaped_n (by omega) o.1) (shaped_list (by omega) o.2) (any_eqv _ 59 o.1 _ 58 o.2)
          · cases e
      · cases e
theorem snd_in (hu : X.A.units + 65 < cLine) : OpR X (compareOp .In) (rS X.K cA .isin) := by
  intro pins s σ H x y v u Q I rx ry hh
  obtain ⟨as, ow, st, a, b, d, R, ha, hb, e, out⟩ := hh
  have e : (inS st a b).map D.bl = some d := e
  cases h : inS st a b with
  | none => rw [h] at e; cases e
  | some r => rw [h] at e; cases e; exact in_rd hu I rx ry R ha hb h true Q (out.here R (.bl _) rfl)
theorem snd_notin (hu : X.A.units + 65 < cLine) : OpR X (compareOp .NotIn) (rS X.K cA .notin) := by
  intro pins s σ H x y v u Q I rx ry hh
  obtain ⟨as, ow, st, a, b, d, R, ha, hb, e, out⟩ := hh
  have e : (inS st a b).map (fun r => D.bl (!r)) = some d := e
  cases h : inS st a b with
  | none => rw [h] at e; cases e
  | some r => rw [h] at e; cases e; exact in_rd hu I rx ry R ha hb h false Q (out.here R (.bl _) rfl)
theorem subTail {prog : Program} {w : World} {A : Around} {E : Value → Shared → Prop} {s : Shared} {value slice : Expr} {o i : Value} {T id : String} {Q : Value → Shared → Prop} (hT : s.TypeIs o T)
    (hl : typeLookup (.type T) "__getitem__" = pure (some (.builtin id))) (h : wpAny (model prog w) A (getItem o i) Q E s) (hs : subscripted slice false o i = operate [o, i] (getItem o i)) :
    wpAny (model prog w) A (subscriptTail value slice o i) Q E s := by
  unfold subscriptTail
  refine wpAny_bind ?_
  rw [getitemInPython_of_ne hT.not_modules]
  refine wpAny_bind (wpAny_specialOf hT hl ?_)
  have fin : wpAny (model prog w) A (subscripted slice false o i) (fun r s₃ => wpAny (model prog w) A (letTemporaryGo value o r >>= fun _ => pure r) Q E s₃) E s := by
    rw [hs]
    exact wpAny_operating (wpAny_mono h (fun r s₃ h₃ => wpAny_bind (wpAny_letTemporaryGo (wpAny_pure h₃))) fun _ _ x => x)
  first
    | exact wpAny_pure (wpAny_bind fin)
    | exact wpAny_bind (wpAny_pure (wpAny_bind fin))
    | exact wpAny_bind fin
/-- a dict subscripted -/
theorem ix_dict (hu : X.A.units + 1 < cLine) : IxR X (fun x y H Q => ∃ a v, x = .ref a ∧ DGet H a y (some v) ∧ Q v H) := by
  intro value slice pins s σ H x y v u Q I rx ry h hs
  obtain ⟨a, w, rfl, g, q⟩ := h
  obtain rfl : v = Value.ref a := rx
  exact subTail (dict_typeIs I g) PySem.F.slot_dict_getitem.lookup (d_getItem hu I g ry fun w' s3 I3 rw' => ⟨w, H, I3, rw', q⟩) hs
theorem atI_rd {xs : List D} {vs : List V} {i : Int} {d : D} (r : RepVs K as ow H vs xs) (e : atI xs i = some d) : ∃ v, L2.atI vs i = some v ∧ RepV K as ow H v d := by
  unfold atI at e
  unfold L2.atI
  rw [r.length]
  cases h : ixN xs.length i with
  | none => rw [h] at e; cases e
  | some j =>
    rw [h] at e
    exact r.get e
theorem rep_free {d : D} {v : V} (h : RepV K as ow H v d) : free d = true := by cases h <;> rfl
theorem snd_idx (hu : X.A.units + 65 < cLine) : IxR X (rS X.K cA .idx) := by
  intro value slice pins s σ H x y v u Q I rx ry hh hs
  obtain ⟨as, ow, st, a, b, d, R, ha, hb, e, out⟩ := hh
  replace e : idxS st a b = some d := e
  have lists : ∀ xs i, lsOf st a = some xs → b = .int i → atI xs i = some d → wpAny (model X.prog X.w) X.A (subscriptTail value slice v u) (EP X pins σ Q) X.xe s := by
    intro xs i h1 h2 h3
    subst h2
    obtain ⟨p, vs, rfl, hp, r1⟩ := ls_rd R ha h1
    obtain ⟨w, h4, h5⟩ := atI_rd r1 h3
    exact ix_list value slice pins s σ H _ y v u Q I rx ry ⟨p, vs, i, w, rfl, int_rd hb, hp, h4, out.here R h5 (rep_free h5)⟩ hs
  unfold idxS at e
  split at e
  · rename_i z i
    split at e
    · rename_i hl
      cases h : (ixN z.length i).bind fun j => z[j]? with
      | none => rw [h] at e; cases e
      | some c =>
        rw [h] at e; cases e
        refine ix_str value slice pins s σ H x y v u Q I rx ry ⟨toStr z, i, c.toNat, str_rd ha, int_rd hb, by rw [toStr_len, sizeLine_eq]; exact hl, ?_, out.here R (.str [c]) rfl⟩ hs
        unfold L2.atI
        rw [toStr_tl, List.length_map]
        cases h2 : ixN z.length i with
        | none => rw [h2] at h; cases h
        | some j =>
          rw [h2] at h
          have h : z[j]? = some c := h
          show (z.map Char.toNat)[j]? = some c.toNat
          rw [List.getElem?_map, h]; rfl
    · cases e
  · rename_i xs i
    obtain ⟨p, vs, rfl, hp, r1⟩ := tup_rd ha
    obtain ⟨w, h4, h5⟩ := atI_rd r1 e
    exact ix_tup value slice pins s σ H _ y v u Q I rx ry ⟨p, vs, i, w, rfl, int_rd hb, .of hp, h4, out.here R h5 (rep_free h5)⟩ hs
  · split at e
    · rename_i t kvs hd
      cases hk : keyOf t b with
      | none => rw [hk] at e; cases e
      | some ky =>
        rw [hk] at e
        have e : dGet ky kvs = some d := e
        obtain ⟨p, o, rfl, g, ho⟩ := dc_get R ha hd hb hk
        rcases ho with ⟨h1, h2⟩ | ⟨w, c, h1, h2, h3⟩
        · rw [h2] at e; cases e
        · rw [h2] at e; cases e
          subst h1
          exact ix_dict (by omega) value slice pins s σ H _ y v u Q I rx ry ⟨p, w, rfl, g, out.here R h3 (rep_free h3)⟩ hs
    · split at e
      · exact lists _ _ (by assumption) rfl e
      · cases e
end
end CM
end
section
set_option linter.all false
set_option maxRecDepth 100000
set_option maxHeartbeats 4000000
namespace CM
open PySem PySem.Spec PyProof.Rows L2
section
variable (K : PySem.W.Frag) (cA : ClA)
abbrev RepXs (as : List Addr) (ow : Addr → Prop) (H : Hp) : List V → List D → Prop := Paired (RepX K as ow H)
def rB (b : Bi) : List V → Hp → VK → Prop := fun vs H Q => ∃ as ow st ds d, Rel K cA as ow H st ∧ RepXs K as ow H vs ds ∧ biS st b ds = some d ∧ Out K cA as ow H st d Q
end
theorem toDigits_len (s : String) : True := trivial
theorem strInt_eq {i : Int} (h : 0 ≤ i) : (toString i : Str) = toStr (strInt i) := by
  obtain ⟨n, rfl⟩ := Int.eq_ofNat_of_zero_le h
  apply Str.ext'
  apply Array.toList_inj.mp
  have e := TL.tl_num n
  show TL.tl (Str.ofString (toString ((n : Nat) : Int))) = _
  rw [e, toStr_tl]
  unfold strInt TL.numL
  rw [if_neg (by omega)]
  simp
section
variable {cA : ClA} {as : List Addr} {ow : Addr → Prop} {H : Hp} {st : Sto} {Q : VK} {X : Cx}
theorem rx1 {K : PySem.W.Frag} {vs : List V} {d : D} (h : RepXs K as ow H vs [d]) : ∃ v, vs = [v] ∧ RepX K as ow H v d := by
  cases h with | cons a r => cases r; exact ⟨_, rfl, a⟩
theorem rx2 {K : PySem.W.Frag} {vs : List V} {d e : D} (h : RepXs K as ow H vs [d, e]) : ∃ v w, vs = [v, w] ∧ RepX K as ow H v d ∧ RepX K as ow H w e := by
  cases h with | cons a r => cases r with | cons b r => cases r; exact ⟨_, _, rfl, a, b⟩
theorem dc_rd {K : PySem.W.Frag} (R : Rel K cA as ow H st) {v : V} {d : D} {t : Bool} {ks : List (Ky × D)} (h : RepX K as ow H v d) (hd : dcOf st d = some (t, ks)) :
    (t = false ∧ ∃ p kvs, v = .ref p ∧ Rd H p (.dK kvs) ∧ RepK K as ow H kvs ks) ∨ (t = true ∧ ∃ p kvs, v = .ref p ∧ Rd H p (.dT kvs) ∧ RepT K as ow H kvs ks) := by
  cases d with
  | od t' ks' =>
    cases hd
    cases t with
    | false => obtain ⟨p, kvs, q1, _, q2, q3⟩ := h; exact .inl ⟨rfl, p, kvs, q1, .of q2, q3⟩
    | true => obtain ⟨p, kvs, q1, _, q2, q3⟩ := h; exact .inr ⟨rfl, p, kvs, q1, .of q2, q3⟩
  | fd t' ks' =>
    cases hd
    cases h with
    | fdk a _ _ r => exact .inl ⟨rfl, _, _, rfl, a, r⟩
    | fdt a _ _ r => exact .inr ⟨rfl, _, _, rfl, a, r⟩
  | ref n =>
    cases h with
    | ref ea =>
      cases ec : st[n]? with
      | none => simp [dcOf, ec] at hd
      | some c =>
        simp only [dcOf, ec] at hd
        cases c with
        | dct t' ks' =>
          cases hd
          have rc := R.cell n _ _ ec ea
          cases t with
          | false => obtain ⟨kvs, h1, h2⟩ := rc; exact .inl ⟨rfl, _, kvs, rfl, .of h1, h2⟩
          | true => obtain ⟨kvs, h1, h2⟩ := rc; exact .inr ⟨rfl, _, kvs, rfl, .of h1, h2⟩
        | _ => cases hd
  | _ => cases hd
theorem RepK.length {K : PySem.W.Frag} : ∀ {kvs : List (Key × V)} {ks : List (Ky × D)}, RepK K as ow H kvs ks → kvs.length = ks.length
  | _, _, .nil => rfl
  | _, _, .cons _ r => by simp [RepK.length r]
theorem RepT.length {K : PySem.W.Frag} : ∀ {kvs : List (List Key × V)} {ks : List (Ky × D)}, RepT K as ow H kvs ks → kvs.length = ks.length
  | _, _, .nil => rfl
  | _, _, .cons _ r => by simp [RepT.length r]
/-- len of a dict whose keys are tuples -/
theorem dt_len {pins : List (Addr × Obj)} {σ : L2.St} {s : Shared} {a : Addr} {kvs : List (List Key × V)} {Q : Value → Shared → Prop} (I : Inv X pins σ H s) (e : Rd H a (.dT kvs)) (h : ∀ t s', Inv X pins σ H s' → Q (.int kvs.length t) s') :
    wpAny (model X.prog X.w) X.A (call (.builtin "len") [.ref a]) Q X.xe s := by
  obtain ⟨z, hd, ys, rel, dd⟩ := dt_rd I.hok e
  have hl : kvs.length = ys.length := Paired.length rel
  refine call_len_dictH hd dd (by rw [← hl]; rw [sizeLine_eq] at z; omega) ?_
  rw [← hl]
  exact h _ _ (I.tok _)
theorem one_of {b : Bi} {f : D → Option D} (h0 : ∀ st, biS st b [] = none) (h2 : ∀ st x y r, biS st b (x :: y :: r) = none) (h1 : ∀ st x, biS st b [x] = f x → True) {st : Sto} {ds : List D} {d : D} (e : biS st b ds = some d) : ∃ x, ds = [x] := by
  match ds with
  | [] => rw [h0] at e; cases e
  | [x] => exact ⟨x, rfl⟩
  | x :: y :: r => rw [h2] at e; cases e
theorem snd_len : CallR X (.builtin "len") (rB X.K cA .len) := by
  intro pins s σ H vs us Q I r hh
  obtain ⟨as, ow, st, ds, d, R, ha, e, out⟩ := hh
  match ds, e with
  | [], e => simp [biS] at e
  | _ :: _ :: _, e => simp [biS] at e
  | [a], e =>
    replace e : lenS st a = some d := e
    obtain ⟨x, rfl, hx⟩ := rx1 ha
    unfold lenS at e
    split at e
    · split at e
      · rename_i hl
        cases e
        exact call_len pins s σ H _ us Q I r ⟨_, _, rfl, by rw [str_rd hx]; exact ⟨by rw [toStr_len, sizeLine_eq]; exact hl, rfl⟩, by rw [toStr_len]; exact out.here R (.int _) rfl⟩
      · cases e
    · cases e
      obtain ⟨p, ws, rfl, hp, r1⟩ := tup_rd hx
      exact call_len pins s σ H _ us Q I r ⟨_, _, rfl, .inr ⟨ws, .of hp, rfl⟩, by rw [r1.length]; exact out.here R (.int _) rfl⟩
    · split at e
      · rename_i hl
        cases e
        obtain ⟨p, ws, rfl, hp, r1⟩ := ls_rd R hx hl
        exact call_len pins s σ H _ us Q I r ⟨_, _, rfl, .inl ⟨ws, hp, rfl⟩, by rw [r1.length]; exact out.here R (.int _) rfl⟩
      · rename_i hl
        cases hd : dcOf st a with
        | none => rw [hd] at e; cases e
        | some z =>
          obtain ⟨t, ks⟩ := z
          rw [hd] at e; cases e
          rcases dc_rd R hx hd with ⟨_, p, kvs, rfl, rd, rk⟩ | ⟨_, p, kvs, rfl, rd, rk⟩
          · obtain ⟨u, rfl, ru⟩ := vals1 r
            obtain rfl : u = .ref p := ru
            exact d_len I rd fun t s' I' => ⟨.int _, H, I', ⟨_, rfl⟩, by rw [rk.length]; exact out.here R (.int _) rfl⟩
          · obtain ⟨u, rfl, ru⟩ := vals1 r
            obtain rfl : u = .ref p := ru
            exact dt_len I rd fun t s' I' => ⟨.int _, H, I', ⟨_, rfl⟩, by rw [rk.length]; exact out.here R (.int _) rfl⟩
theorem snd_intB : CallR X (.type "int") (rB X.K cA .int) := by
  intro pins s σ H vs us Q I r hh
  obtain ⟨as, ow, st, ds, d, R, ha, e, out⟩ := hh
  match ds, e with
  | [], e => simp [biS] at e
  | _ :: _ :: _, e => simp [biS] at e
  | [a], e =>
    replace e : intB a = some d := e
    obtain ⟨x, rfl, hx⟩ := rx1 ha
    unfold intB at e
    split at e
    · cases e
      exact call_int1 pins s σ H _ us Q I r (.inl ⟨_, by rw [int_rd hx], out.here R (.int _) rfl⟩)
    · cases e
      exact call_int1 pins s σ H _ us Q I r (.inr ⟨_, by rw [bl_rd hx], out.here R (.int _) rfl⟩)
    · rename_i z
      cases h : intStr z with
      | none => rw [h] at e; cases e
      | some n =>
        rw [h] at e; cases e
        unfold intStr at h
        split at h
        · rename_i hl
          exact call_int_str pins s σ H _ us Q I r ⟨_, n, by rw [str_rd hx], h, by rw [toStr_len]; exact hl, out.here R (.int _) rfl⟩
        · cases h
    · cases e
theorem snd_strB : CallR X (.type "str") (rB X.K cA .str) := by
  intro pins s σ H vs us Q I r hh
  obtain ⟨as, ow, st, ds, d, R, ha, e, out⟩ := hh
  match ds, e with
  | [], e => simp [biS] at e
  | _ :: _ :: _, e => simp [biS] at e
  | [a], e =>
    replace e : strB a = some d := e
    obtain ⟨x, rfl, hx⟩ := rx1 ha
    unfold strB at e
    split at e
    · split at e
      · rename_i hl
        cases e
        exact call_str_int pins s σ H _ us Q I r ⟨_, by rw [int_rd hx], hl.2, by rw [strInt_eq hl.1]; exact out.here R (.str _) rfl⟩
      · cases e
    · cases e
theorem snd_tupB : CallR X (.type "tuple") (rB X.K cA .tuple) := by
  intro pins s σ H vs us Q I r hh
  obtain ⟨as, ow, st, ds, d, R, ha, e, out⟩ := hh
  match ds, e with
  | [], e => simp [biS] at e
  | _ :: _ :: _, e => simp [biS] at e
  | [a], e =>
    replace e : tupB st a = some d := e
    obtain ⟨x, rfl, hx⟩ := rx1 ha
    unfold tupB at e
    split at e
    · cases e
      obtain ⟨p, ws, rfl, hp, r1⟩ := tup_rd hx
      exact call_tuple_of pins s σ H _ us Q I r ⟨p, ws, rfl, .inr ⟨.of hp, out.here R (.tup hp r1) rfl⟩⟩
    · cases h : lsOf st a with
      | none => rw [h] at e; cases e
      | some xs =>
        rw [h] at e; cases e
        obtain ⟨p, ws, rfl, hp, r1⟩ := ls_rd R hx h
        exact call_tuple_of pins s σ H _ us Q I r ⟨p, ws, rfl, .inl ⟨hp, fun l hl => out.newT R r1 hl⟩⟩
theorem keys_rd {K : PySem.W.Frag} : ∀ {kvs : List (List Key × V)} {ks : List (Ky × D)} {bs : List Addr}, RepT K as ow H kvs ks → IsKeys H kvs bs → RepVs K as ow H (bs.map V.ref) (ks.map fun p => kyD p.1)
  | _, _, _, .nil, h => by cases h; exact .nil
  | _, _, _, .cons (a := a) q r, h => by
    cases h with
    | cons h1 h2 =>
      refine .cons ?_ (keys_rd r h2)
      show RepV K as ow H _ (.tup (a.map kxD))
      refine .tup h1 ?_
      show RepVs K as ow H ((a.map kxK).map kV) (a.map kxD)
      clear h1 h2 q r
      induction a with
      | nil => exact .nil
      | cons x xs ih =>
        refine .cons ?_ ih
        cases x with
        | i n => exact .int n
        | s z => exact .str z
theorem snd_lstB (hc : X.calm = true) : CallR X (.type "list") (rB X.K cA .list) := by
  intro pins s σ H vs us Q I r hh
  obtain ⟨as, ow, st, ds, d, R, ha, e, out⟩ := hh
  match ds, e with
  | [], e => simp [biS] at e
  | _ :: _ :: _, e => simp [biS] at e
  | [a], e =>
    replace e : lstB st a = some d := e
    obtain ⟨x, rfl, hx⟩ := rx1 ha
    unfold lstB at e
    split at e
    · cases e
      obtain ⟨p, ws, rfl, hp, r1⟩ := tup_rd hx
      exact call_list_of pins s σ H _ us Q I r ⟨p, ws, rfl, .inr (.of hp), fun l hl => out.newL R r1 hl⟩
    · split at e
      · rename_i h
        cases e
        obtain ⟨p, ws, rfl, hp, r1⟩ := ls_rd R hx h
        exact call_list_of pins s σ H _ us Q I r ⟨p, ws, rfl, .inl hp, fun l hl => out.newL R r1 hl⟩
      · split at e
        · rename_i k hd
          cases e
          rcases dc_rd R hx hd with ⟨z, _⟩ | ⟨_, p, kvs, rfl, rd, rk⟩
          · cases z
          · exact call_list_dT hc pins s σ H _ us Q I r ⟨p, kvs, rfl, rd, fun q bs hq hk => out.newL R (keys_rd rk hk) hq⟩
        · cases e
theorem bls_rd {K : PySem.W.Frag} : ∀ {vs : List V} {ds : List D} {bs : List Bool}, RepVs K as ow H vs ds → blsOf ds = some bs → vs = bs.map V.bl
  | _, _, _, .nil, h => by cases h; rfl
  | _, _, _, .cons (d := d) (ds := ds) a r, h => by
    cases d with
    | bl b =>
      simp only [blsOf] at h
      cases h2 : blsOf ds with
      | none => rw [h2] at h; cases h
      | some cs =>
        rw [h2] at h; cases h
        cases a
        rw [bls_rd r h2]; rfl
    | _ => simp [blsOf] at h
theorem ints_rd {K : PySem.W.Frag} : ∀ {vs : List V} {ds : List D} {bs : List Int}, RepVs K as ow H vs ds → intsOf ds = some bs → vs = bs.map V.int
  | _, _, _, .nil, h => by cases h; rfl
  | _, _, _, .cons (d := d) (ds := ds) a r, h => by
    cases d with
    | int b =>
      simp only [intsOf] at h
      cases h2 : intsOf ds with
      | none => rw [h2] at h; cases h
      | some cs =>
        rw [h2] at h; cases h
        cases a
        rw [ints_rd r h2]; rfl
    | _ => simp [intsOf] at h
theorem strs_rd {K : PySem.W.Frag} : ∀ {vs : List V} {ds : List D} {bs : List (List Char)}, RepVs K as ow H vs ds → strsOf ds = some bs → vs = (bs.map toStr).map V.str
  | _, _, _, .nil, h => by cases h; rfl
  | _, _, _, .cons (d := d) (ds := ds) a r, h => by
    cases d with
    | str b =>
      simp only [strsOf] at h
      cases h2 : strsOf ds with
      | none => rw [h2] at h; cases h
      | some cs =>
        rw [h2] at h; cases h
        cases a
        rw [strs_rd r h2]; rfl
    | _ => simp [strsOf] at h
theorem snd_all (hc : X.calm = true) : CallR X (.builtin "all") (rB X.K cA .all) := by
  intro pins s σ H vs us Q I r hh
  obtain ⟨as, ow, st, ds, d, R, ha, e, out⟩ := hh
  match ds, e with
  | [], e => simp [biS] at e
  | _ :: _ :: _, e => simp [biS] at e
  | [a], e =>
    replace e : (((lsOf st a).bind blsOf).map fun bs => D.bl (bs.all id)) = some d := e
    obtain ⟨x, rfl, hx⟩ := rx1 ha
    cases h : lsOf st a with
    | none => rw [h] at e; cases e
    | some xs =>
      rw [h] at e
      cases h2 : blsOf xs with
      | none => simp [h2] at e
      | some bs =>
        simp only [Option.bind_some, h2, Option.map_some, Option.some.injEq] at e
        subst e
        obtain ⟨p, ws, rfl, hp, r1⟩ := ls_rd R hx h
        have ev := bls_rd r1 h2
        subst ev
        exact cr_all hc pins s σ H _ us Q I r ⟨p, bs, rfl, hp, out.here R (.bl _) rfl⟩
theorem maxL_max : ∀ {ns : List Int} {m : Int}, maxL ns = some m → m ∈ ns ∧ ∀ y ∈ ns, y ≤ m
  | [], _, h => by cases h
  | x :: r, m, h => by
    simp only [maxL] at h
    cases h2 : maxL r with
    | none =>
      rw [h2] at h; cases h
      have : r = [] := by
        cases r with
        | nil => rfl
        | cons y s =>
          simp only [maxL] at h2
          cases h3 : maxL s <;> rw [h3] at h2 <;> cases h2
      subst this; simp
    | some k =>
      rw [h2] at h
      obtain ⟨a, b⟩ := maxL_max h2
      simp only [Option.some.injEq] at h
      subst h
      refine ⟨?_, fun y hy => ?_⟩
      · split
        · exact List.mem_cons_of_mem _ a
        · exact List.mem_cons_self
      · rcases List.mem_cons.mp hy with rfl | hy
        · split <;> omega
        · have := b y hy
          split <;> omega
theorem snd_max1 (hc : X.calm = true) : CallR X (.builtin "max") (rB X.K cA .max1) := by
  intro pins s σ H vs us Q I r hh
  obtain ⟨as, ow, st, ds, d, R, ha, e, out⟩ := hh
  match ds, e with
  | [], e => simp [biS] at e
  | _ :: _ :: _, e => simp [biS] at e
  | [a], e =>
    replace e : (((lsOf st a).bind intsOf).bind maxL).map D.int = some d := e
    obtain ⟨x, rfl, hx⟩ := rx1 ha
    cases h : lsOf st a with
    | none => rw [h] at e; cases e
    | some xs =>
      rw [h] at e
      cases h2 : intsOf xs with
      | none => simp [h2] at e
      | some ns =>
        simp only [Option.bind_some, h2] at e
        cases h3 : maxL ns with
        | none => rw [h3] at e; cases e
        | some m =>
          rw [h3] at e; cases e
          obtain ⟨p, ws, rfl, hp, r1⟩ := ls_rd R hx h
          have ev := ints_rd r1 h2
          subst ev
          obtain ⟨m1, m2⟩ := maxL_max h3
          refine cr_max hc pins s σ H _ us Q I r ⟨p, ns, rfl, hp, List.length_pos_of_mem m1, fun k k1 k2 => ?_⟩
          have : k = m := Int.le_antisymm (m2 k k1) (k2 m m1)
          subst this
          exact out.here R (.int _) rfl
theorem snd_abs : CallR X (.builtin "abs") (rB X.K cA .abs) := by
  intro pins s σ H vs us Q I r hh
  obtain ⟨as, ow, st, ds, d, R, ha, e, out⟩ := hh
  match ds, e with
  | [.int i], e =>
    obtain ⟨x, rfl, hx⟩ := rx1 ha
    cases e
    exact call_abs pins s σ H _ us Q I r ⟨i, by rw [int_rd hx], out.here R (.int _) rfl⟩
theorem snd_ord : CallR X (.builtin "ord") (rB X.K cA .ord) := by
  intro pins s σ H vs us Q I r hh
  obtain ⟨as, ow, st, ds, d, R, ha, e, out⟩ := hh
  match ds, e with
  | [.str [c]], e =>
    obtain ⟨x, rfl, hx⟩ := rx1 ha
    cases e
    exact call_ord pins s σ H _ us Q I r ⟨_, by rw [str_rd hx], rfl, out.here R (.int _) rfl⟩
theorem snd_min2 (hc : X.calm = true) : CallR X (.builtin "min") (rB X.K cA .min2) := by
  intro pins s σ H vs us Q I r hh
  obtain ⟨as, ow, st, ds, d, R, ha, e, out⟩ := hh
  match ds, e with
  | [.int i, .int j], e =>
    obtain ⟨x, y, rfl, hx, hy⟩ := rx2 ha
    cases e
    exact call_min2 hc pins s σ H _ us Q I r ⟨i, j, by rw [int_rd hx, int_rd hy], out.here R (.int _) rfl⟩
theorem snd_max2 (hc : X.calm = true) : CallR X (.builtin "max") (rB X.K cA .max2) := by
  intro pins s σ H vs us Q I r hh
  obtain ⟨as, ow, st, ds, d, R, ha, e, out⟩ := hh
  match ds, e with
  | [.int i, .int j], e =>
    obtain ⟨x, y, rfl, hx, hy⟩ := rx2 ha
    cases e
    exact call_max2 hc pins s σ H _ us Q I r ⟨i, j, by rw [int_rd hx, int_rd hy], out.here R (.int _) rfl⟩
end
end CM
end
section
set_option linter.all false
set_option maxRecDepth 100000
set_option maxHeartbeats 4000000
namespace CM
open PySem PySem.Spec PyProof.Rows L2

/-! ### what is known of a text -/
structure Cs where
  N : List Str
  sc : Scope
  fs : List Str := []
  ms : List Str := []
  gs : List (Str × List Char) := []
  gi : List (Str × Int) := []
  ts : List Ty := []
  fnb : Str → Bool := fun _ => true
def okHead : Expr → Bool
  | .Starred _ _ => false
  | .Slice _ _ _ _ => false
  | .Set _ _ _ => false
  | .NamedExpr _ _ _ => false
  | _ => true
/-- a base of an attribute: no call without arguments -/
def noCall0 : Expr → Bool
  | .Call _ [] [] _ => false
  | _ => true
def visB (sc : Scope) (x : Str) : Bool := match sc.names.lookup x with
  | some .local => true
  | some .cell => true
  | some .free => true
  | _ => false
def glB (sc : Scope) (x : Str) : Bool := match sc.names.lookup x with
  | some .globalImplicit => true
  | _ => false
theorem vis_ok {sc : Scope} {x : Str} (h : visB sc x = true) : Vis sc x := by
  unfold visB at h
  split at h
  · rename_i e; exact .inl e
  · rename_i e; exact .inr (.inl e)
  · rename_i e; exact .inr (.inr e)
  · cases h
theorem gl_ok {sc : Scope} {x : Str} (h : glB sc x = true) : sc.names.lookup x = some .globalImplicit := by
  unfold glB at h
  split at h
  · assumption
  · cases h
theorem star_one {e : Expr} (h : okHead e = true) (es : List Expr) (env : PySem.Env) : starEach (e :: es) env = (false, eval e env) :: starEach es env := by
  cases e <;> first | rfl | cases h
theorem star_all {env : PySem.Env} : ∀ {es : List Expr}, es.all okHead = true → starEach es env = es.map fun e => (false, eval e env)
  | [], _ => rfl
  | e :: r, h => by
    simp only [List.all_cons, Bool.and_eq_true] at h
    rw [star_one h.1, star_all h.2]; rfl
theorem back_plain {env : PySem.Env} {pos : Pos} {es : List Expr} (h : es.all okHead = true) : (backTo pos (starEach es env)).any (·.1) = false := by
  rw [star_all h]
  unfold backTo
  rw [List.map_map, List.any_map]
  simp
theorem few_ok {env : PySem.Env} {pos : Pos} {es : List Expr} (h : es.all okHead = true) (hl : es.length < 30) :
    ((backTo pos (starEach es env)).all (fun x => !x.1) && (backToKw pos (keywordEach [] env)).all (fun x => x.1.isSome) && decide (es.length + ([] : List Keyword).length + (if ([] : List Keyword).isEmpty then 0 else 1) < 30)) = true := by
  rw [star_all h]
  unfold backTo
  rw [List.map_map, List.all_map]
  have e1 : (es.all ((fun x : Bool × Sem Value => !x.1) ∘ ((fun z : Bool × Sem Value => match z with | (star, t) => (star, if star then do let v ← t; standAt pos; pure v else t)) ∘ fun e => (false, eval e env)))) = true := by
    rw [List.all_eq_true]; intro x _; rfl
  rw [show (es.all _) = true from e1]
  simp [keywordEach, backToKw]
  exact hl
theorem base_ok {o : Expr} {m : Str} {env : PySem.Env} (h : noCall0 o = true) : attributeBase o m env (eval o env) = eval o env := by
  cases o with
  | Call f args kws pos =>
    cases args with
    | nil =>
      cases kws with
      | nil => cases h
      | cons _ _ => cases f <;> rfl
    | cons _ _ => cases f <;> rfl
  | _ => rfl
theorem plain_ix {b : Expr} (h : okHead b = true) : PlainIx b := fun o i => by
  cases b <;> first | rfl | cases h

/-! ### the names of built-ins -/
def bltNames : List Str := ["len", "int", "str", "tuple", "list", "abs", "min", "max", "ord", "all", "sorted", "range", "enumerate", "zip", "reversed", "isinstance", "dict", "bool", "ValueError"]
def biNm : Bi → Option (String × Bool)
  | .len => some ("len", false)
  | .int => some ("int", true)
  | .str => some ("str", true)
  | .tuple => some ("tuple", true)
  | .list => some ("list", true)
  | .abs => some ("abs", false)
  | .min2 => some ("min", false)
  | .max2 => some ("max", false)
  | .ord => some ("ord", false)
  | .all => some ("all", false)
  | .max1 => some ("max", false)
  | _ => none
def opA : Op → Operator → Bool
  | .add, .Add => true
  | .sub, .Sub => true
  | .mul, .Mult => true
  | .fdiv, .FloorDiv => true
  | .mod, .Mod => true
  | .pow, .Pow => true
  | _, _ => false
def opC : Op → CmpOp → Bool
  | .eq, .Eq => true
  | .ne, .NotEq => true
  | .lt, .Lt => true
  | .le, .LtE => true
  | .gt, .Gt => true
  | .ge, .GtE => true
  | .isin, .In => true
  | .notin, .NotIn => true
  | _, _ => false

/-! ### the run of an expression, as a reading -/
section
variable (K : PySem.W.Frag) (cA : ClA)
structure EnvR (as : List Addr) (ow : Addr → Prop) (H : Hp) (σ : L2.St) (ρ : Slots) : Prop where
  len : σ.length = ρ.length
  get : ∀ (i : Nat) (d : D), ρ[i]? = some (some d) → ∃ v, σ[i]? = some (some v) ∧ RepX K as ow H v d
  uni : ∀ (i j : Nat) (di dj : D) (p : Addr), i ≠ j → ρ[i]? = some (some di) → ρ[j]? = some (some dj) → free di = false → free dj = false → σ[i]? = some (some (.ref p)) → σ[j]? ≠ some (some (.ref p))
def PostE (as : List Addr) (ow : Addr → Prop) (H : Hp) (r : R D) (Q : VK) : Prop := match r with
  | .ok d st' => Out K cA as ow H st' d Q
  | .top => True
  | _ => False
def PostB (as : List Addr) (ow : Addr → Prop) (H : Hp) (r : R D) (Q : VK) : Prop := match r with
  | .ok d st' => ∀ v as' ow' H', Pst K cA as ow H as' ow' H' st' → RepX K as' ow' H' v d → Q v H'
  | .top => True
  | _ => False
def PostL (as : List Addr) (ow : Addr → Prop) (H : Hp) (r : R (List D)) (Q : List V → Hp → Prop) : Prop := match r with
  | .ok ds st' => ∀ vs as' ow' H', Pst K cA as ow H as' ow' H' st' → RepVs K as' ow' H' vs ds → Q vs H'
  | .top => True
  | _ => False
def PostBL (as : List Addr) (ow : Addr → Prop) (H : Hp) (r : R (List D)) (Q : List V → Hp → Prop) : Prop := match r with
  | .ok ds st' => ∀ vs as' ow' H', Pst K cA as ow H as' ow' H' st' → RepXs K as' ow' H' vs ds → Q vs H'
  | .top => True
  | _ => False
def PostT (as : List Addr) (ow : Addr → Prop) (H : Hp) (r : R D) (Q : Bool → Hp → Prop) : Prop := match r with
  | .ok (.bl b) st' => ∀ as' ow' H', Pst K cA as ow H as' ow' H' st' → Q b H'
  | .top => True
  | _ => False
def PostO (as : List Addr) (ow : Addr → Prop) (H : Hp) (r : R (Option Int)) (Q : Option Int → Hp → Prop) : Prop := match r with
  | .ok o st' => ∀ as' ow' H', Pst K cA as ow H as' ow' H' st' → Q o H'
  | .top => True
  | _ => False
def semE (f : Slots → Sto → R D) : TE := fun σ H Q => ∃ as ow ρ st, EnvR K as ow H σ ρ ∧ Rel K cA as ow H st ∧ PostE K cA as ow H (f ρ st) Q
def semB (f : Slots → Sto → R D) : TE := fun σ H Q => ∃ as ow ρ st, EnvR K as ow H σ ρ ∧ Rel K cA as ow H st ∧ PostB K cA as ow H (f ρ st) Q
def semL (f : Slots → Sto → R (List D)) : TA := fun σ H Q => ∃ as ow ρ st, EnvR K as ow H σ ρ ∧ Rel K cA as ow H st ∧ PostL K cA as ow H (f ρ st) Q
def semBL (f : Slots → Sto → R (List D)) : TA := fun σ H Q => ∃ as ow ρ st, EnvR K as ow H σ ρ ∧ Rel K cA as ow H st ∧ PostBL K cA as ow H (f ρ st) Q
def semT (f : Slots → Sto → R D) : TT := fun σ H Q => ∃ as ow ρ st, EnvR K as ow H σ ρ ∧ Rel K cA as ow H st ∧ PostT K cA as ow H (f ρ st) Q
def semO (f : Slots → Sto → R (Option Int)) : TO := fun σ H Q => ∃ as ow ρ st, EnvR K as ow H σ ρ ∧ Rel K cA as ow H st ∧ PostO K cA as ow H (f ρ st) Q
/-- what a call is worth -/
def CallPre (F : Fn) (vs : List V) (H : Hp) (Q : VK) : Prop := ∃ as ow st ds, Rel K cA as ow H st ∧ RepVs K as ow H vs ds ∧ PostE K cA as ow H (F ds st) Q
end
section
variable {K : PySem.W.Frag} {cA : ClA} {as as' : List Addr} {ow ow' : Addr → Prop} {H H' : Hp} {st st' : Sto} {σ : L2.St} {ρ : Slots} {Q : VK}
theorem EnvR.pst (E : EnvR K as ow H σ ρ) (R : Rel K cA as ow H st) (p : Pst K cA as ow H as' ow' H' st') : EnvR K as' ow' H' σ ρ :=
  ⟨E.len, fun i d e => let ⟨v, a, b⟩ := E.get i d e; ⟨v, a, b.pst R p⟩, E.uni⟩
theorem Out.pst {as2 : List Addr} {ow2 : Addr → Prop} {H2 : Hp} {st2 : Sto} {d : D} (p : Pst K cA as ow H as' ow' H' st') (o : Out K cA as ow H st2 d Q) : Out K cA as' ow' H' st2 d Q :=
  fun v as3 ow3 H3 q r f => o v as3 ow3 H3 (p.trans q) r fun z w e => fun m => f z w e (p.pw w m)
theorem PostE.pst {r : R D} (p : Pst K cA as ow H as' ow' H' st') (h : PostE K cA as ow H r Q) : PostE K cA as' ow' H' r Q := by
  cases r with
  | ok d st2 => exact Out.pst (as2 := as) (ow2 := ow) (H2 := H) p h
  | _ => exact h
theorem PostL.pst {r : R (List D)} {Q : List V → Hp → Prop} (p : Pst K cA as ow H as' ow' H' st') (h : PostL K cA as ow H r Q) : PostL K cA as' ow' H' r Q := by
  cases r with
  | ok d st2 => exact fun vs a b c q r => h vs a b c (p.trans q) r
  | _ => exact h
theorem PostBL.pst {r : R (List D)} {Q : List V → Hp → Prop} (p : Pst K cA as ow H as' ow' H' st') (h : PostBL K cA as ow H r Q) : PostBL K cA as' ow' H' r Q := by
  cases r with
  | ok d st2 => exact fun vs a b c q r => h vs a b c (p.trans q) r
  | _ => exact h
theorem PostT.pst {r : R D} {Q : Bool → Hp → Prop} (p : Pst K cA as ow H as' ow' H' st') (h : PostT K cA as ow H r Q) : PostT K cA as' ow' H' r Q := by
  cases r with
  | ok d st2 =>
    cases d with
    | bl b => exact fun a b c q => h a b c (p.trans q)
    | _ => exact h
  | _ => exact h
theorem PostO.pst {r : R (Option Int)} {Q : Option Int → Hp → Prop} (p : Pst K cA as ow H as' ow' H' st') (h : PostO K cA as ow H r Q) : PostO K cA as' ow' H' r Q := by
  cases r with
  | ok d st2 => exact fun a b c q => h a b c (p.trans q)
  | _ => exact h
/-- a value in hand is let go -/
theorem freeze {v : V} {d : D} (p : Pst K cA as ow H as' ow' H' st') (r : RepX K as' ow' H' v d) (f : free d = false → ∀ q, v = .ref q → ¬ ow q) :
    ∃ ow2, Pst K cA as ow H as' ow2 H' st' ∧ RepV K as' ow2 H' v (frz d) := by
  have go : ∀ q, v = .ref q → ow' q → ¬ ow q → (∀ ow2 : Addr → Prop, (∀ z, ow2 z → ow' z) → ¬ ow2 q → q ∉ as' → RepV K as' ow2 H' v (frz d)) → ∃ ow2, Pst K cA as ow H as' ow2 H' st' ∧ RepV K as' ow2 H' v (frz d) := by
    intro q hv hq hn mk
    refine ⟨fun z => ow' z ∧ z ≠ q, ⟨p.pre, fun z hz => ⟨p.pw z hz, fun e => hn (e ▸ hz)⟩, fun z o e n => ?_, p.rel.less fun _ h => h.1⟩, mk _ (fun z hz => hz.1) (fun h => h.2 rfl) (p.rel.owNot hq)⟩
    obtain ⟨a, b, c⟩ := p.keep z o e n
    exact ⟨a, b, fun m => c m.1⟩
  cases d with
  | ol xs =>
    obtain ⟨q, vs, rfl, h1, h2, h3⟩ := r
    exact go q rfl h1 (f rfl q rfl) fun ow2 hs n1 n2 => .fl h2 n2 n1 (h3.car (Car.less hs))
  | od t ks =>
    cases t with
    | false =>
      obtain ⟨q, vs, rfl, h1, h2, h3⟩ := r
      exact go q rfl h1 (f rfl q rfl) fun ow2 hs n1 n2 => .fdk (.of h2) n2 n1 (h3.car (Car.less hs))
    | true =>
      obtain ⟨q, vs, rfl, h1, h2, h3⟩ := r
      exact go q rfl h1 (f rfl q rfl) fun ow2 hs n1 n2 => .fdt (.of h2) n2 n1 (h3.car (Car.less hs))
  | _ => exact ⟨ow', p, r⟩
theorem frz_free (d : D) : free (frz d) = true := by cases d <;> rfl
theorem Out.mono {d : D} {Q' : VK} (o : Out K cA as ow H st d Q) (h : ∀ v H, Q v H → Q' v H) : Out K cA as ow H st d Q' := fun v a b c p r f => h _ _ (o v a b c p r f)
theorem post_bind {α : Type} {r : R D} {f : D → Sto → R α} {P : R α → Prop} (hbad : P .bad → False) (herr : ∀ x s, P (.err x s) → False) (h : P (r.bind f)) {Q' : VK} (ht : True)
    (go : ∀ d st' v as' ow' H', Pst K cA as ow H as' ow' H' st' → RepX K as' ow' H' v d → (free d = false → ∀ p, v = .ref p → ¬ ow p) → P (f d st') → Q' v H') : PostE K cA as ow H r Q' := by
  cases r with
  | ok d st' => exact fun v a b c p r fr => go d st' v a b c p r fr h
  | top => trivial
  | bad => exact hbad h
  | err x s => exact herr x s h
theorem postB_bind {α : Type} {r : R D} {f : D → Sto → R α} {P : R α → Prop} (hbad : P .bad → False) (herr : ∀ x s, P (.err x s) → False) (h : P (r.bind f)) {Q' : VK}
    (go : ∀ d st' v as' ow' H', Pst K cA as ow H as' ow' H' st' → RepX K as' ow' H' v d → P (f d st') → Q' v H') : PostB K cA as ow H r Q' := by
  cases r with
  | ok d st' => exact fun v a b c p r => go d st' v a b c p r h
  | top => trivial
  | bad => exact hbad h
  | err x s => exact herr x s h
theorem postL_bind {α : Type} {r : R (List D)} {f : List D → Sto → R α} {P : R α → Prop} (hbad : P .bad → False) (herr : ∀ x s, P (.err x s) → False) (h : P (r.bind f)) {Q' : List V → Hp → Prop}
    (go : ∀ ds st' vs as' ow' H', Pst K cA as ow H as' ow' H' st' → RepVs K as' ow' H' vs ds → P (f ds st') → Q' vs H') : PostL K cA as ow H r Q' := by
  cases r with
  | ok d st' => exact fun v a b c p r => go d st' v a b c p r h
  | top => trivial
  | bad => exact hbad h
  | err x s => exact herr x s h
theorem postBL_bind {α : Type} {r : R (List D)} {f : List D → Sto → R α} {P : R α → Prop} (hbad : P .bad → False) (herr : ∀ x s, P (.err x s) → False) (h : P (r.bind f)) {Q' : List V → Hp → Prop}
    (go : ∀ ds st' vs as' ow' H', Pst K cA as ow H as' ow' H' st' → RepXs K as' ow' H' vs ds → P (f ds st') → Q' vs H') : PostBL K cA as ow H r Q' := by
  cases r with
  | ok d st' => exact fun v a b c p r => go d st' v a b c p r h
  | top => trivial
  | bad => exact hbad h
  | err x s => exact herr x s h
theorem postO_bind {α : Type} {r : R (Option Int)} {f : Option Int → Sto → R α} {P : R α → Prop} (hbad : P .bad → False) (herr : ∀ x s, P (.err x s) → False) (h : P (r.bind f)) {Q' : Option Int → Hp → Prop}
    (go : ∀ o st' as' ow' H', Pst K cA as ow H as' ow' H' st' → P (f o st') → Q' o H') : PostO K cA as ow H r Q' := by
  cases r with
  | ok d st' => exact fun a b c p => go d st' a b c p h
  | top => trivial
  | bad => exact hbad h
  | err x s => exact herr x s h
theorem RepXs.pst (R : Rel K cA as ow H st) (p : Pst K cA as ow H as' ow' H' st') {vs : List V} {ds : List D} (h : RepXs K as ow H vs ds) : RepXs K as' ow' H' vs ds := Paired.mapP h fun _ _ q => q.pst R p
end

/-! ### the callees -/
/-- f does F -/
abbrev SKey (cA : ClA) (P : Program) (w : World) (K : PySem.W.Frag) (mg : Str → Option Value) (base : Heap) (A : Around) (f : Value) (F : Fn) : Prop :=
  ∀ X : Cx, X.prog = P → X.w = w → X.K = K → X.mg = mg → X.base = base → X.A = A →
    ∀ (pins : List (Addr × Obj)) (s : Shared) (σ : L2.St) (H : Hp) (Q : VK) (us : List Value) (vs : List V), Inv X pins σ H s → Vals vs us → CallPre K cA F vs H Q → wpAny (model X.prog X.w) X.A (call f us) (EP X pins σ Q) X.xe s
structure CallOk (cA : ClA) (P : Program) (w : World) (K : PySem.W.Frag) (mg : Str → Option Value) (base : Heap) (A : Around) (x : Str) (F : Fn) : Prop where
  ex : ∃ f : Addr, mg x = some (.ref f) ∧ PySem.W.keepIn K (.ref f) = true ∧ SKey cA P w K mg base A (.ref f) F
/-- a class as isinstance and the fields want it -/
structure InsOk (K : PySem.W.Frag) (C : Addr) : Prop where
  cl : Cls K C
  noat : ∀ f : Fl, NoAttr K C f.s
  ha : PySem.W.findIn K (.ref C) "__class__" = some (some (.builtin "object.__class__"))
  hn : PySem.W.specialIn K (.builtin "object.__class__") "__get__" = some (some (.builtin "getset_descriptor.__get__"))
  htk : PySem.W.takesIn K (.builtin "object.__class__") = some true
  hm : PySem.W.mroIn K C (.type "object") = some true
/-- a method m of the class at C' does F -/
structure MethOk (cA : ClA) (P : Program) (w : World) (K : PySem.W.Frag) (mg : Str → Option Value) (base : Heap) (A : Around) (m : Str) (C' : Addr) (F : Fn) : Prop where
  ex : ∃ f : Addr, Meth K C' m f ∧ (∀ fl : Fl, fl.s ≠ m) ∧ ∀ X : Cx, X.prog = P → X.w = w → X.K = K → X.mg = mg → X.base = base → X.A = A →
    ∀ (pins : List (Addr × Obj)) (s : Shared) (σ : L2.St) (H : Hp) (Q : VK) (us : List Value) (vs : List V), Inv X pins σ H s → Vals vs us → CallPre K cA F vs H Q → wpAny (model X.prog X.w) X.A (call (.ref f) us) (EP X pins σ Q) X.xe s
/-- the kinds of values -/
inductive Kd where
  | non | bl | int | str | tup | lst | dct | cl (c : Cl)
  deriving DecidableEq, Repr
def Kd.val (cA : ClA) : Kd → Option Value
  | .non => some (.type "NoneType")
  | .bl => some (.type "bool")
  | .int => some (.type "int")
  | .str => some (.type "str")
  | .tup => some (.type "tuple")
  | .lst => some (.type "list")
  | .dct => some (.type "dict")
  | .cl c => (cA c).map .ref
/-- a class that isinstance is asked about: its name, its value -/
def Ty.nm : Ty → Str
  | .str => "str" | .tuple => "tuple" | .list => "list" | .bool => "bool" | .int => "int" | .ve => "ValueError"
  | .cl c => match c with
    | .Book => "Book" | .Desk => "Desk" | .Change => "Change" | .Swap => "Swap" | .Read => "Read" | .PutIn => "PutIn" | .LeaveOut => "LeaveOut" | .Anew => "Anew"
    | .MendError => "MendError" | .NoPlace => "NoPlace" | .NoText => "NoText" | .NoFit => "NoFit" | .NoName => "NoName" | .Twice => "Twice" | .NoDay => "NoDay" | .NoAct => "NoAct" | .NoRow => "NoRow"
def Ty.val (cA : ClA) : Ty → Option Value
  | .str => some (.type "str")
  | .tuple => some (.type "tuple")
  | .list => some (.type "list")
  | .bool => some (.type "bool")
  | .int => some (.type "int")
  | .ve => some (.type "ValueError")
  | .cl c => (cA c).map .ref
def Kd.isT : Kd → Ty → Bool
  | .non, _ => false
  | .bl, t => t == .bool || t == .int
  | .int, t => t == .int
  | .str, t => t == .str
  | .tup, t => t == .tuple
  | .lst, t => t == .list
  | .dct, _ => false
  | .cl c, .cl d => c.isSub d
  | .cl c, .ve => c.isErr
  | .cl _, _ => false
structure Dy (cA : ClA) (C : Calls) (c : Cs) (X : Cx) : Prop where
  N : X.N = c.N
  nd : c.N.Nodup
  sc : X.env.scope = c.sc
  calm : X.calm = true
  fn : ∀ x, c.fnb x = true → X.fn x = true
  hu : X.A.units + 65 < cLine
  free : ∀ x ∈ bltNames, X.mg x = none
  glob : ∀ x s, (x, s) ∈ c.gs → ∃ t, X.mg x = some (.str (toStr s) t)
  globi : ∀ x i, (x, i) ∈ c.gi → ∃ t, X.mg x = some (.int i t)
  call : ∀ k x, c.fs[k]? = some x → CallOk cA X.prog X.w X.K X.mg X.base X.A x (C.f k)
  meth : ∀ k m, c.ms[k]? = some m → ∀ cl C' F, cA cl = some C' → C.m k cl = some F → MethOk cA X.prog X.w X.K X.mg X.base X.A m C' F
  ins : ∀ k C', cA k = some C' → InsOk X.K C'
  cty : ∀ t ∈ c.ts, ∃ u, t.val cA = some u ∧ (∀ cl, t = .cl cl → ∃ a, u = .ref a ∧ X.mg t.nm = some u)
  kit : ∀ t ∈ c.ts, ∀ (k : Kd) (u v : Value), t.val cA = some u → k.val cA = some v → PySem.W.kitOne X.K v u = some (k.isT t)
  skey : ∀ k x, c.fs[k]? = some x → CallOk cA X.prog X.w X.K X.mg X.base X.A.in1.in1 x (C.f k)
end CM
end
section
set_option linter.all false
set_option maxRecDepth 100000
set_option maxHeartbeats 4000000
/-! What is walked. -/
namespace CM
open PySem PySem.Spec PyProof.Rows L2
section
variable (K : PySem.W.Frag) (cA : ClA)
/-- the walk J yields these items, at any heap in which the sources stand (fz: what is locked) -/
def WalkOk (J : It) (k : Ik) (vs : List V) (ds items : List D) (fz : List (Addr × HO)) : Prop :=
  ∀ (as : List Addr) (ow : Addr → Prop) (H : Hp) (st : Sto), Rel K cA as ow H st → RepXs K as ow H vs ds → (∀ q ∈ fz, H q.1 = some q.2) → itemsOf st k ds = some items →
    J.stop items.length H ∧ ∀ i, i < items.length → J.go i H ∧ ∀ x H', J.yld i H x H' → ∃ d, items[i]? = some d ∧ Pst K cA as ow H as ow H' st ∧ RepV K as ow H' x d
/-- .. while some things stand, that nobody writes -/
def WalkF (J : It) (k : Ik) (vs : List V) (ds items : List D) (H : Hp) : Prop := ∃ fz : List (Addr × HO), (∀ q ∈ fz, H q.1 = some q.2 ∧ isMut q.2 = false) ∧ WalkOk K cA J k vs ds items fz
/-- the walk's beginning, as a reading -/
def PostI (k : Ik) (as : List Addr) (ow : Addr → Prop) (H : Hp) (r : R (List D)) (Rr : It → Hp → Prop) : Prop := match r with
  | .ok ds st' => ∃ items, itemsOf st' k ds = some items ∧ ∀ vs as' ow' H', Pst K cA as ow H as' ow' H' st' → RepXs K as' ow' H' vs ds → items.length ≤ 16777216 → ∀ J, WalkF K cA J k vs ds items H' → Rr J H'
  | .top => True
  | _ => False
def semI (k : Ik) (f : Slots → Sto → R (List D)) : TI := fun σ H Rr => ∃ as ow ρ st, EnvR K as ow H σ ρ ∧ Rel K cA as ow H st ∧ PostI K cA k as ow H (f ρ st) Rr
end
theorem WalkOk.f {K : PySem.W.Frag} {cA : ClA} {J : It} {k : Ik} {vs : List V} {ds items : List D} {H : Hp} (w : WalkOk K cA J k vs ds items []) : WalkF K cA J k vs ds items H := ⟨[], (fun _ z => nomatch z), w⟩
section
variable {cA : ClA} {as : List Addr} {ow : Addr → Prop} {H : Hp} {st : Sto} {X : Cx}
theorem walk_list {K : PySem.W.Frag} {p : Addr} {d : D} {items : List D} (h : ∀ as ow H st, Rel K cA as ow H st → RepXs K as ow H [V.ref p] [d] → itemsOf st .seq [d] = some items → ∃ vs, SqL K H p vs ∧ RepVs K as ow H vs items) : WalkOk K cA (Itl K p) .seq [.ref p] [d] items [] := by
  intro as ow H st R r _ e
  obtain ⟨vs, hs, rv⟩ := h as ow H st R r e
  refine ⟨⟨vs, hs, by rw [rv.length]; exact Nat.le_refl _⟩, fun i hi => ?_⟩
  have hd : items[i]? = some items[i] := List.getElem?_eq_getElem hi
  obtain ⟨v, hv, hr⟩ := rv.get hd
  refine ⟨⟨vs, v, hs, hv⟩, fun x H' y => ?_⟩
  obtain ⟨rfl, y⟩ := y
  have := y vs hs
  rw [hv] at this; cases this
  exact ⟨_, hd, Pst.refl R, hr⟩
theorem walk_tup {K : PySem.W.Frag} {p : Addr} {xs : List D} : WalkOk K cA (Itt K p) .seq [.ref p] [.tup xs] xs [] := by
  intro as ow H st R r _ e
  obtain ⟨_, he, hx⟩ := rx1 r
  cases he
  obtain ⟨q, vs, hq, hp, rv⟩ := tup_rd hx
  cases hq
  refine ⟨⟨vs, .of hp, by rw [rv.length]; exact Nat.le_refl _⟩, fun i hi => ?_⟩
  have hd : xs[i]? = some xs[i] := List.getElem?_eq_getElem hi
  obtain ⟨v, hv, hr⟩ := rv.get hd
  refine ⟨⟨vs, v, .of hp, hv⟩, fun x H' y => ?_⟩
  obtain ⟨rfl, y⟩ := y
  have := y vs (.of hp)
  rw [hv] at this; cases this
  exact ⟨_, hd, Pst.refl R, hr⟩
theorem walk_str {K : PySem.W.Frag} {s : List Char} : WalkOk K cA (Its (toStr s)) .seq [.str (toStr s)] [.str s] (s.map fun c => .str [c]) [] := by
  intro as ow H st R r _ e
  have hsz : (toStr s).cps.size = s.length := by simp [toStr]
  refine ⟨by show (toStr s).cps.size ≤ _; rw [hsz]; simp, fun i hi => ?_⟩
  rw [List.length_map] at hi
  refine ⟨by show i < (toStr s).cps.size; rw [hsz]; exact hi, fun x H' y => ?_⟩
  obtain ⟨rfl, c, hc, rfl⟩ := y
  have hd : (s.map fun c => D.str [c])[i]? = some (.str [s[i]]) := by rw [List.getElem?_map, List.getElem?_eq_getElem hi]; rfl
  have : c = s[i].toNat := by
    have h2 : (toStr s).cps[i]? = some s[i].toNat := by
      rw [← Array.getElem?_toList, toStr_tl, List.getElem?_map, List.getElem?_eq_getElem hi]; rfl
    rw [h2] at hc; exact (Option.some.inj hc).symm
  subst this
  exact ⟨_, hd, Pst.refl R, .str [s[i]]⟩
theorem rangeL_get : ∀ (n : Nat) (a : Int) (i : Nat), i < n → (rangeL a n)[i]? = some (.int (a + i))
  | 0, _, _, h => absurd h (Nat.not_lt_zero _)
  | n + 1, a, 0, _ => by simp [rangeL]
  | n + 1, a, i + 1, h => by
    simp only [rangeL, List.getElem?_cons_succ]
    rw [rangeL_get n (a + 1) i (by omega)]
    congr 2
    omega
theorem rangeL_len : ∀ (n : Nat) (a : Int), (rangeL a n).length = n
  | 0, _ => rfl
  | n + 1, a => by simp [rangeL, rangeL_len n]
theorem walk_range {K : PySem.W.Frag} {lo : Int} {n : Nat} {vs : List V} {ds : List D} : WalkOk K cA (Itr lo n) .range vs ds (rangeL lo n) [] := by
  intro as ow H st R r _ e
  refine ⟨by show n ≤ _; rw [rangeL_len]; exact Nat.le_refl _, fun i hi => ?_⟩
  rw [rangeL_len] at hi
  refine ⟨hi, fun x H' y => ?_⟩
  obtain ⟨rfl, rfl⟩ := y
  exact ⟨_, rangeL_get n lo i hi, Pst.refl R, .int _⟩
theorem rangeC_get : ∀ (n : Nat) (a c : Int) (i : Nat), i < n → (rangeC a c n)[i]? = some (.int (a + i * c))
  | 0, _, _, _, h => absurd h (Nat.not_lt_zero _)
  | n + 1, a, c, 0, _ => by simp [rangeC]
  | n + 1, a, c, i + 1, h => by
    simp only [rangeC, List.getElem?_cons_succ]
    rw [rangeC_get n (a + c) c i (by omega)]
    have e : a + c + (i : Int) * c = a + ((i + 1 : Nat) : Int) * c := by
      rw [Int.natCast_add, Int.add_mul]
      simp only [Int.natCast_one, Int.one_mul]
      omega
    rw [e]
theorem rangeC_len : ∀ (n : Nat) (a c : Int), (rangeC a c n).length = n
  | 0, _, _ => rfl
  | n + 1, a, c => by simp [rangeC, rangeC_len n]
theorem walk_rangeC {K : PySem.W.Frag} {lo c : Int} {n : Nat} {vs : List V} {ds : List D} : WalkOk K cA (Itc lo c n) .range vs ds (rangeC lo c n) [] := by
  intro as ow H st R r _ e
  refine ⟨by show n ≤ _; rw [rangeC_len]; exact Nat.le_refl _, fun i hi => ?_⟩
  rw [rangeC_len] at hi
  refine ⟨hi, fun x H' y => ?_⟩
  obtain ⟨rfl, rfl⟩ := y
  exact ⟨_, rangeC_get n lo c i hi, Pst.refl R, .int _⟩
theorem enumL_get : ∀ (xs : List D) (k i : Nat) (d : D), xs[i]? = some d → (enumL k xs)[i]? = some (.tup [.int ((k + i : Nat) : Int), d])
  | [], _, _, _, h => by simp at h
  | x :: r, k, 0, d, h => by simp at h; subst h; simp [enumL]
  | x :: r, k, i + 1, d, h => by
    simp only [enumL, List.getElem?_cons_succ]
    rw [enumL_get r (k + 1) i d (by simpa using h), show k + 1 + i = k + (i + 1) by omega]
theorem enumL_len : ∀ (xs : List D) (k : Nat), (enumL k xs).length = xs.length
  | [], _ => rfl
  | _ :: r, k => by simp [enumL, enumL_len r]
theorem walk_enum {K : PySem.W.Frag} {p : Addr} {d : D} {items : List D} : WalkOk K cA (Ite K p) .enum [.ref p] [d] items [] := by
  intro as ow H st R r _ e
  obtain ⟨_, he, hx⟩ := rx1 r
  cases he
  simp only [itemsOf] at e
  cases hl : lsOf st d with
  | none => rw [hl] at e; cases e
  | some xs =>
    rw [hl] at e; cases e
    obtain ⟨q, vs, hq, hp, rv⟩ := ls_rd R hx hl
    cases hq
    refine ⟨⟨vs, hp, by rw [rv.length, enumL_len]; exact Nat.le_refl _⟩, fun i hi => ?_⟩
    rw [enumL_len] at hi
    have hd : xs[i]? = some xs[i] := List.getElem?_eq_getElem hi
    obtain ⟨v, hv, hr⟩ := rv.get hd
    refine ⟨⟨vs, v, hp, hv⟩, fun x H' y => ?_⟩
    obtain ⟨T, z, rfl, hT, rfl, y⟩ := y
    have := y vs hp
    rw [hv] at this; cases this
    have P := Pst.lay (o := .tup [V.int (i : Nat), v]) R hT
    refine ⟨_, enumL_get xs 0 i _ hd, P, .tup upd_same (.cons ?_ (.cons (hr.car (P.car R)) .nil))⟩
    rw [Nat.zero_add]; exact .int _
theorem zipL_get : ∀ (xs ys : List D) (i : Nat) (a b : D), xs[i]? = some a → ys[i]? = some b → (zipL xs ys)[i]? = some (.tup [a, b])
  | [], _, _, _, _, h, _ => by simp at h
  | _ :: _, [], _, _, _, _, h => by simp at h
  | x :: xs, y :: ys, 0, a, b, h1, h2 => by simp at h1 h2; subst h1; subst h2; simp [zipL]
  | x :: xs, y :: ys, i + 1, a, b, h1, h2 => by
    simp only [zipL, List.getElem?_cons_succ]
    exact zipL_get xs ys i a b (by simpa using h1) (by simpa using h2)
theorem zipL_len : ∀ (xs ys : List D), (zipL xs ys).length = min xs.length ys.length
  | [], ys => by cases ys <;> simp [zipL]
  | _ :: _, [] => by simp [zipL]
  | x :: xs, y :: ys => by simp [zipL, zipL_len xs ys]
theorem walk_zipL {K : PySem.W.Frag} {p q : Addr} {a b : D} {items : List D} (ht : ∀ xs ys, ¬ (a = .tup xs ∧ b = .tup ys)) : WalkOk K cA (Itz K p q) .zip [.ref p, .ref q] [a, b] items [] := by
  intro as ow H st R r _ e
  obtain ⟨_, _, he, hx, hy⟩ := rx2 r
  cases he
  have e : (match lsOf st a, lsOf st b with
    | some xs, some ys => some (zipL xs ys)
    | _, _ => none) = some items := by
    cases a <;> first | exact e | (cases b <;> first | exact e | exact absurd ⟨rfl, rfl⟩ (ht _ _))
  cases hl : lsOf st a with
  | none => rw [hl] at e; cases e
  | some xs =>
    cases hm : lsOf st b with
    | none => rw [hl, hm] at e; cases e
    | some ys =>
      rw [hl, hm] at e; cases e
      obtain ⟨_, vs, hq, hp, rv⟩ := ls_rd R hx hl
      cases hq
      obtain ⟨_, ws, hq, hp2, rw'⟩ := ls_rd R hy hm
      cases hq
      refine ⟨⟨vs, ws, hp, hp2, by rw [rv.length, rw'.length, zipL_len]; omega⟩, fun i hi => ?_⟩
      rw [zipL_len] at hi
      have hd : xs[i]? = some (xs[i]'(by omega)) := List.getElem?_eq_getElem (by omega)
      have hd2 : ys[i]? = some (ys[i]'(by omega)) := List.getElem?_eq_getElem (by omega)
      obtain ⟨v, hv, hr⟩ := rv.get hd
      obtain ⟨v2, hv2, hr2⟩ := rw'.get hd2
      refine ⟨⟨vs, ws, v, v2, hp, hp2, hv, hv2⟩, fun x H' y => ?_⟩
      obtain ⟨T, z, z2, rfl, hT, rfl, y1, y2⟩ := y
      have := y1 vs hp
      rw [hv] at this; cases this
      have := y2 ws hp2
      rw [hv2] at this; cases this
      have P := Pst.lay (o := .tup [v, v2]) R hT
      exact ⟨_, zipL_get xs ys i _ _ hd hd2, P, .tup upd_same (.cons (hr.car (P.car R)) (.cons (hr2.car (P.car R)) .nil))⟩
theorem walk_zipT {K : PySem.W.Frag} {p q : Addr} {xs ys : List D} : WalkOk K cA (RZ.ItzT K p q) .zip [.ref p, .ref q] [.tup xs, .tup ys] (zipL xs ys) [] := by
  intro as ow H st R r _ e
  obtain ⟨_, _, he, hx, hy⟩ := rx2 r
  cases he
  obtain ⟨_, vs, hq, hp, rv⟩ := tup_rd hx
  cases hq
  obtain ⟨_, ws, hq, hp2, rw'⟩ := tup_rd hy
  cases hq
  refine ⟨⟨vs, ws, .of hp, .of hp2, by rw [rv.length, rw'.length, zipL_len]; omega⟩, fun i hi => ?_⟩
  rw [zipL_len] at hi
  have hd : xs[i]? = some (xs[i]'(by omega)) := List.getElem?_eq_getElem (by omega)
  have hd2 : ys[i]? = some (ys[i]'(by omega)) := List.getElem?_eq_getElem (by omega)
  obtain ⟨v, hv, hr⟩ := rv.get hd
  obtain ⟨v2, hv2, hr2⟩ := rw'.get hd2
  refine ⟨⟨vs, ws, v, v2, .of hp, .of hp2, hv, hv2⟩, fun x H' y => ?_⟩
  obtain ⟨T, z, z2, rfl, hT, rfl, y1, y2⟩ := y
  have := y1 vs (.of hp)
  rw [hv] at this; cases this
  have := y2 ws (.of hp2)
  rw [hv2] at this; cases this
  have P := Pst.lay (o := .tup [v, v2]) R hT
  exact ⟨_, zipL_get xs ys i _ _ hd hd2, P, .tup upd_same (.cons (hr.car (P.car R)) (.cons (hr2.car (P.car R)) .nil))⟩
theorem walk_rev {K : PySem.W.Frag} {p : Addr} {d : D} {items : List D} {n : Nat} (hn : n = items.length) : WalkOk K cA (Itv K p n) .rev [.ref p] [d] items [] := by
  intro as ow H st R r _ e
  obtain ⟨_, he, hx⟩ := rx1 r
  cases he
  simp only [itemsOf] at e
  cases hl : lsOf st d with
  | none => rw [hl] at e; cases e
  | some xs =>
    rw [hl] at e; cases e
    obtain ⟨q, vs, hq, hp, rv⟩ := ls_rd R hx hl
    cases hq
    rw [List.length_reverse] at hn
    subst hn
    refine ⟨by show xs.length ≤ _; rw [List.length_reverse]; exact Nat.le_refl _, fun i hi => ?_⟩
    rw [List.length_reverse] at hi
    have hd : xs[xs.length - 1 - i]? = some (xs[xs.length - 1 - i]'(by omega)) := List.getElem?_eq_getElem (by omega)
    obtain ⟨v, hv, hr⟩ := rv.get hd
    refine ⟨⟨hi, vs, v, hp, hv⟩, fun x H' y => ?_⟩
    obtain ⟨rfl, y⟩ := y
    have := y vs hp
    rw [hv] at this; cases this
    refine ⟨_, ?_, Pst.refl R, hr⟩
    rw [List.getElem?_reverse hi]; exact hd
/-! ### the beginnings -/
theorem itemsOf_seq_ls {st : Sto} {d : D} {xs : List D} (h : lsOf st d = some xs) : itemsOf st .seq [d] = some xs := by
  cases d <;> first | exact h | cases h
/-- what the heap's invariant says of lengths -/
structure Bd (K : PySem.W.Frag) (H : Hp) : Prop where
  l : ∀ a xs, SqL K H a xs → xs.length ≤ sizeLine
  t : ∀ a xs, SqT K H a xs → xs.length ≤ sizeLine
  k : ∀ a kvs, Rd H a (.dK kvs) → kvs.length ≤ sizeLine
  d : ∀ a kvs, Rd H a (.dT kvs) → kvs.length ≤ sizeLine
theorem Inv.bd {pins : List (Addr × Obj)} {σ : L2.St} {s : Shared} (I : Inv X pins σ H s) : Bd X.K H :=
  ⟨fun _ _ h => let ⟨_, _, _, z⟩ := I.list h; z, fun _ _ h => let ⟨_, _, _, z⟩ := I.tuple h; z, fun _ _ h => (dk_rd I.hok h).1, fun _ _ h => (dt_rd I.hok h).1⟩
theorem pe_bd {e : Expr} {t : TE} (h : PE X e t) : PE X e (fun σ H Q => t σ H fun x H1 => Bd X.K H1 → Q x H1) :=
  ⟨fun pins s σ H Q I hw => thn (h.run pins s σ H _ I hw) fun v s1 ⟨x, H1, I1, r, q⟩ => ⟨x, H1, I1, r, q (Inv.bd I1)⟩⟩
theorem pa_bd {es : List Expr} {t : TA} (h : PA X es t) : PA X es (fun σ H Q => t σ H fun x H1 => Bd X.K H1 → Q x H1) :=
  ⟨fun pos pins s σ H Q I hw => thn (h.run pos pins s σ H _ I hw) fun v s1 ⟨x, H1, I1, r, q⟩ => ⟨x, H1, I1, r, q (Inv.bd I1)⟩⟩
theorem pi_or {tg e : Expr} {a b : TI} (ha : PI X tg e a) (hb : PI X tg e b) : PI X tg e (fun σ H R => a σ H R ∨ b σ H R) :=
  ⟨fun pins s σ H R I h => h.elim (ha.run pins s σ H R I) (hb.run pins s σ H R I)⟩
theorem pi_mono {tg e : Expr} {a b : TI} (ha : PI X tg e a) (h : ∀ σ H R, b σ H R → a σ H R) : PI X tg e b := ⟨fun pins s σ H R I q => ha.run pins s σ H R I (h σ H R q)⟩
theorem evBs_one (C : Calls) (ρ : Slots) (a : E) (st : Sto) : evBs C ρ [a] st = (bor ρ a (ev C ρ a) st).bind fun d st => .ok [d] st := by
  show (bor ρ a (ev C ρ a) st).bind (fun d st => (R.ok [] st).bind fun ds st => .ok (d :: ds) st) = _
  cases bor ρ a (ev C ρ a) st <;> rfl
theorem sz_ok {n : Nat} (h : n ≤ sizeLine) : n ≤ 16777216 := by rw [sizeLine_eq] at h; exact h
theorem rxs_of {K : PySem.W.Frag} {H : Hp} {as : List Addr} {ow : Addr → Prop} {v : V} {d : D} (h : RepV K as ow H v d) : RepX K as ow H v d := by
  cases h <;> first | exact .non | exact .bl _ | exact .int _ | exact .str _ | (rename_i a b; exact .tup a b) | (rename_i a b c e; exact .fl a b c e) | (rename_i a b; exact .sc a b) | (rename_i a b c e; exact .fdk a b c e) | (rename_i a b c e; exact .fdt a b c e) | (rename_i a; exact .ref a)
theorem pe_frz {e : Expr} {f : Slots → Sto → R D} (h : PE X e (semE X.K cA f)) : PE X e (semB X.K cA fun ρ st => (f ρ st).bind fun d st => .ok (frz d) st) := by
  refine ⟨fun pins s σ H Q I hw => ?_⟩
  refine h.run pins s σ H Q I ?_
  obtain ⟨as, ow, ρ, st, E, R, hw⟩ := hw
  refine ⟨as, ow, ρ, st, E, R, ?_⟩
  cases er : f ρ st with
  | top => trivial
  | bad => simp only [er] at hw; exact hw.elim
  | err _ _ => simp only [er] at hw; exact hw.elim
  | ok d st' =>
    simp only [er] at hw
    intro v as' ow' H' p r fr
    obtain ⟨ow2, p2, r2⟩ := freeze p r fr
    exact hw v as' ow2 H' p2 (rxs_of r2)
theorem evs_one (C : Calls) (ρ : Slots) (a : E) (st : Sto) : evs C ρ [a] st = ((ev C ρ a st).bind fun d st => .ok (frz d) st).bind fun d st => .ok [d] st := by
  show (ev C ρ a st).bind (fun d st => (R.ok [] st).bind fun ds st => .ok (frz d :: ds) st) = _
  cases ev C ρ a st <;> rfl
/-- a list, a tuple, a text -/
theorem pi_seq {g : Slots → Sto → R D} {tg e : Expr} (h : PE X e (semB X.K cA g)) : PI X tg e (semI X.K cA .seq fun ρ st => (g ρ st).bind fun d st => .ok [d] st) := by
  refine pi_mono (pi_or (pi_list (pe_bd h)) (pi_or (pi_tup (pe_bd h)) (pi_str (pe_bd h)))) fun σ H Rr hw => ?_
  obtain ⟨as, ow, ρ, st, E, R, hw⟩ := hw
  cases er : g ρ st with
  | top => exact .inl ⟨as, ow, ρ, st, E, R, by rw [er]; trivial⟩
  | bad => simp only [er] at hw; exact hw.elim
  | err _ _ => simp only [er] at hw; exact hw.elim
  | ok d st' =>
    simp only [er] at hw
    obtain ⟨items, hi, hw⟩ := hw
    have lists : ∀ xs, lsOf st' d = some xs → (semB X.K cA g) σ H (fun x H1 => Bd X.K H1 → ∃ p, x = .ref p ∧ (∃ xs, SqL X.K H1 p xs) ∧ Rr (Itl X.K p) H1) := by
      intro xs hl
      have hx := itemsOf_seq_ls hl
      rw [hx] at hi; cases hi
      refine ⟨as, ow, ρ, st, E, R, ?_⟩
      rw [er]
      intro v as' ow' H' p x bd
      obtain ⟨q, vs, rfl, hq, rv⟩ := ls_rd p.rel x hl
      refine ⟨q, rfl, ⟨vs, hq⟩, hw _ _ _ _ p (.cons x .nil) (by rw [← rv.length]; exact sz_ok (bd.l _ _ hq)) _ (WalkOk.f (walk_list fun as2 ow2 H2 st2 R2 r2 e2 => ?_))⟩
      obtain ⟨_, he, hx2⟩ := rx1 r2
      cases he
      have hl2 : lsOf st2 d = some items := by
        cases d <;> first | exact e2 | cases hl
      obtain ⟨q2, vs2, hq2, h3, h4⟩ := ls_rd R2 hx2 hl2
      cases hq2
      exact ⟨vs2, h3, h4⟩
    cases d with
    | tup xs =>
      cases hi
      refine .inr (.inl ⟨as, ow, ρ, st, E, R, ?_⟩)
      rw [er]
      intro v as' ow' H' p x bd
      obtain ⟨q, vs, rfl, hq, rv⟩ := tup_rd x
      exact ⟨q, rfl, ⟨vs, .of hq⟩, hw _ _ _ _ p (.cons x .nil) (by rw [← rv.length]; exact sz_ok (bd.t _ _ (.of hq))) _ walk_tup.f⟩
    | str z =>
      simp only [itemsOf] at hi
      split at hi
      · rename_i hz
        cases hi
        refine .inr (.inr ⟨as, ow, ρ, st, E, R, ?_⟩)
        rw [er]
        intro v as' ow' H' p x bd
        have ev := str_rd x
        subst ev
        exact ⟨_, rfl, hw _ _ _ _ p (.cons x .nil) (by rw [List.length_map]; exact hz) _ walk_str.f⟩
      · cases hi
    | ol xs => exact .inl (lists xs rfl)
    | fl xs => exact .inl (lists xs rfl)
    | sc xs => exact .inl (lists xs rfl)
    | ref n =>
      cases hl : lsOf st' (.ref n) with
      | none => rw [show itemsOf st' .seq [.ref n] = lsOf st' (.ref n) from rfl, hl] at hi; cases hi
      | some xs => exact .inl (lists xs hl)
    | _ => cases hi
theorem postBL_mono {K : PySem.W.Frag} {r : R (List D)} {Q Q' : List V → Hp → Prop} (h : PostBL K cA as ow H r Q) (hq : ∀ ds st' vs as' ow' H', r = .ok ds st' → Pst K cA as ow H as' ow' H' st' → RepXs K as' ow' H' vs ds → Q vs H' → Q' vs H') : PostBL K cA as ow H r Q' := by
  cases r with
  | ok ds st' => exact fun vs a b c p x => hq ds st' vs a b c rfl p x (h vs a b c p x)
  | _ => exact h
/-- the arguments, and what comes of them -/
theorem argsI {k : Ik} {f : Slots → Sto → R (List D)} {σ : L2.St} {Rr : It → Hp → Prop} {P : List V → Hp → Prop} (hw : semI X.K cA k f σ H Rr)
    (go : ∀ ds st' items vs as' ow' H', itemsOf st' k ds = some items → Rel X.K cA as' ow' H' st' → RepXs X.K as' ow' H' vs ds → (items.length ≤ 16777216 → ∀ J, WalkOk X.K cA J k vs ds items [] → Rr J H') → Bd X.K H' → P vs H') :
    (semBL X.K cA f) σ H (fun vs H1 => Bd X.K H1 → P vs H1) := by
  obtain ⟨as, ow, ρ, st, E, R, hw⟩ := hw
  refine ⟨as, ow, ρ, st, E, R, ?_⟩
  cases er : f ρ st with
  | ok ds st' =>
    rw [er] at hw
    obtain ⟨items, hi, hw⟩ := hw
    intro vs as' ow' H' p x bd
    exact go ds st' items vs as' ow' H' hi p.rel x (fun hl J W => hw vs as' ow' H' p x hl J W.f) bd
  | top => trivial
  | bad => rw [er] at hw; exact hw.elim
  | err _ _ => rw [er] at hw; exact hw.elim
theorem rxs1 {K : PySem.W.Frag} {vs : List V} {ds : List D} {as : List Addr} {ow : Addr → Prop} {H : Hp} (h : RepXs K as ow H vs ds) (n : ds.length = 1) : ∃ v d, vs = [v] ∧ ds = [d] ∧ RepX K as ow H v d := by
  cases h with
  | nil => cases n
  | cons a r => cases r with
    | nil => exact ⟨_, _, rfl, rfl, a⟩
    | cons _ _ => cases n
theorem pi_rng1 {tg a : Expr} {f : Slots → Sto → R (List D)} {p pos : Pos} (hg : Gl X "range") (hm : X.mg "range" = none) (ha : PA X [a] (semBL X.K cA f)) (hs : starEach [a] X.env = [(false, eval a X.env)])
    (n1 : ∀ ρ st ds st', f ρ st = .ok ds st' → ds.length = 1) : PI X tg (.Call (.Name "range" p) [a] [] pos) (semI X.K cA .range f) := by
  refine pi_mono (pi_range1 hg hm (pa_bd ha) hs) fun σ H Rr hw => ?_
  obtain ⟨as, ow, ρ, st, E, R, hw⟩ := hw
  refine ⟨as, ow, ρ, st, E, R, ?_⟩
  cases er : f ρ st with
  | ok ds st' =>
    rw [er] at hw
    obtain ⟨items, hi, hw⟩ := hw
    intro vs as' ow' H' p x bd
    obtain ⟨v, d, rfl, rfl, hx⟩ := rxs1 x (n1 _ _ _ _ er)
    cases d with
    | int n =>
      simp only [itemsOf] at hi
      split at hi
      · rename_i hn
        cases hi
        refine ⟨n, by rw [int_rd hx], ?_, ?_, hw _ _ _ _ p x (by rw [rangeL_len]; omega) _ walk_range.f⟩
        · omega
        · omega
      · cases hi
    | _ => cases hi
  | top => trivial
  | bad => rw [er] at hw; exact hw.elim
  | err _ _ => rw [er] at hw; exact hw.elim
theorem rxs2 {K : PySem.W.Frag} {vs : List V} {ds : List D} {as : List Addr} {ow : Addr → Prop} {H : Hp} (h : RepXs K as ow H vs ds) (n : ds.length = 2) : ∃ v d v2 d2, vs = [v, v2] ∧ ds = [d, d2] ∧ RepX K as ow H v d ∧ RepX K as ow H v2 d2 := by
  cases h with
  | nil => cases n
  | cons a r =>
    obtain ⟨v, d, e1, e2, x⟩ := rxs1 r (by simpa using n)
    subst e1; subst e2
    exact ⟨_, _, _, _, rfl, rfl, a, x⟩
theorem pi_rng2 {tg a b : Expr} {f : Slots → Sto → R (List D)} {p pos : Pos} (hg : Gl X "range") (hm : X.mg "range" = none) (ha : PA X [a, b] (semBL X.K cA f)) (hs : starEach [a, b] X.env = [(false, eval a X.env), (false, eval b X.env)]) (hs2 : starEach [b] X.env = [(false, eval b X.env)])
    (n1 : ∀ ρ st ds st', f ρ st = .ok ds st' → ds.length = 2) : PI X tg (.Call (.Name "range" p) [a, b] [] pos) (semI X.K cA .range f) := by
  refine pi_mono (pi_range2 hg hm (pa_bd ha) hs hs2) fun σ H Rr hw => ?_
  obtain ⟨as, ow, ρ, st, E, R, hw⟩ := hw
  refine ⟨as, ow, ρ, st, E, R, ?_⟩
  cases er : f ρ st with
  | ok ds st' =>
    rw [er] at hw
    obtain ⟨items, hi, hw⟩ := hw
    intro vs as' ow' H' p x bd
    obtain ⟨v, d, v2, d2, rfl, rfl, hx, hy⟩ := rxs2 x (n1 _ _ _ _ er)
    cases d with
    | int n => cases d2 with
      | int m =>
        simp only [itemsOf] at hi
        split at hi
        · rename_i hn
          cases hi
          refine ⟨n, m, by rw [int_rd hx, int_rd hy], ⟨by omega, by omega, by omega, by omega⟩, hw _ _ _ _ p x (by rw [rangeL_len]; omega) _ walk_range.f⟩
        · cases hi
      | _ => cases hi
    | _ => cases d2 <;> cases hi
  | top => trivial
  | bad => rw [er] at hw; exact hw.elim
  | err _ _ => rw [er] at hw; exact hw.elim
theorem rxs3 {K : PySem.W.Frag} {vs : List V} {ds : List D} {as : List Addr} {ow : Addr → Prop} {H : Hp} (h : RepXs K as ow H vs ds) (n : ds.length = 3) : ∃ v d v2 d2 v3 d3, vs = [v, v2, v3] ∧ ds = [d, d2, d3] ∧ RepX K as ow H v d ∧ RepX K as ow H v2 d2 ∧ RepX K as ow H v3 d3 := by
  cases h with
  | nil => cases n
  | cons a r =>
    obtain ⟨v, d, v2, d2, e1, e2, x, y⟩ := rxs2 r (by simpa using n)
    subst e1; subst e2
    exact ⟨_, _, _, _, _, _, rfl, rfl, a, x, y⟩
theorem rgC_ok {a b c : Int} (h : -(2 ^ 24) ≤ a ∧ a < 2 ^ 24 ∧ -(2 ^ 24) ≤ b ∧ b < 2 ^ 24 ∧ 0 < c ∧ c < 2 ^ 20 ∧ b - a < 2 ^ 24) : RgC a b c ((b - a + c - 1) / c).toNat ∧ ((b - a + c - 1) / c).toNat < 2 ^ 24 := by
  obtain ⟨h1, h2, h3, h4, h5, h6, h7⟩ := h
  have sz : Builtin.Range.rangeSize a b c = (((b - a + c - 1) / c).toNat : Int) := by
    unfold Builtin.Range.rangeSize
    rw [if_pos h5]
    by_cases hab : a < b
    · rw [if_pos hab]
      have e : b - a + c - 1 = (b - a - 1) + 1 * c := by omega
      rw [e, Int.add_mul_ediv_right _ _ (by omega)]
      have : 0 ≤ (b - a - 1) / c := Int.ediv_nonneg (by omega) (by omega)
      omega
    · rw [if_neg hab]
      have : (b - a + c - 1) / c ≤ 0 := by
        have := Int.ediv_le_ediv h5 (show b - a + c - 1 ≤ c - 1 by omega)
        rw [Int.ediv_eq_zero_of_lt (a := c - 1) (by omega) (by omega)] at this
        exact this
      omega
  have lt : ((b - a + c - 1) / c).toNat < 2 ^ 24 := by
    by_cases hab : a < b
    · have e : b - a + c - 1 = (b - a - 1) + 1 * c := by omega
      rw [e, Int.add_mul_ediv_right _ _ (by omega)]
      have : (b - a - 1) / c ≤ b - a - 1 := Int.ediv_le_self _ (by omega)
      omega
    · have : (b - a + c - 1) / c ≤ 0 := by
        have := Int.ediv_le_ediv h5 (show b - a + c - 1 ≤ c - 1 by omega)
        rw [Int.ediv_eq_zero_of_lt (a := c - 1) (by omega) (by omega)] at this
        exact this
      omega
  refine ⟨⟨by omega, by omega, ?_, sz⟩, lt⟩
  unfold Builtin.Range.small
  rw [sz]
  simp only [Builtin.Range.rangeFitsLong, Bool.and_eq_true, Bool.or_eq_true, decide_eq_true_eq, beq_iff_eq]
  have : (0 : Int) ≤ ((b - a + c - 1) / c).toNat := by omega
  rw [if_pos h5]
  simp only [decide_eq_true_eq, Bool.and_eq_true]
  refine ⟨⟨⟨⟨⟨?_, ?_⟩, ?_, ?_⟩, ?_, ?_⟩, ?_, ?_⟩, .inr ⟨?_, ?_⟩⟩ <;> omega
theorem pi_rng3 {tg a b e : Expr} {f : Slots → Sto → R (List D)} {p pos : Pos} (hg : Gl X "range") (hm : X.mg "range" = none) (ha : PA X [a, b, e] (semBL X.K cA f)) (hs : starEach [a, b, e] X.env = (false, eval a X.env) :: starEach [b, e] X.env) (hs2 : (backTo pos (starEach [b, e] X.env)).any (·.1) = false)
    (n1 : ∀ ρ st ds st', f ρ st = .ok ds st' → ds.length = 3) : PI X tg (.Call (.Name "range" p) [a, b, e] [] pos) (semI X.K cA .range f) := by
  refine pi_mono (pi_range3 hg hm (pa_bd ha) hs hs2) fun σ H Rr hw => ?_
  obtain ⟨as, ow, ρ, st, E, R, hw⟩ := hw
  refine ⟨as, ow, ρ, st, E, R, ?_⟩
  cases er : f ρ st with
  | ok ds st' =>
    rw [er] at hw
    obtain ⟨items, hi, hw⟩ := hw
    intro vs as' ow' H' p x bd
    obtain ⟨v, d, v2, d2, v3, d3, rfl, rfl, hx, hy, hz⟩ := rxs3 x (n1 _ _ _ _ er)
    match d, d2, d3, hi, hx, hy, hz with
    | .int n, .int m, .int k, hi, hx, hy, hz =>
      simp only [itemsOf] at hi
      split at hi
      · rename_i hn
        cases hi
        obtain ⟨r1, r2⟩ := rgC_ok hn
        refine ⟨n, m, k, _, by rw [int_rd hx, int_rd hy, int_rd hz], r1, hw _ _ _ _ p x (by rw [rangeC_len]; omega) _ walk_rangeC.f⟩
      · cases hi
  | top => trivial
  | bad => rw [er] at hw; exact hw.elim
  | err _ _ => rw [er] at hw; exact hw.elim
theorem pi_enu {e : Expr} {f : Slots → Sto → R (List D)} {p pos tpos : Pos} {elts : List Expr} {kk : Nat} (hg : Gl X "enumerate") (hm : X.mg "enumerate" = none) (ha : PA X [e] (semBL X.K cA f)) (hs : starEach [e] X.env = [(false, eval e X.env)])
    (n1 : ∀ ρ st ds st', f ρ st = .ok ds st' → ds.length = 1) : PI X (.Tuple elts kk tpos) (.Call (.Name "enumerate" p) [e] [] pos) (semI X.K cA .enum f) := by
  refine pi_mono (pi_enum hg hm (pa_bd ha) hs) fun σ H Rr hw => ?_
  obtain ⟨as, ow, ρ, st, E, R, hw⟩ := hw
  refine ⟨as, ow, ρ, st, E, R, ?_⟩
  cases er : f ρ st with
  | ok ds st' =>
    rw [er] at hw
    obtain ⟨items, hi, hw⟩ := hw
    intro vs as' ow' H' p x bd
    obtain ⟨v, d, rfl, rfl, hx⟩ := rxs1 x (n1 _ _ _ _ er)
    have hi0 := hi
    simp only [itemsOf] at hi
    cases hl : lsOf st' d with
    | none => rw [hl] at hi; cases hi
    | some xs =>
      rw [hl] at hi; cases hi
      obtain ⟨q, vs, rfl, hq, rv⟩ := ls_rd p.rel hx hl
      exact ⟨q, vs, rfl, hq, hw _ _ _ _ p x (by rw [enumL_len, ← rv.length]; exact sz_ok (bd.l _ _ hq)) _ walk_enum.f⟩
  | top => trivial
  | bad => rw [er] at hw; exact hw.elim
  | err _ _ => rw [er] at hw; exact hw.elim
theorem pi_rev {tg e : Expr} {f : Slots → Sto → R (List D)} {p pos : Pos} (hg : Gl X "reversed") (hm : X.mg "reversed" = none) (ha : PA X [e] (semBL X.K cA f)) (hs : starEach [e] X.env = [(false, eval e X.env)])
    (n1 : ∀ ρ st ds st', f ρ st = .ok ds st' → ds.length = 1) : PI X tg (.Call (.Name "reversed" p) [e] [] pos) (semI X.K cA .rev f) := by
  refine pi_mono (pi_reversed hg hm (pa_bd ha) hs) fun σ H Rr hw => ?_
  obtain ⟨as, ow, ρ, st, E, R, hw⟩ := hw
  refine ⟨as, ow, ρ, st, E, R, ?_⟩
  cases er : f ρ st with
  | ok ds st' =>
    rw [er] at hw
    obtain ⟨items, hi, hw⟩ := hw
    intro vs as' ow' H' p x bd
    obtain ⟨v, d, rfl, rfl, hx⟩ := rxs1 x (n1 _ _ _ _ er)
    simp only [itemsOf] at hi
    cases hl : lsOf st' d with
    | none => rw [hl] at hi; cases hi
    | some xs =>
      rw [hl] at hi; cases hi
      obtain ⟨q, vs, rfl, hq, rv⟩ := ls_rd p.rel hx hl
      exact ⟨q, vs, rfl, hq, hw _ _ _ _ p x (by rw [List.length_reverse, ← rv.length]; exact sz_ok (bd.l _ _ hq)) _ (WalkOk.f <| walk_rev (by rw [List.length_reverse, rv.length]))⟩
  | top => trivial
  | bad => rw [er] at hw; exact hw.elim
  | err _ _ => rw [er] at hw; exact hw.elim
theorem pi_zp {e e2 : Expr} {f : Slots → Sto → R (List D)} {p pos tpos : Pos} {elts : List Expr} {kk : Nat} (hg : Gl X "zip") (hm : X.mg "zip" = none) (ha : PA X [e, e2] (semBL X.K cA f)) (hs : starEach [e, e2] X.env = (false, eval e X.env) :: starEach [e2] X.env)
    (hpl : (backTo pos (starEach [e2] X.env)).any (·.1) = false)
    (n1 : ∀ ρ st ds st', f ρ st = .ok ds st' → ds.length = 2) : PI X (.Tuple elts kk tpos) (.Call (.Name "zip" p) [e, e2] [] pos) (semI X.K cA .zip f) := by
  refine pi_mono (RZ.pi_zipA hg hm (pa_bd ha) hs hpl) fun σ H Rr hw => ?_
  obtain ⟨as, ow, ρ, st, E, R, hw⟩ := hw
  refine ⟨as, ow, ρ, st, E, R, ?_⟩
  cases er : f ρ st with
  | ok ds st' =>
    rw [er] at hw
    obtain ⟨items, hi, hw⟩ := hw
    intro vs as' ow' H' p x bd
    obtain ⟨v, d, v2, d2, rfl, rfl, hx, hy⟩ := rxs2 x (n1 _ _ _ _ er)
    by_cases ht : ∃ xs ys, d = .tup xs ∧ d2 = .tup ys
    · obtain ⟨xs, ys, rfl, rfl⟩ := ht
      cases hi
      obtain ⟨q, vs, rfl, hq, rv⟩ := tup_rd hx
      obtain ⟨q2, vs2, rfl, hq2, rv2⟩ := tup_rd hy
      exact ⟨q, q2, vs, vs2, rfl, .inr ⟨.of hq, .of hq2, hw _ _ _ _ p x (by rw [zipL_len, ← rv.length]; have := sz_ok (bd.t _ _ (.of hq)); omega) _ walk_zipT.f⟩⟩
    · have e : (match lsOf st' d, lsOf st' d2 with
        | some xs, some ys => some (zipL xs ys)
        | _, _ => none) = some items := by
        cases d <;> first | exact hi | (cases d2 <;> first | exact hi | exact absurd ⟨_, _, rfl, rfl⟩ ht)
      cases hl : lsOf st' d with
      | none => rw [hl] at e; cases e
      | some xs =>
        cases hm' : lsOf st' d2 with
        | none => rw [hl, hm'] at e; cases e
        | some ys =>
          rw [hl, hm'] at e; cases e
          obtain ⟨q, vs, rfl, hq, rv⟩ := ls_rd p.rel hx hl
          obtain ⟨q2, vs2, rfl, hq2, rv2⟩ := ls_rd p.rel hy hm'
          exact ⟨q, q2, vs, vs2, rfl, .inl ⟨hq, hq2, hw _ _ _ _ p x (by rw [zipL_len, ← rv.length]; have := sz_ok (bd.l _ _ hq); omega) _ (WalkOk.f (walk_zipL fun a b h => ht ⟨a, b, h⟩))⟩⟩
  | top => trivial
  | bad => rw [er] at hw; exact hw.elim
  | err _ _ => rw [er] at hw; exact hw.elim
end
end CM
end
section
set_option linter.all false
set_option maxRecDepth 100000
set_option maxHeartbeats 4000000
/-! Expressions, by construct. -/
namespace CM
open PySem PySem.Spec PyProof.Rows L2
section
variable {X : Cx}
theorem pe_imp {e : Expr} {t t' : TE} (h : PE X e t) (i : ∀ σ H Q, t' σ H Q → t σ H Q) : PE X e t' := ⟨fun pins s σ H Q I q => h.run pins s σ H Q I (i σ H Q q)⟩
theorem pt_imp {e : Expr} {t t' : TT} (h : PT X e t) (i : ∀ σ H Q, t' σ H Q → t σ H Q) : PT X e t' := ⟨fun pins s σ H Q I q => h.run pins s σ H Q I (i σ H Q q)⟩
theorem pw_imp {e : Expr} {t t' : TT} (h : PW X e t) (i : ∀ σ H Q, t' σ H Q → t σ H Q) : PW X e t' := ⟨fun wh pins s σ H Q I q => h.run wh pins s σ H Q I (i σ H Q q)⟩
theorem pa_imp {e : List Expr} {t t' : TA} (h : PA X e t) (i : ∀ σ H Q, t' σ H Q → t σ H Q) : PA X e t' := ⟨fun pos pins s σ H Q I q => h.run pos pins s σ H Q I (i σ H Q q)⟩
theorem po_imp {e : Option Expr} {t t' : TO} (h : PO X e t) (i : ∀ σ H Q, t' σ H Q → t σ H Q) : PO X e t' := ⟨fun pins s σ H Q I q => h.run pins s σ H Q I (i σ H Q q)⟩
end
section
variable {K : PySem.W.Frag} {cA : ClA} {as as' : List Addr} {ow ow' : Addr → Prop} {H H' : Hp} {st st' : Sto} {σ : L2.St} {ρ : Slots} {Q : VK} {C : Calls}
/-- one step of a value's run -/
theorem semE_bind {fa : Slots → Sto → R D} {f : Slots → D → Sto → R D} {QQ : VK} (h : semE K cA (fun ρ st => (fa ρ st).bind (f ρ)) σ H Q)
    (go : ∀ as ow H ρ st v d, EnvR K as ow H σ ρ → Rel K cA as ow H st → RepX K as ow H v d → PostE K cA as ow H (f ρ d st) Q → QQ v H) : semB K cA fa σ H QQ := by
  obtain ⟨as, ow, ρ, st, E, R, h⟩ := h
  refine ⟨as, ow, ρ, st, E, R, postB_bind (P := fun r => PostE K cA as ow H r Q) id (fun _ _ => id) h fun d st1 v as1 ow1 H1 p r h1 => ?_⟩
  exact go as1 ow1 H1 ρ st1 v d (E.pst R p) p.rel r (PostE.pst p h1)
theorem semL_bind {fa : Slots → Sto → R (List D)} {f : Slots → List D → Sto → R D} {QQ : List V → Hp → Prop} (h : semE K cA (fun ρ st => (fa ρ st).bind (f ρ)) σ H Q)
    (go : ∀ as ow H ρ st v d, EnvR K as ow H σ ρ → Rel K cA as ow H st → RepVs K as ow H v d → (∃ st0, fa ρ st0 = .ok d st) → PostE K cA as ow H (f ρ d st) Q → QQ v H) : semL K cA fa σ H QQ := by
  obtain ⟨as, ow, ρ, st, E, R, h⟩ := h
  refine ⟨as, ow, ρ, st, E, R, ?_⟩
  dsimp only at h
  cases e : fa ρ st with
  | ok d st1 =>
    intro v as1 ow1 H1 p r
    rw [e] at h
    exact go as1 ow1 H1 ρ st1 v d (E.pst R p) p.rel r ⟨st, e⟩ (PostE.pst p h)
  | top => trivial
  | bad => rw [e] at h; exact h.elim
  | err _ _ => rw [e] at h; exact h.elim
theorem semBL_bind {fa : Slots → Sto → R (List D)} {f : Slots → List D → Sto → R D} {QQ : List V → Hp → Prop} (h : semE K cA (fun ρ st => (fa ρ st).bind (f ρ)) σ H Q)
    (go : ∀ as ow H ρ st v d, EnvR K as ow H σ ρ → Rel K cA as ow H st → RepXs K as ow H v d → PostE K cA as ow H (f ρ d st) Q → QQ v H) : semBL K cA fa σ H QQ := by
  obtain ⟨as, ow, ρ, st, E, R, h⟩ := h
  refine ⟨as, ow, ρ, st, E, R, postBL_bind (P := fun r => PostE K cA as ow H r Q) id (fun _ _ => id) h fun d st1 v as1 ow1 H1 p r h1 => ?_⟩
  exact go as1 ow1 H1 ρ st1 v d (E.pst R p) p.rel r (PostE.pst p h1)
/-- .. with an outcome of its own hand -/
theorem semE_bindE {fa : Slots → Sto → R D} {f : Slots → D → Sto → R D} {QQ : VK} (h : semE K cA (fun ρ st => (fa ρ st).bind (f ρ)) σ H Q)
    (go : ∀ as ow H ρ st v d, EnvR K as ow H σ ρ → Rel K cA as ow H st → RepX K as ow H v d → PostE K cA as ow H (f ρ d st) Q → QQ v H) : semE K cA fa σ H QQ := by
  obtain ⟨as, ow, ρ, st, E, R, h⟩ := h
  refine ⟨as, ow, ρ, st, E, R, post_bind (P := fun r => PostE K cA as ow H r Q) id (fun _ _ => id) h trivial fun d st1 v as1 ow1 H1 p r _ h1 => ?_⟩
  exact go as1 ow1 H1 ρ st1 v d (E.pst R p) p.rel r (PostE.pst p h1)
theorem PostE.ofO {o : Option D} (h : PostE K cA as ow H (CM.ofO st o) Q) : ∃ d, o = some d ∧ Out K cA as ow H st d Q := by
  cases o with
  | none => exact h.elim
  | some d => exact ⟨d, rfl, h⟩
theorem semE_op {fa fb : Slots → Sto → R D} {o : Op} (h : semE K cA (fun ρ st => (fa ρ st).bind fun x st => (fb ρ st).bind fun y st => ofO st (opS st o x y)) σ H Q) : tOp (rS K cA o) (semB K cA fa) (semB K cA fb) σ H Q := by
  refine semE_bind (f := fun ρ x st => (fb ρ st).bind fun y st => ofO st (opS st o x y)) h fun as ow H ρ st x a E R rx h1 => ?_
  refine ⟨as, ow, ρ, st, E, R, ?_⟩
  refine postB_bind (P := fun r => PostE K cA as ow H r Q) id (fun _ _ => id) h1 fun b st2 y as2 ow2 H2 p2 r2 h2 => ?_
  obtain ⟨d, e, o⟩ := h2.ofO
  exact ⟨as2, ow2, st2, a, b, d, p2.rel, rx.pst R p2, r2, e, Out.pst (as2 := as) (ow2 := ow) (H2 := H) p2 o⟩
/-- a test's reading, as a value's -/
theorem semT_E {f : Slots → Sto → R D} {Q : Bool → Hp → Prop} (h : semT K cA f σ H Q) : semE K cA f σ H fun x H' => ∃ k, x = .bl k ∧ Q k H' := by
  obtain ⟨as, ow, ρ, st, E, R, h⟩ := h
  refine ⟨as, ow, ρ, st, E, R, ?_⟩
  cases e : f ρ st with
  | ok d st1 =>
    rw [e] at h
    cases d with
    | bl b => exact fun v as1 ow1 H1 p r _ => ⟨b, bl_rd r, h as1 ow1 H1 p⟩
    | _ => exact h.elim
  | top => trivial
  | bad => rw [e] at h; exact h.elim
  | err _ _ => rw [e] at h; exact h.elim
theorem semE_T {f : Slots → Sto → R D} {Q : Bool → Hp → Prop} (h : semT K cA f σ H Q) : tB (semE K cA f) σ H Q := semT_E h
theorem semB_E {f : Slots → Sto → R D} (h : semB K cA f σ H Q) : semE K cA f σ H Q := by
  obtain ⟨as, ow, ρ, st, E, R, h⟩ := h
  refine ⟨as, ow, ρ, st, E, R, ?_⟩
  cases e : f ρ st with
  | ok d st1 => rw [e] at h; exact fun v a b c p r _ => h v a b c p r
  | top => trivial
  | bad => rw [e] at h; exact h.elim
  | err _ _ => rw [e] at h; exact h.elim
/-- a test, then what hangs on it -/
theorem semT_bind {fa : Slots → Sto → R D} {f : Slots → D → Sto → R D} {QQ : Bool → Hp → Prop} (hf : ∀ ρ d st, (∀ b, d ≠ .bl b) → f ρ d st = .bad) (h : semE K cA (fun ρ st => (fa ρ st).bind (f ρ)) σ H Q)
    (go : ∀ as ow H ρ st b, EnvR K as ow H σ ρ → Rel K cA as ow H st → PostE K cA as ow H (f ρ (.bl b) st) Q → QQ b H) : semT K cA fa σ H QQ := by
  obtain ⟨as, ow, ρ, st, E, R, h⟩ := h
  refine ⟨as, ow, ρ, st, E, R, ?_⟩
  dsimp only at h
  cases e : fa ρ st with
  | ok d st1 =>
    rw [e] at h
    have h : PostE K cA as ow H (f ρ d st1) Q := h
    cases d with
    | bl b => exact fun as1 ow1 H1 p => go as1 ow1 H1 ρ st1 b (E.pst R p) p.rel (PostE.pst p h)
    | _ => rw [hf _ _ _ (fun b z => by cases z)] at h; exact h.elim
  | top => trivial
  | bad => rw [e] at h; exact h.elim
  | err _ _ => rw [e] at h; exact h.elim
theorem semT_bindT {fa : Slots → Sto → R D} {f : Slots → D → Sto → R D} {Q QQ : Bool → Hp → Prop} (hf : ∀ ρ d st, (∀ b, d ≠ .bl b) → f ρ d st = .bad) (h : semT K cA (fun ρ st => (fa ρ st).bind (f ρ)) σ H Q)
    (go : ∀ as ow H ρ st b, EnvR K as ow H σ ρ → Rel K cA as ow H st → PostT K cA as ow H (f ρ (.bl b) st) Q → QQ b H) : semT K cA fa σ H QQ := by
  obtain ⟨as, ow, ρ, st, E, R, h⟩ := h
  refine ⟨as, ow, ρ, st, E, R, ?_⟩
  dsimp only at h
  cases e : fa ρ st with
  | ok d st1 =>
    rw [e] at h
    have h : PostT K cA as ow H (f ρ d st1) Q := h
    cases d with
    | bl b => exact fun as1 ow1 H1 p => go as1 ow1 H1 ρ st1 b (E.pst R p) p.rel (PostT.pst p h)
    | _ => rw [hf _ _ _ (fun b z => by cases z)] at h; exact h.elim
  | top => trivial
  | bad => rw [e] at h; exact h.elim
  | err _ _ => rw [e] at h; exact h.elim
theorem semBL_L {f : Slots → Sto → R (List D)} {Q : List V → Hp → Prop} (h : semBL K cA f σ H Q) : semL K cA f σ H Q := by
  obtain ⟨as, ow, ρ, st, E, R, h⟩ := h
  refine ⟨as, ow, ρ, st, E, R, ?_⟩
  cases e : f ρ st with
  | ok d st1 =>
    rw [e] at h
    refine fun v a b c p r => h v a b c p ?_
    clear h e
    induction v generalizing d with
    | nil => cases r; exact .nil
    | cons x xs ih => cases r with | cons q t => exact .cons (rxs_of q) (ih _ t)
  | top => trivial
  | bad => rw [e] at h; exact h.elim
  | err _ _ => rw [e] at h; exact h.elim
end
/-! ### names, constants -/
section
variable {cA : ClA} {C : Calls} {c : Cs} {X : Cx}
def okNm (x : Str) : Bool := !(x == ("__debug__" : Str)) && !(x == ("__classdict__" : Str))
theorem snd_var {i : Nat} {x : Str} {pos : Pos} (Dc : Dy cA C c X) (hN : c.N[i]? = some x) (hv : visB c.sc x = true) (hx : okNm x = true) : PE X (.Name x pos) (semE X.K cA fun ρ st => ev C ρ (.var i) st) := by
  simp only [okNm, Bool.and_eq_true, Bool.not_eq_true'] at hx
  refine pe_imp (pe_var (i := i) (by rw [Dc.N]; exact hN) (by rw [Dc.sc]; exact vis_ok hv) hx.1 hx.2) fun σ H Q h => ?_
  obtain ⟨as, ow, ρ, st, E, R, h⟩ := h
  have h : PostE X.K cA as ow H (ofO st ((getS ρ i).filter free)) Q := h
  obtain ⟨d, e, o⟩ := h.ofO
  rw [Option.filter_eq_some_iff] at e
  obtain ⟨e, f⟩ := e
  unfold getS at e
  split at e
  · rename_i d' e2
    cases e
    obtain ⟨v, h1, h2⟩ := E.get i d e2
    exact ⟨v, h1, o v as ow H (Pst.refl R) h2 fun z => by rw [f] at z; cases z⟩
  · cases e
theorem snd_varB {i : Nat} {x : Str} {pos : Pos} (Dc : Dy cA C c X) (hN : c.N[i]? = some x) (hv : visB c.sc x = true) (hx : okNm x = true) : PE X (.Name x pos) (semB X.K cA fun ρ st => bor ρ (.var i) (ev C ρ (.var i)) st) := by
  simp only [okNm, Bool.and_eq_true, Bool.not_eq_true'] at hx
  refine pe_imp (pe_var (i := i) (by rw [Dc.N]; exact hN) (by rw [Dc.sc]; exact vis_ok hv) hx.1 hx.2) fun σ H Q h => ?_
  obtain ⟨as, ow, ρ, st, E, R, h⟩ := h
  have h : PostB X.K cA as ow H (ofO st (getS ρ i)) Q := h
  unfold getS at h
  split at h
  · rename_i d e2
    obtain ⟨v, h1, h2⟩ := E.get i d e2
    exact ⟨v, h1, h v as ow H (Pst.refl R) h2⟩
  · exact h.elim
theorem snd_C {e : Expr} {v : V} {d : D} (he : PE X e (tC v)) (hr : ∀ as ow H, RepV X.K as ow H v d) (hf : free d = true) : PE X e (semE X.K cA fun _ st => .ok d st) := by
  refine pe_imp he fun σ H Q h => ?_
  obtain ⟨as, ow, ρ, st, E, R, h⟩ := h
  exact Out.here (show Out X.K cA as ow H st d Q from h) R (hr _ _ _) hf
theorem snd_glob {x : Str} {s : List Char} {pos : Pos} {z : String} (Dc : Dy cA C c X) (hg : glB c.sc x = true) (hm : (x, s) ∈ c.gs) (hx : okNm x = true) : PE X (.Name x pos) (semE X.K cA fun ρ st => ev C ρ (.glob z s) st) := by
  simp only [okNm, Bool.and_eq_true, Bool.not_eq_true'] at hx
  obtain ⟨t, ht⟩ := Dc.glob x s hm
  exact snd_C (d := .str s) (pe_glob (v := .str (toStr s)) (by unfold Gl Env.kindOf; rw [Dc.sc]; exact gl_ok hg) ht ⟨t, rfl⟩ hx.1) (fun _ _ _ => .str s) rfl
theorem snd_globi {x : Str} {i : Int} {pos : Pos} {z : String} (Dc : Dy cA C c X) (hg : glB c.sc x = true) (hm : (x, i) ∈ c.gi) (hx : okNm x = true) : PE X (.Name x pos) (semE X.K cA fun ρ st => ev C ρ (.globi z i) st) := by
  simp only [okNm, Bool.and_eq_true, Bool.not_eq_true'] at hx
  obtain ⟨t, ht⟩ := Dc.globi x i hm
  exact snd_C (d := .int i) (pe_glob (v := .int i) (by unfold Gl Env.kindOf; rw [Dc.sc]; exact gl_ok hg) ht ⟨t, rfl⟩ hx.1) (fun _ _ _ => .int i) rfl

/-! ### arguments, displays -/
theorem snd_nil : PA X [] (semL X.K cA fun ρ st => evs C ρ [] st) := by
  refine pa_imp pa_nil fun σ H Q h => ?_
  obtain ⟨as, ow, ρ, st, E, R, h⟩ := h
  exact h [] as ow H (Pst.refl R) .nil
theorem snd_cons {a : E} {r : List E} {x : Expr} {xs : List Expr} (ha : PE X x (semE X.K cA fun ρ st => ev C ρ a st)) (hr : PA X xs (semL X.K cA fun ρ st => evs C ρ r st)) (hs : okHead x = true) : PA X (x :: xs) (semL X.K cA fun ρ st => evs C ρ (a :: r) st) := by
  refine pa_imp (pa_cons ha hr (star_one hs xs X.env)) fun σ H Q h => ?_
  obtain ⟨as, ow, ρ, st, E, R, h⟩ := h
  have h : PostL X.K cA as ow H ((ev C ρ a st).bind fun d st => (evs C ρ r st).bind fun ds st => .ok (frz d :: ds) st) Q := h
  refine ⟨as, ow, ρ, st, E, R, post_bind (P := fun r => PostL X.K cA as ow H r Q) id (fun _ _ => id) h trivial fun d st1 v as1 ow1 H1 p1 r1 fr h1 => ?_⟩
  obtain ⟨ow1', p1', r1'⟩ := freeze p1 r1 fr
  refine ⟨as1, ow1', ρ, st1, E.pst R p1', p1'.rel, postL_bind (P := fun r => PostL X.K cA as ow H r Q) id (fun _ _ => id) h1 fun ds st2 vs as2 ow2 H2 p2 r2 h2 => ?_⟩
  exact h2 (v :: vs) as2 ow2 H2 (p1'.trans p2) (.cons (r1'.car (p2.car p1'.rel)) r2)
theorem snd_nilB : PA X [] (semBL X.K cA fun ρ st => evBs C ρ [] st) := by
  refine pa_imp pa_nil fun σ H Q h => ?_
  obtain ⟨as, ow, ρ, st, E, R, h⟩ := h
  exact h [] as ow H (Pst.refl R) .nil
theorem snd_consB {a : E} {r : List E} {x : Expr} {xs : List Expr} (ha : PE X x (semB X.K cA fun ρ st => bor ρ a (ev C ρ a) st)) (hr : PA X xs (semBL X.K cA fun ρ st => evBs C ρ r st)) (hs : okHead x = true) : PA X (x :: xs) (semBL X.K cA fun ρ st => evBs C ρ (a :: r) st) := by
  refine pa_imp (pa_cons ha hr (star_one hs xs X.env)) fun σ H Q h => ?_
  obtain ⟨as, ow, ρ, st, E, R, h⟩ := h
  have h : PostBL X.K cA as ow H ((bor ρ a (ev C ρ a) st).bind fun d st => (evBs C ρ r st).bind fun ds st => .ok (d :: ds) st) Q := h
  refine ⟨as, ow, ρ, st, E, R, postB_bind (P := fun r => PostBL X.K cA as ow H r Q) id (fun _ _ => id) h fun d st1 v as1 ow1 H1 p1 r1 h1 => ?_⟩
  refine ⟨as1, ow1, ρ, st1, E.pst R p1, p1.rel, postBL_bind (P := fun r => PostBL X.K cA as ow H r Q) id (fun _ _ => id) h1 fun ds st2 vs as2 ow2 H2 p2 r2 h2 => ?_⟩
  exact h2 (v :: vs) as2 ow2 H2 (p1.trans p2) (.cons (r1.pst p1.rel p2) r2)
theorem evs_len (C : Calls) (ρ : Slots) : ∀ (es : List E) (st : Sto) (ds : List D) (st' : Sto), evs C ρ es st = .ok ds st' → ds.length = es.length
  | [], st, ds, st', h => by cases h; rfl
  | e :: r, st, ds, st', h => by
    have h : ((ev C ρ e st).bind fun d st => (evs C ρ r st).bind fun ds st => .ok (frz d :: ds) st) = .ok ds st' := h
    cases e1 : ev C ρ e st with
    | ok d st1 =>
      rw [e1] at h
      cases e2 : evs C ρ r st1 with
      | ok ds2 st2 =>
        have h : (evs C ρ r st1).bind (fun ds st => R.ok (frz d :: ds) st) = .ok ds st' := h
        rw [e2] at h
        cases h
        simp [evs_len C ρ r _ _ _ e2]
      | _ => have h : (evs C ρ r st1).bind (fun ds st => R.ok (frz d :: ds) st) = .ok ds st' := h; rw [e2] at h; cases h
    | _ => rw [e1] at h; cases h
theorem snd_tup {es : List E} {xs : List Expr} {k : Nat} {pos : Pos} (h : PA X xs (semL X.K cA fun ρ st => evs C ρ es st)) (hl : es.length ≤ 1000) : PE X (.Tuple xs k pos) (semE X.K cA fun ρ st => ev C ρ (.tup es) st) := by
  refine pe_imp (pe_tup h) fun σ H Q h => ?_
  refine semL_bind (f := fun ρ ds st => .ok (.tup ds) st) h fun as ow H ρ st vs ds E R r ⟨st0, e⟩ h1 => ⟨?_, fun p hp => Out.newT (show Out X.K cA as ow H st (.tup ds) Q from h1) R r hp⟩
  rw [r.length, evs_len _ _ _ _ _ _ e, sizeLine_eq]; omega
theorem snd_lst {es : List E} {xs : List Expr} {pos : Pos} (h : PA X xs (semL X.K cA fun ρ st => evs C ρ es st)) (hl : es.length ≤ 1000) : PE X (.List xs pos) (semE X.K cA fun ρ st => ev C ρ (.lst es) st) := by
  refine pe_imp (pe_lst h) fun σ H Q h => ?_
  refine semL_bind (f := fun ρ ds st => .ok (.ol ds) st) h fun as ow H ρ st vs ds E R r ⟨st0, e⟩ h1 => ⟨?_, fun p hp => Out.newL (show Out X.K cA as ow H st (.ol ds) Q from h1) R r hp⟩
  rw [r.length, evs_len _ _ _ _ _ _ e, sizeLine_eq]; omega
theorem snd_dct {t : Bool} {pos : Pos} : PE X (.Dict [] [] pos) (semE X.K cA fun ρ st => ev C ρ (.dct t) st) := by
  cases t with
  | false =>
    refine pe_imp pe_dnewK fun σ H Q h => ?_
    obtain ⟨as, ow, ρ, st, E, R, h⟩ := h
    exact fun p hp => Out.newK (show Out X.K cA as ow H st (.od false []) Q from h) R .nil hp
  | true =>
    refine pe_imp pe_dnewT fun σ H Q h => ?_
    obtain ⟨as, ow, ρ, st, E, R, h⟩ := h
    exact fun p hp => Out.newDT (show Out X.K cA as ow H st (.od true []) Q from h) R .nil hp
end
end CM
end
section
set_option linter.all false
set_option maxRecDepth 100000
set_option maxHeartbeats 4000000
/-! Expressions, by construct: operators, tests, fields, slices, calls. -/
namespace CM
open PySem PySem.Spec PyProof.Rows L2
section
variable {cA : ClA} {C : Calls} {c : Cs} {X : Cx}
/-! ### operators -/
theorem opA_ok {o : Op} {p : Operator} (h : opA o p = true) : OpR X (binaryOp p) (rS X.K cA o) := by
  cases o <;> cases p <;> first | (cases h; done) | exact snd_add | exact snd_sub | exact snd_mul | exact snd_fdiv | exact snd_mod | exact snd_pow
theorem opC_ok {o : Op} {p : CmpOp} (h : opC o p = true) (hu : X.A.units + 65 < cLine) : OpR X (compareOp p) (rS X.K cA o) := by
  cases o <;> cases p <;> first | (cases h; done) | exact snd_eq (by omega) | exact snd_ne (by omega) | exact snd_lt (by omega) | exact snd_le | exact snd_gt | exact snd_ge | exact snd_in hu | exact snd_notin hu
abbrev BorE (cA : ClA) (C : Calls) (X : Cx) (a : E) (x : Expr) : Prop := PE X x (semB X.K cA fun ρ st => bor ρ a (ev C ρ a) st)
abbrev ValE (cA : ClA) (C : Calls) (X : Cx) (a : E) (x : Expr) : Prop := PE X x (semE X.K cA fun ρ st => ev C ρ a st)
abbrev TesE (cA : ClA) (C : Calls) (X : Cx) (a : E) (x : Expr) : Prop := PT X x (semT X.K cA fun ρ st => ev C ρ a st)
theorem ValE.bor {a : E} {x : Expr} (h : ValE cA C X a x) (ha : ∀ i, a ≠ .var i) : BorE cA C X a x := by
  have e : ∀ ρ st, CM.bor ρ a (ev C ρ a) st = ev C ρ a st := fun ρ st => by
    cases a <;> first | rfl | exact absurd rfl (ha _)
  show PE X x (semB X.K cA fun ρ st => CM.bor ρ a (ev C ρ a) st)
  simp only [e]
  exact pe_imp h fun σ H Q q => semB_E q
theorem snd_opA {o : Op} {p : Operator} {a b : E} {xa xb : Expr} {pos : Pos} (h : opA o p = true) (ha : BorE cA C X a xa) (hb : BorE cA C X b xb) : ValE cA C X (.op o a b) (.BinOp xa p xb pos) :=
  pe_imp (pe_op (opA_ok (cA := cA) h) ha hb) fun _ _ _ q => semE_op q
theorem snd_opC {o : Op} {p : CmpOp} {a b : E} {xa xb : Expr} {pos : Pos} (Dc : Dy cA C c X) (h : opC o p = true) (hm : behindInMarks p xb = false) (ha : BorE cA C X a xa) (hb : BorE cA C X b xb) : ValE cA C X (.op o a b) (.Compare xa [p] [xb] pos) :=
  pe_imp (pe_cmpR (opC_ok (cA := cA) h Dc.hu) ha hb hm) fun _ _ _ q => semE_op q
theorem snd_opCT {o : Op} {p : CmpOp} {a b : E} {xa xb : Expr} {pos : Pos} (Dc : Dy cA C c X) (h : opC o p = true) (hm : behindInMarks p xb = false) (ha : BorE cA C X a xa) (hb : BorE cA C X b xb) : TesE cA C X (.op o a b) (.Compare xa [p] [xb] pos) :=
  pt_imp (pt_cmpR (opC_ok (cA := cA) h Dc.hu) ha hb hm) fun _ _ _ q => semE_op (semT_E q)
theorem snd_opI {a b : E} {xa xb : Expr} {pos : Pos} (Dc : Dy cA C c X) (hs : okHead xb = true) (ha : BorE cA C X a xa) (hb : BorE cA C X b xb) : ValE cA C X (.op .idx a b) (.Subscript xa xb pos) :=
  pe_imp (pe_ix (snd_idx (cA := cA) Dc.hu) ha hb (plain_ix hs)) fun _ _ _ q => semE_op q
theorem snd_neg {a : E} {xa : Expr} {pos : Pos} (ha : ValE cA C X a xa) : ValE cA C X (.neg a) (.UnaryOp .USub xa pos) := by
  refine pe_imp (pe_un un_neg ha) fun σ H Q h => ?_
  refine semE_bindE (f := fun ρ x st => match x with
    | .int i => .ok (.int (-i)) st
    | _ => .bad) h fun as ow H ρ st v d E R r h1 => ?_
  cases d with
  | int i => exact ⟨i, int_rd r, Out.here (show Out X.K cA as ow H st (.int (-i)) Q from h1) R (.int _) rfl⟩
  | _ => exact h1.elim
theorem snd_not {a : E} {xa : Expr} {pos : Pos} (ha : ValE cA C X a xa) : ValE cA C X (.not a) (.UnaryOp .Not xa pos) := by
  refine pe_imp (pe_not ha) fun σ H Q h => ?_
  refine semE_bindE (f := fun ρ x st => match x with
    | .bl b => .ok (.bl (!b)) st
    | _ => .bad) h fun as ow H ρ st v d E R r h1 => ?_
  cases d with
  | bl i => exact ⟨i, bl_rd r, Out.here (show Out X.K cA as ow H st (.bl (!i)) Q from h1) R (.bl _) rfl⟩
  | _ => exact h1.elim
theorem snd_notT {a : E} {xa : Expr} {pos : Pos} (ha : TesE cA C X a xa) : TesE cA C X (.not a) (.UnaryOp .Not xa pos) := by
  refine pt_imp (pt_not ha) fun σ H Q h => ?_
  exact semT_bindT (f := fun ρ x st => match x with
    | .bl b => .ok (.bl (!b)) st
    | _ => .bad) (fun ρ d st hd => by cases d <;> first | rfl | exact absurd rfl (hd _)) h fun as ow H ρ st b E R h1 => h1 as ow H (Pst.refl R)
/-- and, or: values -/
theorem snd_and1 {a : E} {xa : Expr} {pos : Pos} (ha : ValE cA C X a xa) : PE X (.BoolOp .And [xa] pos) (semE X.K cA fun ρ st => evAnd C ρ [a] st) := by
  refine pe_imp (pe_one ha) fun σ H Q h => ?_
  refine semE_bindE (f := fun ρ x st => match x with
    | .bl true => evAnd C ρ [] st
    | .bl false => .ok (.bl false) st
    | _ => .bad) h fun as ow H ρ st v d E R r h1 => ?_
  cases d with
  | bl b =>
    have e := bl_rd r
    subst e
    cases b with
    | true => exact Out.here (show Out X.K cA as ow H st (.bl true) Q from h1) R (.bl _) rfl
    | false => exact Out.here (show Out X.K cA as ow H st (.bl false) Q from h1) R (.bl _) rfl
  | _ => exact h1.elim
theorem snd_or1 {a : E} {xa : Expr} {pos : Pos} (ha : ValE cA C X a xa) : PE X (.BoolOp .Or [xa] pos) (semE X.K cA fun ρ st => evOr C ρ [a] st) := by
  refine pe_imp (pe_one ha) fun σ H Q h => ?_
  refine semE_bindE (f := fun ρ x st => match x with
    | .bl true => .ok (.bl true) st
    | .bl false => evOr C ρ [] st
    | _ => .bad) h fun as ow H ρ st v d E R r h1 => ?_
  cases d with
  | bl b =>
    have e := bl_rd r
    subst e
    cases b with
    | true => exact Out.here (show Out X.K cA as ow H st (.bl true) Q from h1) R (.bl _) rfl
    | false => exact Out.here (show Out X.K cA as ow H st (.bl false) Q from h1) R (.bl _) rfl
  | _ => exact h1.elim
theorem snd_andC {a b : E} {r : List E} {xa xb : Expr} {xr : List Expr} {pos : Pos} (ha : ValE cA C X a xa) (hb : PE X (.BoolOp .And (xb :: xr) pos) (semE X.K cA fun ρ st => evAnd C ρ (b :: r) st)) :
    PE X (.BoolOp .And (xa :: xb :: xr) pos) (semE X.K cA fun ρ st => evAnd C ρ (a :: b :: r) st) := by
  refine pe_imp (pe_and ha hb) fun σ H Q h => ?_
  refine semE_bindE (f := fun ρ x st => match x with
    | .bl true => evAnd C ρ (b :: r) st
    | .bl false => .ok (.bl false) st
    | _ => .bad) h fun as ow H ρ st v d E R r h1 => ?_
  cases d with
  | bl k =>
    refine ⟨k, bl_rd r, ?_⟩
    cases k with
    | true => exact ⟨as, ow, ρ, st, E, R, h1⟩
    | false => exact Out.here (show Out X.K cA as ow H st (.bl false) Q from h1) R (.bl _) rfl
  | _ => exact h1.elim
theorem snd_orC {a b : E} {r : List E} {xa xb : Expr} {xr : List Expr} {pos : Pos} (ha : ValE cA C X a xa) (hb : PE X (.BoolOp .Or (xb :: xr) pos) (semE X.K cA fun ρ st => evOr C ρ (b :: r) st)) :
    PE X (.BoolOp .Or (xa :: xb :: xr) pos) (semE X.K cA fun ρ st => evOr C ρ (a :: b :: r) st) := by
  refine pe_imp (pe_or ha hb) fun σ H Q h => ?_
  refine semE_bindE (f := fun ρ x st => match x with
    | .bl true => .ok (.bl true) st
    | .bl false => evOr C ρ (b :: r) st
    | _ => .bad) h fun as ow H ρ st v d E R r h1 => ?_
  cases d with
  | bl k =>
    refine ⟨k, bl_rd r, ?_⟩
    cases k with
    | false => exact ⟨as, ow, ρ, st, E, R, h1⟩
    | true => exact Out.here (show Out X.K cA as ow H st (.bl true) Q from h1) R (.bl _) rfl
  | _ => exact h1.elim
/-- and, or: tests -/
theorem snd_and1T {a : E} {xa : Expr} {pos : Pos} (ha : TesE cA C X a xa) : PW X (.BoolOp .And [xa] pos) (semT X.K cA fun ρ st => evAnd C ρ [a] st) := by
  refine pw_imp (pw_and1 ha) fun σ H Q h => ?_
  refine semT_bindT (f := fun ρ x st => match x with
    | .bl true => evAnd C ρ [] st
    | .bl false => .ok (.bl false) st
    | _ => .bad) (fun ρ d st hd => by cases d <;> first | rfl | exact absurd rfl (hd _)) h fun as ow H ρ st b E R h1 => ?_
  cases b with
  | true => exact h1 as ow H (Pst.refl R)
  | false => exact h1 as ow H (Pst.refl R)
theorem snd_or1T {a : E} {xa : Expr} {pos : Pos} (ha : TesE cA C X a xa) : PW X (.BoolOp .Or [xa] pos) (semT X.K cA fun ρ st => evOr C ρ [a] st) := by
  refine pw_imp (pw_or1 ha) fun σ H Q h => ?_
  refine semT_bindT (f := fun ρ x st => match x with
    | .bl true => .ok (.bl true) st
    | .bl false => evOr C ρ [] st
    | _ => .bad) (fun ρ d st hd => by cases d <;> first | rfl | exact absurd rfl (hd _)) h fun as ow H ρ st b E R h1 => ?_
  cases b with
  | true => exact h1 as ow H (Pst.refl R)
  | false => exact h1 as ow H (Pst.refl R)
theorem snd_andCT {a b : E} {r : List E} {xa xb : Expr} {xr : List Expr} {pos : Pos} (ha : TesE cA C X a xa) (hb : PW X (.BoolOp .And (xb :: xr) pos) (semT X.K cA fun ρ st => evAnd C ρ (b :: r) st)) :
    PW X (.BoolOp .And (xa :: xb :: xr) pos) (semT X.K cA fun ρ st => evAnd C ρ (a :: b :: r) st) := by
  refine pw_imp (pw_and ha hb) fun σ H Q h => ?_
  refine semT_bindT (f := fun ρ x st => match x with
    | .bl true => evAnd C ρ (b :: r) st
    | .bl false => .ok (.bl false) st
    | _ => .bad) (fun ρ d st hd => by cases d <;> first | rfl | exact absurd rfl (hd _)) h fun as ow H ρ st k E R h1 => ?_
  cases k with
  | true => exact ⟨as, ow, ρ, st, E, R, h1⟩
  | false => exact h1 as ow H (Pst.refl R)
theorem snd_orCT {a b : E} {r : List E} {xa xb : Expr} {xr : List Expr} {pos : Pos} (ha : TesE cA C X a xa) (hb : PW X (.BoolOp .Or (xb :: xr) pos) (semT X.K cA fun ρ st => evOr C ρ (b :: r) st)) :
    PW X (.BoolOp .Or (xa :: xb :: xr) pos) (semT X.K cA fun ρ st => evOr C ρ (a :: b :: r) st) := by
  refine pw_imp (pw_or ha hb) fun σ H Q h => ?_
  refine semT_bindT (f := fun ρ x st => match x with
    | .bl true => .ok (.bl true) st
    | .bl false => evOr C ρ (b :: r) st
    | _ => .bad) (fun ρ d st hd => by cases d <;> first | rfl | exact absurd rfl (hd _)) h fun as ow H ρ st k E R h1 => ?_
  cases k with
  | false => exact ⟨as, ow, ρ, st, E, R, h1⟩
  | true => exact h1 as ow H (Pst.refl R)
theorem snd_ife {t a b : E} {xt xa xb : Expr} {pos : Pos} (ht : TesE cA C X t xt) (ha : ValE cA C X a xa) (hb : ValE cA C X b xb) : ValE cA C X (.ife t a b) (.IfExp xt xa xb pos) := by
  refine pe_imp (pe_ifExp ht ha hb) fun σ H Q h => ?_
  refine semT_bind (f := fun ρ x st => match x with
    | .bl true => ev C ρ a st
    | .bl false => ev C ρ b st
    | _ => .bad) (fun ρ d st hd => by cases d <;> first | rfl | exact absurd rfl (hd _)) h fun as ow H ρ st k E R h1 => ?_
  cases k with
  | true => exact ⟨as, ow, ρ, st, E, R, h1⟩
  | false => exact ⟨as, ow, ρ, st, E, R, h1⟩
/-! ### is None -/
theorem isNon_rd {K : PySem.W.Frag} {as : List Addr} {ow : Addr → Prop} {H : Hp} {v : V} {d : D} (h : RepX K as ow H v d) : decide (v = .non) = isNon d := by
  cases d with
  | ol _ => obtain ⟨p, vs, rfl, _⟩ := h; rfl
  | od t _ => cases t <;> (obtain ⟨p, vs, rfl, _⟩ := h; rfl)
  | _ => cases h <;> rfl
theorem semE_isN {fa : Slots → Sto → R D} {K : PySem.W.Frag} {σ : L2.St} {H : Hp} {Q : VK} (h : semE K cA (fun ρ st => (fa ρ st).bind fun x st => .ok (.bl (isNon x)) st) σ H Q) : tIsN (semB K cA fa) σ H Q := by
  refine semE_bind (f := fun ρ x st => .ok (.bl (isNon x)) st) h fun as ow H ρ st v d E R r h1 => ?_
  rw [isNon_rd r]
  exact Out.here (show Out K cA as ow H st (.bl (isNon d)) Q from h1) R (.bl _) rfl
theorem semE_notN {fa : Slots → Sto → R D} {K : PySem.W.Frag} {σ : L2.St} {H : Hp} {Q : VK} (h : semE K cA (fun ρ st => (fa ρ st).bind fun x st => .ok (.bl (!isNon x)) st) σ H Q) : tNotN (semB K cA fa) σ H Q := by
  refine semE_bind (f := fun ρ x st => .ok (.bl (!isNon x)) st) h fun as ow H ρ st v d E R r h1 => ?_
  rw [isNon_rd r]
  exact Out.here (show Out K cA as ow H st (.bl (!isNon d)) Q from h1) R (.bl _) rfl
theorem snd_isN {a : E} {xa : Expr} {pos pos' : Pos} {j : Nat} (ha : BorE cA C X a xa) : ValE cA C X (.isN a) (.Compare xa [.Is] [.Constant .none j pos'] pos) :=
  pe_imp (pe_cmp (pc_isN ha)) fun _ _ _ q => semE_isN q
theorem snd_notN {a : E} {xa : Expr} {pos pos' : Pos} {j : Nat} (ha : BorE cA C X a xa) : ValE cA C X (.notN a) (.Compare xa [.IsNot] [.Constant .none j pos'] pos) :=
  pe_imp (pe_cmp (pc_notN ha)) fun _ _ _ q => semE_notN q
theorem snd_isNT {a : E} {xa : Expr} {pos pos' : Pos} {j : Nat} (ha : BorE cA C X a xa) : TesE cA C X (.isN a) (.Compare xa [.Is] [.Constant .none j pos'] pos) :=
  pt_imp (pt_cmp (pc_isN ha)) fun _ _ _ q => semE_isN (semT_E q)
theorem snd_notNT {a : E} {xa : Expr} {pos pos' : Pos} {j : Nat} (ha : BorE cA C X a xa) : TesE cA C X (.notN a) (.Compare xa [.IsNot] [.Constant .none j pos'] pos) :=
  pt_imp (pt_cmp (pc_notN ha)) fun _ _ _ q => semE_notN (semT_E q)
/-- any other value, as a test -/
def plainT : Expr → Bool
  | .Name _ _ => true
  | .Constant _ _ _ => true
  | .Call _ _ _ _ => true
  | .Attribute _ _ _ => true
  | .Subscript _ _ _ => true
  | _ => false
theorem snd_plainT {a : E} {xa : Expr} (h : plainT xa = true) (ha : ValE cA C X a xa) : TesE cA C X a xa := by
  refine pt_imp (pt_val ha fun whole => ?_) fun σ H Q q => semE_T q
  cases xa <;> first | rfl | cases h
/-! ### fields -/
theorem Fl.s_inj {f g : Fl} (h : f.s = g.s) : f = g := by
  revert h
  cases f <;> cases g <;> first | (intro _; rfl) | (intro h; exact absurd h (by decide +kernel))
theorem repF_get {K : PySem.W.Frag} {as : List Addr} {ow : Addr → Prop} {H : Hp} (f : Fl) : ∀ {gs : List (Str × V)} {fs : List (Fl × D)} {d : D}, RepF K as ow H gs fs → fs.lookup f = some d → ∃ v, gs.lookup f.s = some v ∧ RepV K as ow H v d
  | _, _, _, .nil, h => by cases h
  | _, _, d, .cons (f := g) (d := d') q r, h => by
    by_cases e : f = g
    · subst e
      simp [List.lookup_cons] at h
      subst h
      exact ⟨_, by simp [List.lookup_cons], q⟩
    · have e2 : (f == g) = false := by simpa using e
      have e3 : (f.s == g.s) = false := by
        rw [beq_eq_false_iff_ne]
        exact fun z => e (Fl.s_inj z)
      simp only [List.lookup_cons, e2] at h
      obtain ⟨v, h1, h2⟩ := repF_get f r h
      exact ⟨v, by simp only [List.lookup_cons, e3]; exact h1, h2⟩
theorem snd_fld {a : E} {xa : Expr} {f : Fl} {pos : Pos} {y : Str} (Dc : Dy cA C c X) (hy : y = f.s) (hb : noCall0 xa = true) (ha : ValE cA C X a xa) : ValE cA C X (.fld a f) (.Attribute xa y pos) := by
  subst hy
  refine pe_imp (pe_fld ha (base_ok hb)) fun σ H Q h => ?_
  refine semE_bindE (f := fun ρ x st => ofO st (fldOf st f x)) h fun as ow H ρ st v d E R r h1 => ?_
  obtain ⟨d2, e, o⟩ := h1.ofO
  cases d with
  | ref n =>
    cases r with
    | @ref _ ad ea =>
      cases ec : st[n]? with
      | none => simp [fldOf, ec] at e
      | some cell =>
        simp only [fldOf, ec] at e
        cases cell with
        | obj k fs =>
          obtain ⟨C', dx, gs, h0, h2, h3⟩ := R.cell n _ _ ec ea
          obtain ⟨v, h4, h5⟩ := repF_get f h3 e
          have io := Dc.ins k C' h0
          exact ⟨ad, C', dx, gs, v, rfl, h2, io.cl, io.noat f, h4, o.here R h5 (rep_free h5)⟩
        | _ => cases e
  | _ => cases e
/-! ### slices -/
theorem cutL_whole {α : Type} (xs : List α) (lo hi : Option Int) (h : HT.sIx xs.length 0 lo = 0 ∧ HT.sIx xs.length xs.length hi = xs.length) : cutL xs lo hi = xs := by
  unfold cutL
  rw [h.1, h.2]; simp
def rSl (K : PySem.W.Frag) (cA : ClA) : V → Option Int → Option Int → Hp → VK → Prop := fun x lo hi H Q => ∃ as ow st a d, Rel K cA as ow H st ∧ RepX K as ow H x a ∧ sliceS st a lo hi = some d ∧ Out K cA as ow H st d Q
theorem cutS_toStr (z : List Char) (lo hi : Option Int) : cutS (toStr z) lo hi = toStr (cutL z lo hi) := by
  apply Str.ext'
  apply Array.toList_inj.mp
  unfold cutS cutL
  rw [toStr_len]
  show (((toStr z).cps.toList.drop (HT.sIx z.length 0 lo)).take (HT.sIx z.length z.length hi - HT.sIx z.length 0 lo)) = ((toStr ((z.drop (HT.sIx z.length 0 lo)).take (HT.sIx z.length z.length hi - HT.sIx z.length 0 lo))).cps.toList)
  rw [toStr_tl, toStr_tl, List.map_take, List.map_drop]
theorem sl_all : SlR X (rSl X.K cA) := by
  intro pins s σ H x v vl vu lo hi sl Q I rx hs pl pu h
  obtain ⟨as, ow, st, a, d, R, ha, e, out⟩ := h
  unfold sliceS at e
  split at e
  · rename_i z
    split at e
    · rename_i hz
      cases e
      refine sl_str pins s σ H x v vl vu lo hi sl Q I rx hs pl pu ⟨_, str_rd ha, by rw [toStr_len, sizeLine_eq]; exact hz, ?_⟩
      rw [cutS_toStr]
      exact out.here R (.str _) rfl
    · cases e
  · rename_i xs
    cases e
    obtain ⟨p, vs, rfl, hp, rv⟩ := tup_rd ha
    refine sl_tupA pins s σ H _ v vl vu lo hi sl Q I rx hs pl pu ⟨p, vs, rfl, .of hp, fun hw => ?_, fun _ q hq => out.newT R (rv.cut lo hi) hq⟩
    rw [rv.length] at hw
    rw [cutL_whole xs lo hi hw] at out
    exact out.here R (.tup hp rv) rfl
  · cases h2 : lsOf st a with
    | none => rw [h2] at e; cases e
    | some xs =>
      rw [h2] at e; cases e
      obtain ⟨p, vs, rfl, hp, rv⟩ := ls_rd R ha h2
      exact sl_list pins s σ H _ v vl vu lo hi sl Q I rx hs pl pu ⟨p, vs, rfl, hp, fun q hq => out.newL R (rv.cut lo hi) hq⟩
theorem snd_oN : PO X none (semO X.K cA fun ρ st => evO C ρ none st) := by
  refine po_imp po_none fun σ H Q h => ?_
  obtain ⟨as, ow, ρ, st, E, R, h⟩ := h
  exact h as ow H (Pst.refl R)
theorem snd_oS {a : E} {xa : Expr} (ha : ValE cA C X a xa) : PO X (some xa) (semO X.K cA fun ρ st => evO C ρ (some a) st) := by
  refine po_imp (po_some ha) fun σ H Q h => ?_
  obtain ⟨as, ow, ρ, st, E, R, h⟩ := h
  have h : PostO X.K cA as ow H ((ev C ρ a st).bind fun d st => match d with
    | .int i => .ok (some i) st
    | _ => .bad) Q := h
  refine ⟨as, ow, ρ, st, E, R, post_bind (P := fun r => PostO X.K cA as ow H r Q) id (fun _ _ => id) h trivial fun d st1 v as1 ow1 H1 p r _ h1 => ?_⟩
  cases d with
  | int i => exact ⟨i, int_rd r, h1 as1 ow1 H1 p⟩
  | _ => exact h1.elim
theorem snd_slice {a : E} {lo hi : Option E} {xa : Expr} {xl xh : Option Expr} {pos p2 : Pos} (ha : BorE cA C X a xa) (hl : PO X xl (semO X.K cA fun ρ st => evO C ρ lo st)) (hh : PO X xh (semO X.K cA fun ρ st => evO C ρ hi st)) :
    ValE cA C X (.slice a lo hi) (.Subscript xa (.Slice xl xh none p2) pos) := by
  refine pe_imp (pe_slice (sl_all (cA := cA)) ha hl hh) fun σ H Q h => ?_
  refine semE_bind (f := fun ρ x st => (evO C ρ lo st).bind fun l st => (evO C ρ hi st).bind fun h st => ofO st (sliceS st x l h)) h fun as ow H ρ st v d E R r h1 => ?_
  refine ⟨as, ow, ρ, st, E, R, postO_bind (P := fun r => PostE X.K cA as ow H r Q) id (fun _ _ => id) h1 fun l st2 as2 ow2 H2 p2 h2 => ?_⟩
  refine ⟨as2, ow2, ρ, st2, E.pst R p2, p2.rel, postO_bind (P := fun r => PostE X.K cA as ow H r Q) id (fun _ _ => id) h2 fun u st3 as3 ow3 H3 p3 h3 => ?_⟩
  obtain ⟨d3, e, o⟩ := h3.ofO
  exact ⟨as3, ow3, st3, d, d3, p3.rel, (r.pst R p2).pst p2.rel p3, e, Out.pst (as2 := as) (ow2 := ow) (H2 := H) (p2.trans p3) o⟩
/-! ### calls of one's own -/
theorem snd_call {k : Nat} {es : List E} {x : Str} {e0 : Expr} {xs : List Expr} {p pos : Pos} (Dc : Dy cA C c X) (hk : c.fs[k]? = some x) (hg : glB c.sc x = true) (hx : okNm x = true) (hh : (e0 :: xs).all okHead = true)
    (ha : PA X (e0 :: xs) (semL X.K cA fun ρ st => evs C ρ es st)) : ValE cA C X (.call k es) (.Call (.Name x p) (e0 :: xs) [] pos) := by
  simp only [okNm, Bool.and_eq_true, Bool.not_eq_true'] at hx
  simp only [List.all_cons, Bool.and_eq_true] at hh
  refine ⟨fun pins s σ H Q I h => ?_⟩
  obtain ⟨u, hm, hkp, run⟩ := (Dc.call k x hk).ex
  refine wpAny_Call_Name_kw (ld_glob I (by unfold Gl Env.kindOf; rw [Dc.sc]; exact gl_ok hg) hm ?_ hx.1)
  have q := semL_bind (cA := cA) (QQ := fun vs H2 => CallPre X.K cA (C.f k) vs H2 Q) (f := fun ρ ds st => C.f k ds st) h fun as ow H ρ st vs ds E R r _ h1 => ⟨as, ow, st, ds, R, r, h1⟩
  refine PySem.W.callWith_K (h₀ := X.base) I.ok.mod.kin hkp (thn (ha.run pos pins s σ H _ I q) fun us s1 ⟨vs, H1, I1, r, q1⟩ => ⟨I1.kIn, ?_⟩) (star_one hh.1 xs X.env) (back_plain hh.2)
  exact run X rfl rfl rfl rfl rfl rfl pins s1 σ H1 Q us vs I1 r q1
theorem snd_call0 {k : Nat} {x : Str} {p pos : Pos} (Dc : Dy cA C c X) (hk : c.fs[k]? = some x) (hg : glB c.sc x = true) (hx : okNm x = true) : ValE cA C X (.call k []) (.Call (.Name x p) [] [] pos) := by
  simp only [okNm, Bool.and_eq_true, Bool.not_eq_true'] at hx
  refine ⟨fun pins s σ H Q I h => ?_⟩
  obtain ⟨u, hm, hkp, run⟩ := (Dc.call k x hk).ex
  refine wpAny_Call_Name_kw (ld_glob I (by unfold Gl Env.kindOf; rw [Dc.sc]; exact gl_ok hg) hm ?_ hx.1)
  obtain ⟨as, ow, ρ, st, E, R, h⟩ := h
  exact PySem.W.callWith_K0 I.kIn hkp (run X rfl rfl rfl rfl rfl rfl pins s σ H Q [] [] I .nil ⟨as, ow, st, [], R, .nil, h⟩)
/-! ### methods of one's own -/
theorem semE_meth {o : E} {es : List E} {k : Nat} {m : Str} {σ : L2.St} {H : Hp} {Q : VK} (Dc : Dy cA C c X) (hk : c.ms[k]? = some m) (h : semE X.K cA (fun ρ st => ev C ρ (.meth k o es) st) σ H Q) :
    semE X.K cA (fun ρ st => ev C ρ o st) σ H fun x H1 => ∃ a C' dx gs F, x = .ref a ∧ H1 a = some (.ins C' dx gs) ∧ gs.lookup m = none ∧ Cls X.K C' ∧ MethOk cA X.prog X.w X.K X.mg X.base X.A m C' F ∧
      semL X.K cA (fun ρ st => evs C ρ es st) σ H1 fun vs H2 => CallPre X.K cA F (.ref a :: vs) H2 Q := by
  refine semE_bindE (f := fun ρ x st => match (clsOf st x).bind (C.m k) with
    | some F => (evs C ρ es st).bind fun ds st => F (x :: ds) st
    | none => .bad) h fun as ow H ρ st v d E R r h1 => ?_
  cases hc : (clsOf st d).bind (C.m k) with
  | none => rw [hc] at h1; exact h1.elim
  | some F =>
    rw [hc] at h1
    have h1 : PostE X.K cA as ow H ((evs C ρ es st).bind fun ds st => F (d :: ds) st) Q := h1
    cases d with
    | ref n =>
      cases r with
      | @ref _ ad ea =>
        cases ec : st[n]? with
        | none => simp [clsOf, ec] at hc
        | some cell =>
          simp only [clsOf, ec] at hc
          cases cell with
          | obj cl fs =>
            have hc : C.m k cl = some F := hc
            obtain ⟨C', dx, gs, h0, h2, h3⟩ := R.cell n _ _ ec ea
            have mo := Dc.meth k m hk cl C' F h0 hc
            have nf : ∀ {gs : List (Str × V)} {fs : List (Fl × D)}, RepF X.K as ow H gs fs → gs.lookup m = none := by
              obtain ⟨_, _, hn, _⟩ := mo.ex
              intro gs fs q
              induction q with
              | nil => rfl
              | cons _ _ ih =>
                rename_i f v d r s _ _
                have e3 : (m == f.s) = false := by
                  rw [beq_eq_false_iff_ne]
                  exact fun z => hn f z.symm
                simp only [List.lookup_cons, e3]; exact ih
            refine ⟨ad, C', dx, gs, F, rfl, h2, nf h3, (Dc.ins cl C' h0).cl, mo, as, ow, ρ, st, E, R, ?_⟩
            refine postL_bind (P := fun r => PostE X.K cA as ow H r Q) id (fun _ _ => id) h1 fun ds st2 vs as2 ow2 H2 p2 r2 h4 => ?_
            exact ⟨as2, ow2, st2, .ref n :: ds, p2.rel, .cons (.ref (prefix_get p2.pre ea)) r2, PostE.pst p2 h4⟩
          | _ => cases hc
    | _ => cases hc
theorem mcall_eq {o : Expr} {m : Str} {apos pos : Pos} {xs : List Expr} {env : PySem.Env} (hb : noCall0 o = true) (hl : (apos.endLine == pos.line) = true) (h30 : xs.length < 30) (hh : xs.all okHead = true) :
    eval (.Call (.Attribute o m apos) xs [] pos) env = (do
      let ov ← eval o env
      standAt apos.atName
      let (f, first) ← holding [ov] (getMethod ov m (plainOf o env))
      callWith pos f first (backTo pos (starEach xs env)) (backToKw pos (keywordEach [] env))) := by
  rw [arm_eval_Call, base_ok hb]
  have e : ∀ ov, methodCall o m apos pos env ov (xs.length + ([] : List Keyword).length) (backTo pos (starEach xs env)) (backToKw pos (keywordEach [] env)) = _ := fun ov => mcall_line (few_ok hh h30) hl
  simp only [e]
theorem snd_meth {k : Nat} {o : E} {es : List E} {m : Str} {xo e0 : Expr} {xs : List Expr} {apos pos : Pos} (Dc : Dy cA C c X) (hk : c.ms[k]? = some m) (hb : noCall0 xo = true) (hl : (apos.endLine == pos.line) = true) (h30 : (e0 :: xs).length < 30) (hh : (e0 :: xs).all okHead = true)
    (ho : ValE cA C X o xo) (ha : PA X (e0 :: xs) (semL X.K cA fun ρ st => evs C ρ es st)) : ValE cA C X (.meth k o es) (.Call (.Attribute xo m apos) (e0 :: xs) [] pos) := by
  refine ⟨fun pins s σ H Q I h => ?_⟩
  have he := mcall_eq (m := m) (env := X.env) hb hl h30 hh
  simp only [List.all_cons, Bool.and_eq_true] at hh
  refine PySem.W.methodCall_KW (pl := plainOf xo X.env) (thn (ho.run pins s σ H _ I (semE_meth Dc hk h)) fun u s1 q0 => ?_) he
  obtain ⟨x, H1, I1, rx, a, C', dx, fs, F, ex, ea, l, cl, mo, q⟩ := q0
  subst ex
  obtain rfl : u = Value.ref a := rx
  obtain ⟨f, hm, _, run⟩ := mo.ex
  refine getmeth_ok I1 ea cl hm l ?_
  refine PySem.W.callWith_K (first := [.ref a]) (h₀ := X.base) I.ok.mod.kin hm.kp (thn (ha.run pos pins s1 σ H1 _ I1 q) fun us s2 ⟨vs, H2, I2, r, q2⟩ => ⟨I2.kIn, ?_⟩) (star_one hh.1 xs X.env) (back_plain hh.2)
  exact run X rfl rfl rfl rfl rfl rfl pins s2 σ H2 Q (.ref a :: us) (.ref a :: vs) I2 (.cons rfl r) q2
theorem snd_meth0 {k : Nat} {o : E} {m : Str} {xo : Expr} {apos pos : Pos} (Dc : Dy cA C c X) (hk : c.ms[k]? = some m) (hb : noCall0 xo = true) (hl : (apos.endLine == pos.line) = true)
    (ho : ValE cA C X o xo) : ValE cA C X (.meth k o []) (.Call (.Attribute xo m apos) [] [] pos) := by
  refine ⟨fun pins s σ H Q I h => ?_⟩
  have he := mcall_eq (xs := []) (m := m) (env := X.env) hb hl (by decide) rfl
  refine PySem.W.methodCall_KW (pl := plainOf xo X.env) (thn (ho.run pins s σ H _ I (semE_meth Dc hk h)) fun u s1 q0 => ?_) he
  obtain ⟨x, H1, I1, rx, a, C', dx, fs, F, ex, ea, l, cl, mo, q⟩ := q0
  subst ex
  obtain rfl : u = Value.ref a := rx
  obtain ⟨f, hm, _, run⟩ := mo.ex
  refine getmeth_ok I1 ea cl hm l ?_
  obtain ⟨as, ow, ρ, st, E, R, q⟩ := q
  exact PySem.W.callWith_K0 (first := [.ref a]) I1.kIn hm.kp (run X rfl rfl rfl rfl rfl rfl pins s1 σ H1 Q [.ref a] [.ref a] I1 (.cons rfl .nil) (q [] as ow H1 (Pst.refl R) .nil))
/-! ### built-in functions -/
theorem snd_bi {nm : String} {r : List V → Hp → VK → Prop} {b : Bi} {es : List E} {e0 : Expr} {xs : List Expr} {x : Str} {p pos : Pos} (Dc : Dy cA C c X) (hc : CallR X (.builtin nm) (rB X.K cA b)) (hv : bootBuiltins x = some (.builtin nm)) (hf : x ∈ bltNames) (hg : glB c.sc x = true) (hx : okNm x = true) (hn : x ≠ "__name__")
    (hh : (e0 :: xs).all okHead = true) (ha : PA X (e0 :: xs) (semBL X.K cA fun ρ st => evBs C ρ es st)) : ValE cA C X (.bi b es) (.Call (.Name x p) (e0 :: xs) [] pos) := by
  simp only [okNm, Bool.and_eq_true, Bool.not_eq_true'] at hx
  simp only [List.all_cons, Bool.and_eq_true] at hh
  refine pe_imp (pe_callB hc (by unfold Gl Env.kindOf; rw [Dc.sc]; exact gl_ok hg) (Dc.free x hf) hv ha hn hx.1 (star_one hh.1 xs X.env) (back_plain hh.2)) fun σ H Q h => ?_
  refine semBL_bind (f := fun ρ ds st => ofO st (biS st b ds)) h fun as ow H ρ st vs ds E R r h1 => ?_
  obtain ⟨d, e, o⟩ := h1.ofO
  exact ⟨as, ow, st, ds, d, R, r, e, o⟩
theorem snd_biT {nm : String} {b : Bi} {es : List E} {e0 : Expr} {xs : List Expr} {x : Str} {p pos : Pos} (Dc : Dy cA C c X) (hc : CallR X (.type nm) (rB X.K cA b)) (hv : bootBuiltins x = some (.type nm)) (hf : x ∈ bltNames) (hg : glB c.sc x = true) (hx : okNm x = true) (hn : x ≠ "__name__")
    (hh : (e0 :: xs).all okHead = true) (ha : PA X (e0 :: xs) (semBL X.K cA fun ρ st => evBs C ρ es st)) : ValE cA C X (.bi b es) (.Call (.Name x p) (e0 :: xs) [] pos) := by
  simp only [okNm, Bool.and_eq_true, Bool.not_eq_true'] at hx
  simp only [List.all_cons, Bool.and_eq_true] at hh
  refine pe_imp (pe_callTy hc (by unfold Gl Env.kindOf; rw [Dc.sc]; exact gl_ok hg) (Dc.free x hf) hv ha hn hx.1 (star_one hh.1 xs X.env) (back_plain hh.2)) fun σ H Q h => ?_
  refine semBL_bind (f := fun ρ ds st => ofO st (biS st b ds)) h fun as ow H ρ st vs ds E R r h1 => ?_
  obtain ⟨d, e, o⟩ := h1.ofO
  exact ⟨as, ow, st, ds, d, R, r, e, o⟩
/-- one of the built-in functions by name -/
theorem snd_biN {b : Bi} {es : List E} {e0 : Expr} {xs : List Expr} {x : Str} {p pos : Pos} {y : String × Bool} (Dc : Dy cA C c X) (hb : biNm b = some y) (hy : x = y.1) (hg : glB c.sc x = true)
    (hh : (e0 :: xs).all okHead = true) (ha : PA X (e0 :: xs) (semBL X.K cA fun ρ st => evBs C ρ es st)) : ValE cA C X (.bi b es) (.Call (.Name x p) (e0 :: xs) [] pos) := by
  cases b <;> cases hb <;> subst hy
  · exact snd_bi (r := fun _ _ _ => True) Dc snd_len boot_len (by decide +kernel) hg (by decide +kernel) (by decide +kernel) hh ha
  · exact snd_biT Dc snd_intB boot_int (by decide +kernel) hg (by decide +kernel) (by decide +kernel) hh ha
  · exact snd_biT Dc snd_strB boot_str (by decide +kernel) hg (by decide +kernel) (by decide +kernel) hh ha
  · exact snd_biT Dc snd_tupB boot_tuple (by decide +kernel) hg (by decide +kernel) (by decide +kernel) hh ha
  · exact snd_biT Dc (snd_lstB Dc.calm) boot_list (by decide +kernel) hg (by decide +kernel) (by decide +kernel) hh ha
  · exact snd_bi (r := fun _ _ _ => True) Dc snd_abs boot_abs (by decide +kernel) hg (by decide +kernel) (by decide +kernel) hh ha
  · exact snd_bi (r := fun _ _ _ => True) Dc (snd_min2 Dc.calm) boot_min (by decide +kernel) hg (by decide +kernel) (by decide +kernel) hh ha
  · exact snd_bi (r := fun _ _ _ => True) Dc (snd_max2 Dc.calm) boot_max (by decide +kernel) hg (by decide +kernel) (by decide +kernel) hh ha
  · exact snd_bi (r := fun _ _ _ => True) Dc snd_ord boot_ord (by decide +kernel) hg (by decide +kernel) (by decide +kernel) hh ha
  · exact snd_bi (r := fun _ _ _ => True) Dc (snd_all Dc.calm) boot_all (by decide +kernel) hg (by decide +kernel) (by decide +kernel) hh ha
  · exact snd_bi (r := fun _ _ _ => True) Dc (snd_max1 Dc.calm) boot_max (by decide +kernel) hg (by decide +kernel) (by decide +kernel) hh ha
end
end CM
end
section
set_option linter.all false
set_option maxRecDepth 100000
set_option maxHeartbeats 4000000
/-! Comprehensions. -/
namespace CM
open PySem PySem.Spec PyProof.Rows L2
mutual
theorem deq_eq : ∀ {a b : D}, deq a b = true → a = b
  | .non, b, h => by cases b <;> first | rfl | cases h
  | .bl x, b, h => by cases b <;> first | (simp [deq] at h; subst h; rfl) | cases h
  | .int x, b, h => by cases b <;> first | (simp [deq] at h; subst h; rfl) | cases h
  | .str x, b, h => by cases b <;> first | (simp [deq] at h; subst h; rfl) | cases h
  | .ref x, b, h => by cases b <;> first | (simp [deq] at h; subst h; rfl) | cases h
  | .tup xs, b, h => by cases b <;> first | (have := deqs_eq (show deqs xs _ = true from h); subst this; rfl) | cases h
  | .fl xs, b, h => by cases b <;> first | (have := deqs_eq (show deqs xs _ = true from h); subst this; rfl) | cases h
  | .sc xs, b, h => by cases b <;> first | (have := deqs_eq (show deqs xs _ = true from h); subst this; rfl) | cases h
  | .ol xs, b, h => by cases b <;> first | (have := deqs_eq (show deqs xs _ = true from h); subst this; rfl) | cases h
  | .fd t xs, b, h => by
    cases b <;> first | (rename_i t' ys; simp only [deq, Bool.and_eq_true, beq_iff_eq] at h; obtain ⟨h1, h2⟩ := h; subst h1; have := deqk_eq h2; subst this; rfl) | cases h
  | .od t xs, b, h => by
    cases b <;> first | (rename_i t' ys; simp only [deq, Bool.and_eq_true, beq_iff_eq] at h; obtain ⟨h1, h2⟩ := h; subst h1; have := deqk_eq h2; subst this; rfl) | cases h
theorem deqs_eq : ∀ {a b : List D}, deqs a b = true → a = b
  | [], b, h => by cases b <;> first | rfl | cases h
  | x :: xs, b, h => by
    cases b with
    | nil => cases h
    | cons y ys =>
      simp only [deqs, Bool.and_eq_true] at h
      rw [deq_eq h.1, deqs_eq h.2]
theorem deqk_eq : ∀ {a b : List (Ky × D)}, deqk a b = true → a = b
  | [], b, h => by cases b <;> first | rfl | cases h
  | (k, x) :: xs, b, h => by
    cases b with
    | nil => cases h
    | cons y ys =>
      obtain ⟨j, y⟩ := y
      simp only [deqk, Bool.and_eq_true, decide_eq_true_eq] at h
      obtain ⟨⟨h1, h2⟩, h3⟩ := h
      rw [h1, deq_eq h2, deqk_eq h3]
end
theorem still_ls {st st' : Sto} : ∀ {ds : List D}, still st st' ds = true → ∀ d ∈ ds, lsOf st' d = lsOf st d
  | [], _, _, h => by cases h
  | d :: r, hs, e, h => by
    have key : lsOf st' d = lsOf st d ∧ still st st' r = true := by
      cases d with
      | ref n =>
        simp only [still, Bool.and_eq_true] at hs
        refine ⟨?_, hs.2⟩
        have h1 := hs.1
        show (match st'[n]? with
          | some (.lst xs) => some xs
          | _ => none) = (match st[n]? with
          | some (.lst xs) => some xs
          | _ => none)
        revert h1
        cases st[n]? with
        | none => intro h1; cases h1
        | some c =>
          cases st'[n]? with
          | none => intro h1; cases c <;> cases h1
          | some c' =>
            intro h1
            cases c <;> cases c' <;> first | cases h1 | skip
            · rw [deqs_eq h1]
            · rfl
      | _ => exact ⟨rfl, hs⟩
    rcases List.mem_cons.mp h with h | h
    · rw [h]; exact key.1
    · exact still_ls key.2 e h
theorem still_items {st st' : Sto} {ds items : List D} {k : Ik} (h : still st st' ds = true) (e : itemsOf st k ds = some items) : itemsOf st' k ds = some items := by
  have L := still_ls h
  cases k with
  | seq =>
    match ds, e, L with
    | [], e, _ => simp [itemsOf] at e
    | [d], e, L =>
      have l := L d (by simp)
      cases d <;> first | exact e | (simp only [itemsOf] at e ⊢; rw [l]; exact e)
    | _ :: _ :: _, e, _ => simp [itemsOf] at e
  | keys => match ds, e with
    | [.fd _ _], e => exact e
  | items => match ds, e with
    | [.fd false _], e => exact e
  | vals => match ds, e with
    | [.fd false _], e => exact e
  | range =>
    match ds, e with
    | [.int _], e => exact e
    | [.int _, .int _], e => exact e
    | [.int _, .int _, .int _], e => exact e
  | enum =>
    match ds, e, L with
    | [], e, _ => simp [itemsOf] at e
    | [d], e, L =>
      have l := L d (by simp)
      simp only [itemsOf] at e ⊢
      rw [l]; exact e
    | _ :: _ :: _, e, _ => simp [itemsOf] at e
  | rev =>
    match ds, e, L with
    | [], e, _ => simp [itemsOf] at e
    | [d], e, L =>
      have l := L d (by simp)
      simp only [itemsOf] at e ⊢
      rw [l]; exact e
    | _ :: _ :: _, e, _ => simp [itemsOf] at e
  | zip =>
    match ds, e, L with
    | [], e, _ => simp [itemsOf] at e
    | [_], e, _ => simp [itemsOf] at e
    | [a, b], e, L =>
      have l1 := L a (by simp)
      have l2 := L b (by simp)
      by_cases ht : ∃ xs ys, a = .tup xs ∧ b = .tup ys
      · obtain ⟨xs, ys, rfl, rfl⟩ := ht; exact e
      · have e1 : ∀ st, itemsOf st .zip [a, b] = (match lsOf st a, lsOf st b with
          | some xs, some ys => some (zipL xs ys)
          | _, _ => none) := fun st => by
          cases a <;> first | rfl | (cases b <;> first | rfl | exact absurd ⟨_, _, rfl, rfl⟩ ht)
        rw [e1] at e ⊢
        rw [l1, l2]; exact e
    | _ :: _ :: _ :: _, e, _ => simp [itemsOf] at e
section
variable {K : PySem.W.Frag} {cA : ClA} {as as' : List Addr} {ow ow' : Addr → Prop} {H H' : Hp} {st st' : Sto} {σ : L2.St} {ρ : Slots} {Q : VK}
/-- a thing in one hand is changed -/
theorem Pst.updOwn (R : Rel K cA as ow H st) {p : Addr} {o o' : HO} (hw : ow p) (h : H p = some o) (m : isMut o' = true) (base : Pst K cA as' ow' H' as ow H st) (hn : H' p = none) : Pst K cA as' ow' H' as ow (upd H p o') st := by
  have np := R.owNot hw
  have car : Car as ow H as ow (L2.upd H p o') := by
    obtain ⟨ob, e0, m0⟩ := R.mto p hw
    rw [h] at e0; cases e0
    exact ⟨List.prefix_refl _, fun q vs e => by rw [upd_ne (ne_of e h (fun z => by subst z; cases m0))]; exact e, fun q ob u e => by rw [upd_ne (ne_of e h (fun z => by subst z; cases m0))]; exact e,
      fun q ob e a b => ⟨by rw [upd_ne (fun z => b (by rw [z]; exact hw))]; exact e, a, b⟩⟩
  refine ⟨base.pre, base.pw, fun q ob e n => ?_, ⟨R.len, R.nd, R.dis, fun a ha => ?_, fun a ha => ?_, fun n c a e1 e2 => (R.cell n c a e1 e2).car car ?_⟩⟩
  · obtain ⟨a, b, c⟩ := base.keep q ob e n
    exact ⟨by rw [upd_ne (ne_of_none e hn)]; exact a, b, c⟩
  · rw [upd_ne (fun z => np (by rw [← z]; exact ha))]; exact R.mta a ha
  · by_cases z : a = p
    · subst z; exact ⟨o', upd_same, m⟩
    · rw [upd_ne z]; exact R.mto a ha
  · exact upd_ne (fun z => np (by rw [← z]; exact List.mem_of_getElem? e2))
theorem RepVs.updOwn (R : Rel K cA as ow H st) {p : Addr} {o o' : HO} (hw : ow p) (h : H p = some o) {vs : List V} {ds : List D} (r : RepVs K as ow H vs ds) : RepVs K as ow (upd H p o') vs ds := by
  have car : Car as ow H as ow (L2.upd H p o') := by
    obtain ⟨ob, e0, m0⟩ := R.mto p hw
    rw [h] at e0; cases e0
    exact ⟨List.prefix_refl _, fun q vs e => by rw [upd_ne (ne_of e h (fun z => by subst z; cases m0))]; exact e, fun q ob u e => by rw [upd_ne (ne_of e h (fun z => by subst z; cases m0))]; exact e,
      fun q ob e a b => ⟨by rw [upd_ne (fun z => b (by rw [z]; exact hw))]; exact e, a, b⟩⟩
  exact r.car car
/-- slots forgotten -/
theorem wipe_get : ∀ {vs : List Nat} {i : Nat} {d : D}, (wipeS ρ vs)[i]? = some (some d) → ρ[i]? = some (some d) ∧ i ∉ vs
  | [], _, _, h => ⟨h, by simp⟩
  | v :: vs, i, d, h => by
    have h : ((wipeS ρ vs).set v none)[i]? = some (some d) := h
    by_cases e : v = i
    · subst e
      by_cases hl : v < (wipeS ρ vs).length
      · rw [List.getElem?_set_self hl] at h; cases h
      · rw [List.getElem?_eq_none (by rw [List.length_set]; omega)] at h; cases h
    · rw [List.getElem?_set_ne e] at h
      obtain ⟨h1, h2⟩ := wipe_get h
      exact ⟨h1, by simp [h2, Ne.symm e]⟩
theorem wipeS_len : ∀ (vs : List Nat), (wipeS ρ vs).length = ρ.length
  | [] => rfl
  | v :: vs => by
    show ((wipeS ρ vs).set v none).length = _
    rw [List.length_set, wipeS_len vs]
theorem wipe_ne {σ : L2.St} : ∀ {vs : List Nat} {i : Nat}, i ∉ vs → (wipe σ vs)[i]? = σ[i]?
  | [], _, _ => rfl
  | v :: vs, i, h => by
    show ((wipe σ vs).set v none)[i]? = _
    rw [List.getElem?_set_ne (fun z => h (by simp [z])), wipe_ne (fun z => h (by simp [z]))]
theorem EnvR.wipe (E : EnvR K as ow H σ ρ) (vs : List Nat) : EnvR K as ow H (L2.wipe σ vs) (wipeS ρ vs) := by
  refine ⟨by rw [wipe_length, wipeS_len, E.len], fun i d e => ?_, fun i j di dj p hij e1 e2 f1 f2 s1 => ?_⟩
  · obtain ⟨h1, h2⟩ := wipe_get e
    obtain ⟨v, a, b⟩ := E.get i d h1
    exact ⟨v, by rw [wipe_ne h2]; exact a, b⟩
  · obtain ⟨a1, n1⟩ := wipe_get e1
    obtain ⟨a2, n2⟩ := wipe_get e2
    rw [wipe_ne n1] at s1
    rw [wipe_ne n2]
    exact E.uni i j di dj p hij a1 a2 f1 f2 s1
/-- a slot takes a value that is let go -/
theorem EnvR.set (E : EnvR K as ow H σ ρ) {i : Nat} {v : V} {d : D} (r : RepX K as ow H v d) (hf : free d = false → ∀ (j : Nat) (dj : D) (p : Addr), v = .ref p → j ≠ i → ρ[j]? = some (some dj) → free dj = false → σ[j]? ≠ some (some (.ref p))) :
    EnvR K as ow H (σ.set i (some v)) (ρ.set i (some d)) := by
  refine ⟨by rw [List.length_set, List.length_set, E.len], fun j e he => ?_, fun j k dj dk p hjk e1 e2 f1 f2 s1 => ?_⟩
  · by_cases z : i = j
    · subst z
      by_cases hl : i < ρ.length
      · rw [List.getElem?_set_self hl] at he; cases he
        exact ⟨v, by rw [List.getElem?_set_self (by rw [E.len]; exact hl)], r⟩
      · rw [List.getElem?_eq_none (by rw [List.length_set]; omega)] at he; cases he
    · rw [List.getElem?_set_ne z] at he
      obtain ⟨w, a, b⟩ := E.get j e he
      exact ⟨w, by rw [List.getElem?_set_ne z]; exact a, b⟩
  · have bnd : ∀ {x : Nat} {dx : D}, (ρ.set i (some d))[x]? = some (some dx) → x < ρ.length := fun {x dx} h => by
      have := (List.getElem?_eq_some_iff.mp h).1
      rwa [List.length_set] at this
    by_cases zj : i = j
    · subst zj
      have hl := bnd e1
      rw [List.getElem?_set_self hl] at e1; cases e1
      rw [List.getElem?_set_self (by rw [E.len]; exact hl)] at s1
      rw [List.getElem?_set_ne hjk] at e2 ⊢
      exact hf f1 k dk p (Option.some.inj (Option.some.inj s1)) (Ne.symm hjk) e2 f2
    · rw [List.getElem?_set_ne zj] at e1 s1
      by_cases zk : i = k
      · subst zk
        have hl := bnd e2
        rw [List.getElem?_set_self hl] at e2; cases e2
        rw [List.getElem?_set_self (by rw [E.len]; exact hl)]
        intro h
        exact hf f2 j dj p (Option.some.inj (Option.some.inj h)) (Ne.symm zj) e1 f1 s1
      · rw [List.getElem?_set_ne zk] at e2 ⊢
        exact E.uni j k dj dk p hjk e1 e2 f1 f2 s1
theorem EnvR.setV (E : EnvR K as ow H σ ρ) {i : Nat} {v : V} {d : D} (r : RepV K as ow H v d) : EnvR K as ow H (σ.set i (some v)) (ρ.set i (some d)) :=
  E.set (rxs_of r) fun z => by rw [rep_free r] at z; cases z
/-! ### targets -/
def gTg (K : PySem.W.Frag) : Tg → TG
  | .one i => gName i
  | .many is => gTup K is.length (is.foldr (fun i t => gCons (gName i) t) gNil)
theorem gMany (E : EnvR K as ow H σ ρ) : ∀ {is : List Nat} {vs : List V} {ds : List D} {Q : L2.St → Hp → Prop}, RepVs K as ow H vs ds → ds.length = is.length →
    (∀ σ', EnvR K as ow H σ' ((is.zip ds).foldl (fun ρ p => ρ.set p.1 (some p.2)) ρ) → (∀ j, j ∉ is → σ'[j]? = σ[j]?) → σ'.length = σ.length → Q σ' H) → (is.foldr (fun i t => gCons (gName i) t) gNil) vs σ H Q := by
  intro is
  induction is generalizing σ ρ with
  | nil =>
    intro vs ds Q r hl h
    cases r with
    | nil => exact ⟨rfl, h σ E (fun _ _ => rfl) rfl⟩
    | cons _ _ => cases hl
  | cons i is ih =>
    intro vs ds Q r hl h
    cases r with
    | nil => cases hl
    | @cons v vs d ds a r =>
      refine ⟨v, vs, rfl, ih (E.setV a) r (by simpa using hl) fun σ' E' n l => h σ' E' (fun j hj => ?_) (by rw [l, List.length_set])⟩
      rw [n j (fun z => hj (by simp [z])), List.getElem?_set_ne (fun z => hj (by simp [z]))]
theorem gTg_ok (E : EnvR K as ow H σ ρ) {tg : Tg} {v : V} {d : D} {ρ1 : Slots} {Q : L2.St → Hp → Prop} (r : RepV K as ow H v d) (h : asgT tg d ρ = some ρ1) (hq : ∀ σ', EnvR K as ow H σ' ρ1 → (∀ j, j ∉ tg.slots → σ'[j]? = σ[j]?) → σ'.length = σ.length → Q σ' H) : gTg K tg v σ H Q := by
  cases tg with
  | one i =>
    cases h
    exact hq _ (E.setV r) (fun j hj => by rw [List.getElem?_set_ne (fun z => hj (by simp [Tg.slots, z]))]) (List.length_set ..)
  | many is =>
    cases d with
    | tup xs =>
      simp only [asgT] at h
      split at h
      · rename_i hl
        cases h
        cases r with
        | tup hp rv => exact ⟨_, _, rfl, .of hp, by rw [rv.length]; exact hl, gMany E rv hl hq⟩
      · cases h
    | _ => cases h
end
/-! ### the comprehension -/
section
variable {K : PySem.W.Frag} {cA : ClA}
def compF (C : Calls) (ρ : Slots) (elt : E) (tg : Tg) (ifs : List E) (st0 : Sto) (ds : List D) : D → Sto → R (Option D) := fun x st => match asgT tg x (wipeS ρ tg.slots) with
  | some ρ1 => (evTs C ρ1 ifs st).bind fun b st => if b then (ev C ρ1 elt st).bind fun d st1 => if still st0 st1 ds then .ok (some (frz d)) st1 else .bad else if still st0 st ds then .ok none st else .bad
  | none => .bad
def addO (o : Option D) (ds : List D) : List D := match o with
  | some d => d :: ds
  | none => ds
theorem compGo_cons {α : Type} (g : D → Sto → R (Option D)) (x : D) (r : List D) (st : Sto) (k : List D → Sto → R α) : (compGo g (x :: r) st).bind k = (g x st).bind fun o st1 => (compGo g r st1).bind fun ds st2 => k (addO o ds) st2 := by
  show ((g x st).bind fun o st1 => (compGo g r st1).bind fun ds st2 => match o with
    | some d => .ok (d :: ds) st2
    | none => .ok ds st2).bind k = _
  cases g x st with
  | ok o st1 =>
    show ((compGo g r st1).bind fun ds st2 => match o with
      | some d => .ok (d :: ds) st2
      | none => .ok ds st2).bind k = (compGo g r st1).bind fun ds st2 => k (addO o ds) st2
    cases compGo g r st1 with
    | ok ds st2 => cases o <;> rfl
    | _ => rfl
  | _ => rfl
/-- a block's test list -/
def semTs (K : PySem.W.Frag) (cA : ClA) (f : Slots → Sto → R Bool) : TT := fun σ H Q => ∃ as ow ρ st, EnvR K as ow H σ ρ ∧ Rel K cA as ow H st ∧ match f ρ st with
  | .ok b st' => ∀ as' ow' H', Pst K cA as ow H as' ow' H' st' → Q b H'
  | .top => True
  | _ => False
/-- the readings of a comprehension's parts, joined -/
theorem lc_ok {C : Calls} {elt : E} {tg : Tg} {k : Ik} {src ifs : List E} {σ : L2.St} {H : Hp} {Q : VK} (h : semE K cA (fun ρ st => ev C ρ (.comp elt tg k src ifs) st) σ H Q) :
    tLc (semI K cA k fun ρ st => evBs C ρ src st) (gTg K tg) (semTs K cA fun ρ st => evTs C ρ ifs st) (semE K cA fun ρ st => ev C ρ elt st) tg.slots σ H Q := by
  obtain ⟨as, ow, ρ, st, E, R, h⟩ := h
  have h : PostE K cA as ow H ((evBs C ρ src st).bind fun ds st0 => match itemsOf st0 k ds with
    | some items => if 16777216 < items.length then .top else (compGo (compF C ρ elt tg ifs st0 ds) items st0).bind fun xs st => .ok (.ol xs) st
    | none => .bad) Q := h
  refine ⟨as, ow, ρ, st, E, R, ?_⟩
  dsimp only
  cases es : evBs C ρ src st with
  | top => trivial
  | bad => rw [es] at h; exact h.elim
  | err _ _ => rw [es] at h; exact h.elim
  | ok ds st0 =>
    rw [es] at h
    have h : PostE K cA as ow H (match itemsOf st0 k ds with
      | some items => if 16777216 < items.length then .top else (compGo (compF C ρ elt tg ifs st0 ds) items st0).bind fun xs st => .ok (.ol xs) st
      | none => .bad) Q := h
    cases ei : itemsOf st0 k ds with
    | none => rw [ei] at h; exact h.elim
    | some items =>
      rw [ei] at h
      have h : PostE K cA as ow H (if 16777216 < items.length then .top else (compGo (compF C ρ elt tg ifs st0 ds) items st0).bind fun xs st => .ok (.ol xs) st) Q := h
      refine ⟨items, ei, fun vs as0 ow0 H0 p0 rx hlen J ⟨fz, hfz, WK⟩ => ?_⟩
      rw [if_neg (by omega)] at h
      intro D hD
      have R0 := p0.rel
      -- the list D is in one hand
      refine ⟨fun i m H1 => m = items.length - i ∧ i ≤ items.length ∧ ∃ as1 ow1 st1 va ad, Pst K cA as0 ow0 H0 as1 ow1 H1 st1 ∧ ow1 D ∧ H1 D = some (.lst va) ∧ RepVs K as1 ow1 H1 va ad ∧ va.length ≤ i ∧ itemsOf st1 k ds = some items ∧
        PostE K cA as ow H ((compGo (compF C ρ elt tg ifs st0 ds) (items.drop i) st1).bind fun xs st => .ok (.ol (ad ++ xs)) st) Q, ⟨items.length, by simp, Nat.zero_le _, as0, fun q => ow0 q ∨ q = D, st0, [], [], Pst.own R0 hD rfl, .inr rfl, upd_same, .nil, Nat.le_refl _, ei, h⟩, ?_⟩
      rintro i m H1 ⟨hm, hi, as1, ow1, st1, va, ad, p1, wD, hD1, rv, hva, ei1, h1⟩
      have R1 := p1.rel
      obtain ⟨hstop, hgo⟩ := WK as1 ow1 H1 st1 R1 (Paired.mapP rx fun _ _ q => q.pst R0 p1) (fun q hq => (p1.keep q.1 q.2 (hfz q hq).1 (R0.notTup (hfz q hq).1 (hfz q hq).2).1).1) ei1
      rcases Nat.lt_or_ge i items.length with hlt | hge
      · obtain ⟨go, yld⟩ := hgo i hlt
        refine .inr ⟨go, fun H' => ∃ m', m' < m ∧ (m' = items.length - (i + 1) ∧ (i + 1) ≤ items.length ∧ ∃ as1 ow1 st1 va ad, Pst K cA as0 ow0 H0 as1 ow1 H' st1 ∧ ow1 D ∧ H' D = some (.lst va) ∧ RepVs K as1 ow1 H' va ad ∧ va.length ≤ (i + 1) ∧ itemsOf st1 k ds = some items ∧
          PostE K cA as ow H ((compGo (compF C ρ elt tg ifs st0 ds) (items.drop (i + 1)) st1).bind fun xs st => .ok (.ol (ad ++ xs)) st) Q), fun H' z => z, fun x H2 y => ?_⟩
        obtain ⟨d, hd, p2, rd⟩ := yld x H2 y
        have hdrop : items.drop i = d :: items.drop (i + 1) := by
          obtain ⟨hl, e⟩ := List.getElem?_eq_some_iff.mp hd
          rw [List.drop_eq_getElem_cons hl, e]
        rw [hdrop, compGo_cons] at h1
        have E2 : EnvR K as1 ow1 H2 σ ρ := ((E.pst R p0).pst R0 p1).pst R1 p2
        have hD2 : H2 D = some (.lst va) := (p2.keep D _ hD1 (R1.owNot wD)).1
        have rv2 := rv.car (p2.car R1)
        -- the target
        have h1 : PostE K cA as ow H ((compF C ρ elt tg ifs st0 ds d st1).bind fun o st1 => (compGo (compF C ρ elt tg ifs st0 ds) (items.drop (i + 1)) st1).bind fun xs st2 => .ok (.ol (ad ++ addO o xs)) st2) Q := h1
        unfold compF at h1
        cases ea : asgT tg d (wipeS ρ tg.slots) with
        | none => rw [ea] at h1; exact h1.elim
        | some ρ1 =>
          rw [ea] at h1
          refine gTg_ok (E2.wipe tg.slots) rd ea fun σ2 E3 hoth hlen2 => ⟨?_, ?_⟩
          · -- the block's own slots alone were changed
            apply List.ext_getElem?
            intro j
            by_cases hj : j ∈ tg.slots
            · have key : ∀ (σ : L2.St) (vs : List Nat), j ∈ vs → j < σ.length → (wipe σ vs)[j]? = some none := by
                intro σ vs
                induction vs with
                | nil => intro h; cases h
                | cons v vs ih =>
                  intro h hl
                  show ((wipe σ vs).set v none)[j]? = _
                  by_cases e : v = j
                  · subst e; rw [List.getElem?_set_self (by rw [wipe_length]; exact hl)]
                  · rw [List.getElem?_set_ne e]
                    exact ih ((List.mem_cons.mp h).resolve_left (Ne.symm e)) hl
              by_cases hl : j < σ.length
              · rw [key σ2 _ hj (by rw [hlen2, wipe_length]; exact hl), key σ _ hj hl]
              · rw [List.getElem?_eq_none (by rw [wipe_length, hlen2, wipe_length]; omega), List.getElem?_eq_none (by rw [wipe_length]; omega)]
            · rw [wipe_ne hj, hoth j hj]
          · have h1 : PostE K cA as ow H (((evTs C ρ1 ifs st1).bind fun b st => if b then (ev C ρ1 elt st).bind fun d st1 => if still st0 st1 ds then .ok (some (frz d)) st1 else .bad else if still st0 st ds then .ok none st else .bad).bind fun o st1 =>
              (compGo (compF C ρ elt tg ifs st0 ds) (items.drop (i + 1)) st1).bind fun xs st2 => .ok (.ol (ad ++ addO o xs)) st2) Q := h1
            refine ⟨as1, ow1, ρ1, st1, E3, p2.rel, ?_⟩
            dsimp only
            cases et : evTs C ρ1 ifs st1 with
            | top => trivial
            | bad => rw [et] at h1; exact h1.elim
            | err _ _ => rw [et] at h1; exact h1.elim
            | ok b st3 =>
              intro as3 ow3 H3 p3
              rw [et] at h1
              have p13 := (p1.trans p2).trans p3
              have hD3 : H3 D = some (.lst va) := (p3.keep D _ hD2 (p2.rel.owNot wD)).1
              have rv3 := rv2.car (p3.car p2.rel)
              cases b with
              | false =>
                have h1 : PostE K cA as ow H ((if still st0 st3 ds then CM.R.ok none st3 else .bad).bind fun o st1 => (compGo (compF C ρ elt tg ifs st0 ds) (items.drop (i + 1)) st1).bind fun xs st2 => .ok (.ol (ad ++ addO o xs)) st2) Q := h1
                by_cases hs : still st0 st3 ds = true
                · rw [if_pos hs] at h1
                  rw [if_neg (by decide)]
                  exact ⟨_, by omega, rfl, by omega, as3, ow3, st3, va, ad, p13, p3.pw D wD, hD3, rv3, by omega, still_items hs ei, h1⟩
                · rw [if_neg hs] at h1; exact h1.elim
              | true =>
                rw [if_pos rfl]
                have h1 : PostE K cA as ow H (((ev C ρ1 elt st3).bind fun d st1 => if still st0 st1 ds then CM.R.ok (some (frz d)) st1 else .bad).bind fun o st1 => (compGo (compF C ρ elt tg ifs st0 ds) (items.drop (i + 1)) st1).bind fun xs st2 => .ok (.ol (ad ++ addO o xs)) st2) Q := h1
                refine ⟨as3, ow3, ρ1, st3, E3.pst p2.rel p3, p3.rel, ?_⟩
                dsimp only
                cases ee : ev C ρ1 elt st3 with
                | top => trivial
                | bad => rw [ee] at h1; exact h1.elim
                | err _ _ => rw [ee] at h1; exact h1.elim
                | ok e st4 =>
                  rw [ee] at h1
                  have h1 : PostE K cA as ow H ((if still st0 st4 ds then CM.R.ok (some (frz e)) st4 else .bad).bind fun o st1 => (compGo (compF C ρ elt tg ifs st0 ds) (items.drop (i + 1)) st1).bind fun xs st2 => .ok (.ol (ad ++ addO o xs)) st2) Q := h1
                  intro y as4 ow4 H4 p4 r4 fr4
                  by_cases hs : still st0 st4 ds = true
                  · rw [if_pos hs] at h1
                    obtain ⟨ow5, p5, r5⟩ := freeze p4 r4 fr4
                    have wD5 := p5.pw D (p3.pw D wD)
                    have hD5 : H4 D = some (.lst va) := (p5.keep D _ hD3 (p3.rel.owNot (p3.pw D wD))).1
                    have rv5 := rv3.car (p5.car p3.rel)
                    have P := Pst.updOwn (o' := .lst (va ++ [y])) p5.rel wD5 hD5 rfl (p13.trans p5) hD
                    refine ⟨va, hD5, ?_, _, by omega, rfl, by omega, as4, ow5, st4, va ++ [y], ad ++ [frz e], P, wD5, upd_same, RepVs.updOwn p5.rel wD5 hD5 (rv5.append (.cons r5 .nil)), by simp; omega, still_items hs ei, ?_⟩
                    · rw [sizeLine_eq]; omega
                    · have h1 : PostE K cA as ow H ((compGo (compF C ρ elt tg ifs st0 ds) (items.drop (i + 1)) st4).bind fun xs st2 => .ok (.ol (ad ++ frz e :: xs)) st2) Q := h1
                      simpa [List.append_assoc] using h1
                  · rw [if_neg hs] at h1; exact h1.elim
      · have e : i = items.length := by omega
        subst e
        rw [List.drop_length] at h1
        have h1 : Out K cA as ow H st1 (.ol (ad ++ [])) Q := h1
        rw [List.append_nil] at h1
        refine .inl ⟨hstop, h1 _ _ _ _ (p0.trans p1) ⟨D, va, rfl, wD, hD1, rv⟩ fun _ p e => ?_⟩
        cases e
        intro hw
        have := R0.mto D (p0.pw D hw)
        obtain ⟨o, e, _⟩ := this
        rw [hD] at e; cases e
end
end CM
end
section
set_option linter.all false
set_option maxRecDepth 100000
set_option maxHeartbeats 4000000
/-! Comprehensions: the rule. -/
namespace CM
open PySem PySem.Spec PyProof.Rows L2
def relS (scope sc : Scope) : Scope := { scope with names := scope.names.map fun (n, k) => if (k == .free && sc.kind == .function && sc.names.lookup n == some .cell) then (n, .cell) else (n, k) }
def Cs.blk (c : Cs) (scope : Scope) : Cs := { c with sc := relS scope c.sc, fnb := fun x => scope.names.lookup x == some .cell }
section
variable {cA : ClA} {C : Calls} {c : Cs} {X : Cx}
theorem Dy.blk (Dc : Dy cA C c X) (s : Shared) (H : Hp) (scope : Scope) (A : Addr) (cl : List (Str × Addr)) (fp : List Addr) : Dy cA C (c.blk scope) (X.blk s H scope (compEnvC scope cl A X.env) fp) where
  N := Dc.N
  nd := Dc.nd
  sc := by
    show relabel scope X.env = relS scope c.sc
    unfold relabel relS Env.kindOf
    rw [Dc.sc]
  calm := Dc.calm
  fn := fun x h => h
  hu := Dc.hu
  free := Dc.free
  glob := Dc.glob
  globi := Dc.globi
  call := Dc.call
  meth := Dc.meth
  ins := Dc.ins
  cty := Dc.cty
  kit := Dc.kit
  skey := Dc.skey
def locB (c : Cs) (x : Str) : Bool := match c.sc.names.lookup x with
  | some .local => true
  | some .cell => c.fnb x
  | _ => false
theorem locB_ok {x : Str} (Dc : Dy cA C c X) (h : locB c x = true) : Loc X.env.scope x ∧ (X.fn x = true ∨ X.env.scope.names.lookup x = some .local) := by
  unfold locB at h
  rw [Dc.sc]
  split at h
  · rename_i e; exact ⟨.inl e, .inr e⟩
  · rename_i e; exact ⟨.inr e, .inl (Dc.fn x h)⟩
  · cases h
/-! ### targets -/
def chkN (c : Cs) (i : Nat) : Expr → Bool
  | .Name x _ => decide (c.N[i]? = some x) && locB c x
  | _ => false
def chkNs (c : Cs) : List Nat → List Expr → Bool
  | [], [] => true
  | i :: is, e :: es => chkN c i e && chkNs c is es
  | _, _ => false
def chkTg (c : Cs) : Tg → Expr → Bool
  | .one i, e => chkN c i e
  | .many is, .Tuple es _ _ => chkNs c is es
  | _, _ => false
theorem snd_name {i : Nat} {e : Expr} (Dc : Dy cA C c X) (h : chkN c i e = true) : PG X e (gName i) := by
  cases e with
  | Name x pos =>
    simp only [chkN, Bool.and_eq_true, decide_eq_true_eq] at h
    obtain ⟨h1, h2⟩ := locB_ok Dc h.2
    exact pg_name (by rw [Dc.N]; exact Dc.nd) (by rw [Dc.N]; exact h.1) h1 h2
  | _ => cases h
theorem name_each {e : Expr} {i : Nat} (h : chkN c i e = true) (es : List Expr) (env : PySem.Env) : assignEach (e :: es) env = (false, assign e env) :: assignEach es env := by
  cases e with
  | Name x pos => rfl
  | _ => cases h
theorem snd_names (Dc : Dy cA C c X) : ∀ {is : List Nat} {es : List Expr}, chkNs c is es = true → PGs X es (is.foldr (fun i t => gCons (gName i) t) gNil) ∧ (assignEach es X.env).length = is.length ∧ (assignEach es X.env).findIdx? (·.1) = none
  | [], [], _ => ⟨pgs_nil, rfl, rfl⟩
  | [], _ :: _, h => by cases h
  | _ :: _, [], h => by cases h
  | i :: is, e :: es, h => by
    simp only [chkNs, Bool.and_eq_true] at h
    obtain ⟨a, b, d⟩ := snd_names Dc h.2
    have ne := name_each h.1 es X.env
    refine ⟨pgs_cons (snd_name Dc h.1) a (by rw [ne]; rfl), by rw [ne]; simp [b], ?_⟩
    rw [ne, List.findIdx?_cons, d]; rfl
theorem snd_tg {tg : Tg} {e : Expr} (Dc : Dy cA C c X) (h : chkTg c tg e = true) : PG X e (gTg X.K tg) := by
  cases tg with
  | one i => exact snd_name Dc h
  | many is =>
    cases e with
    | Tuple es k pos =>
      obtain ⟨a, b, d⟩ := snd_names Dc h
      exact pg_tup Dc.calm a b d
    | _ => cases h
/-! ### what is walked -/
theorem fold_ok {e : Expr} (h : okHead e = true) (env : PySem.Env) : ∀ x, foldedSetIterable e env x = pure x := fun x => by
  cases e <;> first | rfl | cases h
theorem semI_cong {k : Ik} {f g : Slots → Sto → R (List D)} (e : ∀ ρ st, f ρ st = g ρ st) {tg x : Expr} (h : PI X tg x (semI X.K cA k f)) : PI X tg x (semI X.K cA k g) := by
  have : f = g := funext fun ρ => funext fun st => e ρ st
  rw [← this]; exact h
theorem evBs_l1 (C : Calls) (ρ : Slots) (a : E) (st : Sto) (ds : List D) (st' : Sto) (h : evBs C ρ [a] st = .ok ds st') : ds.length = 1 := by
  rw [evBs_one] at h
  cases e : CM.bor ρ a (ev C ρ a) st with
  | ok d st1 => rw [e] at h; cases h; rfl
  | _ => rw [e] at h; cases h
theorem evBs_len (C : Calls) (ρ : Slots) : ∀ (es : List E) (st : Sto) (ds : List D) (st' : Sto), evBs C ρ es st = .ok ds st' → ds.length = es.length
  | [], st, ds, st', h => by cases h; rfl
  | e :: r, st, ds, st', h => by
    have h : ((CM.bor ρ e (ev C ρ e) st).bind fun d st => (evBs C ρ r st).bind fun ds st => .ok (d :: ds) st) = .ok ds st' := h
    cases e1 : CM.bor ρ e (ev C ρ e) st with
    | ok d st1 =>
      rw [e1] at h
      have h : (evBs C ρ r st1).bind (fun ds st => CM.R.ok (d :: ds) st) = .ok ds st' := h
      cases e2 : evBs C ρ r st1 with
      | ok ds2 st2 =>
        rw [e2] at h
        cases h
        simp [evBs_len C ρ r _ _ _ e2]
      | _ => rw [e2] at h; cases h
    | _ => rw [e1] at h; cases h
def isTup : Expr → Bool
  | .Tuple _ _ _ => true
  | _ => false
/-- the walk of a list, a tuple, a text; of range, enumerate, zip, reversed -/
def chkW (c : Cs) (chk : E → Expr → Bool) (k : Ik) (tg : Expr) (src : List E) (x : Expr) : Bool := match k, src, x with
  | .seq, [a], x => chk a x && okHead x
  | .range, [a], .Call (.Name y _) [xa] [] _ => decide (y = "range") && glB c.sc y && chk a xa && okHead xa
  | .range, [a, b], .Call (.Name y _) [xa, xb] [] _ => decide (y = "range") && glB c.sc y && chk a xa && chk b xb && okHead xa && okHead xb
  | .range, [a, b, d], .Call (.Name y _) [xa, xb, xd] [] _ => decide (y = "range") && glB c.sc y && chk a xa && chk b xb && chk d xd && okHead xa && okHead xb && okHead xd
  | .rev, [a], .Call (.Name y _) [xa] [] _ => decide (y = "reversed") && glB c.sc y && chk a xa && okHead xa
  | .enum, [a], .Call (.Name y _) [xa] [] _ => decide (y = "enumerate") && glB c.sc y && chk a xa && okHead xa && isTup tg
  | .zip, [a, b], .Call (.Name y _) [xa, xb] [] _ => decide (y = "zip") && glB c.sc y && chk a xa && chk b xb && okHead xa && okHead xb && isTup tg
  | _, _, _ => false
theorem gl_of {y : Str} (Dc : Dy cA C c X) (h : glB c.sc y = true) : Gl X y := by unfold Gl Env.kindOf; rw [Dc.sc]; exact gl_ok h
/-- by any way to have the sources' values -/
theorem snd_walkG {k : Ik} {tg x : Expr} {src : List E} {chk : E → Expr → Bool} {F : List E → Slots → Sto → R (List D)} (Dc : Dy cA C c X) (h : chkW c chk k tg src x = true)
    (F1 : ∀ a ρ st ds st', F [a] ρ st = .ok ds st' → ds.length = 1) (F2 : ∀ a b ρ st ds st', F [a, b] ρ st = .ok ds st' → ds.length = 2) (F3 : ∀ a b d ρ st ds st', F [a, b, d] ρ st = .ok ds st' → ds.length = 3)
    (hs : ∀ a x, a ∈ src → chk a x = true → ∃ g : Slots → Sto → R D, PE X x (semB X.K cA g) ∧ ∀ ρ st, (g ρ st).bind (fun d st => .ok [d] st) = F [a] ρ st)
    (ha : ∀ as xs, (∀ a ∈ as, a ∈ src) → as.length = xs.length → (∀ p ∈ as.zip xs, chk p.1 p.2 = true ∧ okHead p.2 = true) → PA X xs (semBL X.K cA (F as))) : PI X tg x (semI X.K cA k (F src)) := by
  unfold chkW at h
  split at h
  · simp only [Bool.and_eq_true] at h
    obtain ⟨g, h1, h2⟩ := hs _ _ (by simp) h.1
    exact semI_cong h2 (pi_seq h1)
  · simp only [Bool.and_eq_true, decide_eq_true_eq] at h
    obtain ⟨⟨⟨h1, h2⟩, h3⟩, h4⟩ := h
    subst h1
    exact pi_rng1 (gl_of Dc h2) (Dc.free _ (by decide +kernel)) (ha [_] [_] (by simp) rfl (by simp [h3, h4])) (star_one h4 [] X.env) fun ρ st ds st' e => F1 _ ρ st ds st' e
  · simp only [Bool.and_eq_true, decide_eq_true_eq] at h
    obtain ⟨⟨⟨⟨⟨h1, h2⟩, h3⟩, h3'⟩, h4⟩, h5⟩ := h
    subst h1
    exact pi_rng2 (gl_of Dc h2) (Dc.free _ (by decide +kernel)) (ha [_, _] [_, _] (by simp) rfl (by simp [h3, h3', h4, h5])) (by rw [star_one h4, star_one h5]; rfl) (star_one h5 [] X.env) fun ρ st ds st' e => F2 _ _ ρ st ds st' e
  · simp only [Bool.and_eq_true, decide_eq_true_eq] at h
    obtain ⟨⟨⟨⟨⟨⟨⟨h1, h2⟩, h3⟩, h3'⟩, h3''⟩, h4⟩, h5⟩, h6⟩ := h
    subst h1
    exact pi_rng3 (gl_of Dc h2) (Dc.free _ (by decide +kernel)) (ha [_, _, _] [_, _, _] (by simp) rfl (by simp [h3, h3', h3'', h4, h5, h6])) (star_one h4 _ X.env) (by rw [star_one h5, star_one h6]; rfl) fun ρ st ds st' e => F3 _ _ _ ρ st ds st' e
  · simp only [Bool.and_eq_true, decide_eq_true_eq] at h
    obtain ⟨⟨⟨h1, h2⟩, h3⟩, h4⟩ := h
    subst h1
    exact pi_rev (gl_of Dc h2) (Dc.free _ (by decide +kernel)) (ha [_] [_] (by simp) rfl (by simp [h3, h4])) (star_one h4 [] X.env) fun ρ st ds st' e => F1 _ ρ st ds st' e
  · simp only [Bool.and_eq_true, decide_eq_true_eq] at h
    obtain ⟨⟨⟨⟨h1, h2⟩, h3⟩, h4⟩, h5⟩ := h
    subst h1
    unfold isTup at h5
    split at h5
    · exact pi_enu (gl_of Dc h2) (Dc.free _ (by decide +kernel)) (ha [_] [_] (by simp) rfl (by simp [h3, h4])) (star_one h4 [] X.env) fun ρ st ds st' e => F1 _ ρ st ds st' e
    · cases h5
  · simp only [Bool.and_eq_true, decide_eq_true_eq] at h
    obtain ⟨⟨⟨⟨⟨⟨h1, h2⟩, h3⟩, h3'⟩, h4⟩, h5⟩, h6⟩ := h
    subst h1
    unfold isTup at h6
    split at h6
    · exact pi_zp (gl_of Dc h2) (Dc.free _ (by decide +kernel)) (ha [_, _] [_, _] (by simp) rfl (by simp [h3, h3', h4, h5])) (star_one h4 _ X.env) (by rw [star_one h5]; rfl) fun ρ st ds st' e => F2 _ _ ρ st ds st' e
    · cases h6
  · cases h
theorem snd_walkB {k : Ik} {tg x : Expr} {src : List E} {chk : E → Expr → Bool} (Dc : Dy cA C c X) (h : chkW c chk k tg src x = true) (hs : ∀ a x, a ∈ src → chk a x = true → BorE cA C X a x) :
    PI X tg x (semI X.K cA k fun ρ st => evBs C ρ src st) := by
  refine snd_walkG (F := fun src ρ st => evBs C ρ src st) Dc h (fun a ρ st ds st' e => evBs_len C ρ [a] st ds st' e) (fun a b ρ st ds st' e => evBs_len C ρ [a, b] st ds st' e) (fun a b d ρ st ds st' e => evBs_len C ρ [a, b, d] st ds st' e) (fun a x ha hc => ⟨_, hs a x ha hc, fun ρ st => (evBs_one C ρ a st).symm⟩) ?_
  intro as
  induction as with
  | nil =>
    intro xs _ hl _
    cases xs with
    | nil => exact snd_nilB
    | cons _ _ => cases hl
  | cons a as ih =>
    intro xs hm hl hz
    cases xs with
    | nil => cases hl
    | cons y ys =>
      have h0 := hz (a, y) (by simp)
      exact snd_consB (hs a y (hm a (by simp)) h0.1) (ih ys (fun b hb => hm b (by simp [hb])) (by simpa using hl) fun p hp => hz p (by simp [hp])) h0.2
theorem pe_frz' {a : E} {x : Expr} (h : ValE cA C X a x) : PE X x (semB X.K cA fun ρ st => (ev C ρ a st).bind fun d st => .ok (frz d) st) := pe_frz h
theorem snd_walkV {k : Ik} {tg x : Expr} {src : List E} {chk : E → Expr → Bool} (Dc : Dy cA C c X) (h : chkW c chk k tg src x = true) (hs : ∀ a x, a ∈ src → chk a x = true → ValE cA C X a x) :
    PI X tg x (semI X.K cA k fun ρ st => evs C ρ src st) := by
  refine snd_walkG (F := fun src ρ st => evs C ρ src st) Dc h (fun a ρ st ds st' e => evs_len C ρ [a] st ds st' e) (fun a b ρ st ds st' e => evs_len C ρ [a, b] st ds st' e) (fun a b d ρ st ds st' e => evs_len C ρ [a, b, d] st ds st' e) (fun a x ha hc => ⟨_, pe_frz' (hs a x ha hc), fun ρ st => (evs_one C ρ a st).symm⟩) ?_
  intro as xs hm hl hz
  refine pa_imp ?_ fun σ H Q q => semBL_L q
  induction as generalizing xs with
  | nil =>
    cases xs with
    | nil => exact snd_nil
    | cons _ _ => cases hl
  | cons a as ih =>
    cases xs with
    | nil => cases hl
    | cons y ys =>
      have h0 := hz (a, y) (by simp)
      exact snd_cons (hs a y (hm a (by simp)) h0.1) (ih ys (fun b hb => hm b (by simp [hb])) (by simpa using hl) fun p hp => hz p (by simp [hp])) h0.2
/-! ### the tests of a comprehension -/
theorem snd_ts0 : PTs X [] (semTs X.K cA fun ρ st => evTs C ρ [] st) := by
  refine ⟨fun pins s σ H Q I h => pts_nil.run pins s σ H Q I ?_⟩
  obtain ⟨as, ow, ρ, st, E, R, h⟩ := h
  exact h as ow H (Pst.refl R)
theorem snd_ts1 {a : E} {x : Expr} (ha : TesE cA C X a x) : PTs X [x] (semTs X.K cA fun ρ st => evTs C ρ [a] st) := by
  refine ⟨fun pins s σ H Q I h => (pts_one ha).run pins s σ H Q I ?_⟩
  obtain ⟨as, ow, ρ, st, E, R, h⟩ := h
  refine ⟨as, ow, ρ, st, E, R, ?_⟩
  have h : (match ((ev C ρ a st).bind fun d st => match d with
    | .bl true => evTs C ρ [] st
    | .bl false => .ok false st
    | _ => .bad) with
    | .ok b st' => ∀ as' ow' H', Pst X.K cA as ow H as' ow' H' st' → Q b H'
    | .top => True
    | _ => False) := h
  dsimp only
  cases e : ev C ρ a st with
  | ok d st1 =>
    rw [e] at h
    cases d with
    | bl b =>
      cases b with
      | true => exact h
      | false => exact h
    | _ => exact h.elim
  | top => trivial
  | bad => rw [e] at h; exact h.elim
  | err _ _ => rw [e] at h; exact h.elim
def ownOf (c : Cs) (tg : Tg) : List (Str × Nat) := tg.slots.map fun i => (c.N.getD i Str.empty, i)
theorem own_snd (tg : Tg) : (ownOf c tg).map (·.2) = tg.slots := by
  unfold ownOf
  rw [List.map_map]
  show tg.slots.map (fun i => i) = _
  simp
theorem snd_compL (L : L2.St → Hp → Prop) {elt : E} {tg : Tg} {k : Ik} {src ifs : List E} {xe xt xi : Expr} {xifs : List Expr} {scope : Scope} {pos : Pos} (Dc : Dy cA C c X) (hok : blkC c.N c.sc scope (ownOf c tg) = true) (htg : chkTg (c.blk scope) tg xt = true) (hhd : okHead xi = true)
    (hi : PI X xt xi (fun σ H Rr => L σ H ∧ semI X.K cA k (fun ρ st => evBs C ρ src st) σ H Rr)) (ht : ∀ X, Dy cA C (c.blk scope) X → PTs X xifs (semTs X.K cA fun ρ st => evTs C ρ ifs st)) (he : ∀ X, Dy cA C (c.blk scope) X → ValE cA C X elt xe) :
    PE X (.ListComp xe [⟨xt, xi, xifs, 0⟩] scope pos) (fun σ H Q => L σ H ∧ semE X.K cA (fun ρ st => ev C ρ (.comp elt tg k src ifs) st) σ H Q) := by
  have := pe_lc (pos := pos) (own := ownOf c tg) (g := gTg X.K tg) (tt := semTs X.K cA fun ρ st => evTs C ρ ifs st) (te := semE X.K cA fun ρ st => ev C ρ elt st) Dc.calm (by rw [Dc.N]; exact Dc.nd) hi (by rw [Dc.N, Dc.sc]; exact blkOk_by hok) (fun s H A cl fp => snd_tg (Dc.blk s H scope A cl fp) htg) (fun s H A cl fp => ht _ (Dc.blk s H scope A cl fp)) (fun s H A cl fp => he _ (Dc.blk s H scope A cl fp)) (fold_ok hhd X.env)
  rw [own_snd] at this
  exact pe_imp this fun σ H Q q => ⟨q.1, lc_ok q.2⟩
theorem snd_comp {elt : E} {tg : Tg} {k : Ik} {src ifs : List E} {xe xt xi : Expr} {xifs : List Expr} {scope : Scope} {pos : Pos} (Dc : Dy cA C c X) (hok : blkC c.N c.sc scope (ownOf c tg) = true) (htg : chkTg (c.blk scope) tg xt = true) (hhd : okHead xi = true)
    (hi : PI X xt xi (semI X.K cA k fun ρ st => evBs C ρ src st)) (ht : ∀ X, Dy cA C (c.blk scope) X → PTs X xifs (semTs X.K cA fun ρ st => evTs C ρ ifs st)) (he : ∀ X, Dy cA C (c.blk scope) X → ValE cA C X elt xe) :
    ValE cA C X (.comp elt tg k src ifs) (.ListComp xe [⟨xt, xi, xifs, 0⟩] scope pos) :=
  pe_imp (snd_compL (fun _ _ => True) Dc hok htg hhd (pi_mono hi fun σ H Rr h => h.2) ht he) fun σ H Q h => ⟨trivial, h⟩
end
end CM
end
section
set_option linter.all false
set_option maxRecDepth 100000
set_option maxHeartbeats 4000000
/-! isinstance, methods of built-in types, displays. -/
namespace CM
open PySem PySem.Spec PyProof.Rows L2
section
variable {cA : ClA} {C : Calls} {c : Cs} {X : Cx}
/-! ### isinstance -/
def kdOf (st : Sto) : D → Option Kd
  | .non => some .non
  | .bl _ => some .bl
  | .int _ => some .int
  | .str _ => some .str
  | .tup _ => some .tup
  | .fl _ => some .lst
  | .sc _ => some .lst
  | .ol _ => some .lst
  | .fd t _ => if t then none else some .dct
  | .od _ _ => some .dct
  | .ref n => match st[n]? with
    | some (.lst _) => some .lst
    | some (.dct _ _) => some .dct
    | some (.obj c _) => some (.cl c)
    | none => none
theorem isTy_kd (st : Sto) (d : D) (t : Ty) : isTy st d t = (kdOf st d).map fun k => k.isT t := by
  cases d with
  | fd t _ => cases t <;> rfl
  | ref n =>
    simp only [isTy, kdOf]
    cases st[n]? with
    | none => rfl
    | some c => cases c <;> first | rfl | (cases t <;> rfl)
  | _ => first | rfl | (cases t <;> rfl)
theorem kd_ty {as : List Addr} {ow : Addr → Prop} {H : Hp} {st : Sto} {v : V} {d : D} {k : Kd} (hins : ∀ k C', cA k = some C' → InsOk X.K C') (R : Rel X.K cA as ow H st) (r : RepX X.K as ow H v d) (e : kdOf st d = some k) :
    ∃ t, k.val cA = some t ∧ TyX X.K H v t := by
  have seq : ∀ {p : Addr} {vs : List V}, ScL X.K H p vs → TyX X.K H (.ref p) (.type "list") := fun {p vs} h => by
    rcases h with ⟨o, h⟩ | ⟨o, its, n, h1, h2, _⟩
    · exact .base (.frz h)
    · exact .kList h1 h2
  cases d with
  | non => cases e; cases r; exact ⟨_, rfl, .base .non⟩
  | bl _ => cases e; cases r; exact ⟨_, rfl, .base (.bl _)⟩
  | int _ => cases e; cases r; exact ⟨_, rfl, .base (.int _)⟩
  | str _ => cases e; cases r; exact ⟨_, rfl, .base (.str _)⟩
  | tup _ => cases e; cases r with | tup a _ => exact ⟨_, rfl, .base (.tup a)⟩
  | fl _ => cases e; cases r with | fl a _ _ _ => exact ⟨_, rfl, .base (.lst a)⟩
  | sc _ => cases e; cases r with | sc a _ => exact ⟨_, rfl, seq a⟩
  | ol _ => cases e; obtain ⟨p, vs, rfl, _, h, _⟩ := r; exact ⟨_, rfl, .base (.lst h)⟩
  | od t _ =>
    cases e
    cases t with
    | false => obtain ⟨p, vs, rfl, _, h, _⟩ := r; exact ⟨_, rfl, .base (.dK h)⟩
    | true => obtain ⟨p, vs, rfl, _, h, _⟩ := r; exact ⟨_, rfl, .base (.dT h)⟩
  | fd t _ =>
    cases t with
    | false =>
      cases e
      cases r with
      | fdk a _ _ _ =>
        rcases a with a | ⟨o, a⟩
        · exact ⟨_, rfl, .base (.dK a)⟩
        · exact ⟨_, rfl, .fDict a⟩
    | true => cases e
  | ref n =>
    cases r with
    | ref ea =>
      simp only [kdOf] at e
      cases ec : st[n]? with
      | none => rw [ec] at e; cases e
      | some cell =>
        rw [ec] at e
        have rc := R.cell n _ _ ec ea
        cases cell with
        | lst _ => cases e; obtain ⟨vs, h, _⟩ := rc; exact ⟨_, rfl, .base (.lst h)⟩
        | dct t _ =>
          cases e
          cases t with
          | false => obtain ⟨vs, h, _⟩ := rc; exact ⟨_, rfl, .base (.dK h)⟩
          | true => obtain ⟨vs, h, _⟩ := rc; exact ⟨_, rfl, .base (.dT h)⟩
        | obj cl fs =>
          cases e
          obtain ⟨C', dx, gs, h0, h1, _⟩ := rc
          have io := hins cl C' h0
          exact ⟨.ref C', by simp [Kd.val, h0], .base (.ins h1 io.cl io.ha io.hn io.htk io.hm)⟩
/-- a class's name -/
def chkTy (c : Cs) (t : Ty) : Expr → Bool
  | .Name x _ => decide (x = t.nm) && glB c.sc x && okNm x && decide (t ∈ c.ts)
  | _ => false
def chkTys (c : Cs) : List Ty → List Expr → Bool
  | [], [] => true
  | t :: ts, e :: es => chkTy c t e && chkTys c ts es
  | _, _ => false
theorem snd_tyN {t : Ty} {e : Expr} (Dc : Dy cA C c X) (h : chkTy c t e = true) : ∃ v u, PE X e (tC v) ∧ ClsV v u ∧ t.val cA = some u ∧ okHead e = true := by
  cases e with
  | Name x pos =>
    simp only [chkTy, okNm, Bool.and_eq_true, decide_eq_true_eq, Bool.not_eq_true'] at h
    obtain ⟨⟨⟨h1, h2⟩, h3⟩, h4⟩ := h
    subst h1
    obtain ⟨u, hu, hcl⟩ := Dc.cty t h4
    have hg := gl_of Dc h2
    have blt : ∀ (n : String), bootBuiltins t.nm = some (.type n) → t.nm ∈ bltNames → t.nm ≠ "__name__" → u = .type n → ∃ v u, PE X (.Name t.nm pos) (tC v) ∧ ClsV v u ∧ t.val cA = some u ∧ okHead (.Name t.nm pos) = true := fun n e1 e2 e3 e4 => by
      subst e4
      exact ⟨.ty n, _, pe_bltn hg (Dc.free _ e2) e1 rfl e3 h3.1, .ty n, hu, rfl⟩
    cases t with
    | cl k =>
      obtain ⟨a, rfl, hm⟩ := hcl k rfl
      exact ⟨.ref a, _, pe_glob hg hm rfl h3.1, .own a, hu, rfl⟩
    | str => cases hu; exact blt _ boot_str (by decide +kernel) (by decide +kernel) rfl
    | tuple => cases hu; exact blt _ boot_tuple (by decide +kernel) (by decide +kernel) rfl
    | list => cases hu; exact blt _ boot_list (by decide +kernel) (by decide +kernel) rfl
    | bool => cases hu; exact blt _ boot_bool (by decide +kernel) (by decide +kernel) rfl
    | int => cases hu; exact blt _ boot_int (by decide +kernel) (by decide +kernel) rfl
    | ve => cases hu; exact blt _ boot_ValueError (by decide +kernel) (by decide +kernel) rfl
  | _ => cases h
theorem chkTy_mem {t : Ty} {e : Expr} (h : chkTy c t e = true) : t ∈ c.ts := by
  cases e with
  | Name x pos =>
    simp only [chkTy, Bool.and_eq_true, decide_eq_true_eq] at h
    exact h.2
  | _ => cases h
theorem snd_isi1 {a : E} {t : Ty} {x y : Expr} {p pos : Pos} {nm : Str} (Dc : Dy cA C c X) (hn : nm = "isinstance") (hg : glB c.sc nm = true) (ha : BorE cA C X a x) (hx : okHead x = true) (ht : chkTy c t y = true) : ValE cA C X (.isi a [t]) (.Call (.Name nm p) [x, y] [] pos) := by
  subst hn
  obtain ⟨v, u, h1, h2, h3, h4⟩ := snd_tyN Dc ht
  refine pe_imp (pe_callB call_isi (gl_of Dc hg) (Dc.free _ (by decide +kernel)) boot_isinstance (pa_cons ha (pa_cons h1 pa_nil (star_one h4 _ _)) (star_one hx _ _)) (by decide +kernel) (by decide +kernel) (star_one hx _ _) (by rw [star_one h4]; rfl)) fun σ H Q h => ?_
  refine semE_bind (f := fun ρ x st => ofO st ((isTys st x [t]).map .bl)) h fun as ow H ρ st w d E R r h5 => ?_
  obtain ⟨d2, e, o⟩ := h5.ofO
  have e : ((match isTy st d t with
    | some true => some true
    | some false => some false
    | none => none).map D.bl) = some d2 := e
  rw [isTy_kd] at e
  cases hk : kdOf st d with
  | none => rw [hk] at e; cases e
  | some k =>
    rw [hk] at e
    obtain ⟨ty, h6, h7⟩ := kd_ty (cA := cA) Dc.ins R r hk
    have kk := Dc.kit t (chkTy_mem ht) k u ty h3 h6
    have e : d2 = .bl (k.isT t) := by
      have e : ((match some (k.isT t) with
        | some true => some true
        | some false => some false
        | none => none).map D.bl) = some d2 := e
      cases hb : k.isT t with
      | true => rw [hb] at e; exact (Option.some.inj e).symm
      | false => rw [hb] at e; exact (Option.some.inj e).symm
    subst e
    exact ⟨w, v, ty, u, _, rfl, h2, h7, kk, o.here R (.bl _) rfl⟩
theorem snd_tyNs (Dc : Dy cA C c X) : ∀ {ts : List Ty} {es : List Expr}, chkTys c ts es = true → ∃ vs us, PA X es (fun σ H Q => Q vs H) ∧ Paired ClsV vs us ∧ es.all okHead = true ∧ vs.length = es.length ∧
    ∀ (k : Kd) (ty : Value), k.val cA = some ty → PySem.W.kitAny X.K ty us = some (ts.any fun t => k.isT t)
  | [], [], _ => ⟨[], [], pa_nil, .nil, rfl, rfl, fun k ty _ => kitAny_nil⟩
  | [], _ :: _, h => by cases h
  | _ :: _, [], h => by cases h
  | t :: ts, e :: es, h => by
    simp only [chkTys, Bool.and_eq_true] at h
    obtain ⟨v, u, h1, h2, h3, h4⟩ := snd_tyN Dc h.1
    obtain ⟨vs, us, g1, g2, g3, g4, g5⟩ := snd_tyNs Dc h.2
    refine ⟨v :: vs, u :: us, pa_cons h1 g1 (star_one h4 _ _), .cons h2 g2, by simp [h4, g3], by simp [g4], fun k ty hk => ?_⟩
    refine kitAny_cons (Dc.kit t (chkTy_mem h.1) k u ty h3 hk) (fun hb => ?_) fun hb => ?_
    · rw [g5 k ty hk]; simp [hb]
    · simp [hb]
theorem isTys_kd (st : Sto) (d : D) : ∀ ts : List Ty, ts ≠ [] → isTys st d ts = (kdOf st d).map fun k => ts.any fun t => k.isT t
  | [], h => absurd rfl h
  | t :: ts, _ => by
    show (match isTy st d t with
      | some true => some true
      | some false => isTys st d ts
      | none => none) = _
    rw [isTy_kd]
    cases hk : kdOf st d with
    | none => rfl
    | some k =>
      cases hb : k.isT t with
      | true => simp [hb]
      | false =>
        simp only [Option.map_some, hb, List.any_cons, Bool.false_or]
        by_cases e : ts = []
        · subst e; rfl
        · rw [isTys_kd st d ts e, hk]; rfl
theorem snd_isiT {a : E} {ts : List Ty} {x : Expr} {ys : List Expr} {p pos tpos : Pos} {j : Nat} {nm : Str} (Dc : Dy cA C c X) (hn : nm = "isinstance") (hg : glB c.sc nm = true) (ha : BorE cA C X a x) (hx : okHead x = true) (ht : chkTys c ts ys = true) (h0 : ts ≠ []) (hl : ys.length ≤ 1000) :
    ValE cA C X (.isi a ts) (.Call (.Name nm p) [x, .Tuple ys j tpos] [] pos) := by
  subst hn
  obtain ⟨vs, us, g1, g2, g3, g4, g5⟩ := snd_tyNs Dc ht
  refine pe_imp (pe_callB call_isiT (gl_of Dc hg) (Dc.free _ (by decide +kernel)) boot_isinstance (pa_cons ha (pa_cons (pe_tup (x1 := j) (pos := tpos) g1) pa_nil rfl) (star_one hx _ _)) (by decide +kernel) (by decide +kernel) (star_one hx _ _) rfl) fun σ H Q h => ?_
  refine semE_bind (f := fun ρ x st => ofO st ((isTys st x ts).map .bl)) h fun as ow H ρ st w d E R r h5 => ?_
  obtain ⟨d2, e, o⟩ := h5.ofO
  rw [isTys_kd st d ts h0] at e
  cases hk : kdOf st d with
  | none => rw [hk] at e; cases e
  | some k =>
    rw [hk] at e
    cases e
    refine ⟨by rw [g4, sizeLine_eq]; omega, fun q hq => ?_⟩
    have P := Pst.lay (o := .tup vs) R hq
    obtain ⟨ty, h6, h7⟩ := kd_ty (cA := cA) Dc.ins P.rel (r.pst R P) hk
    exact ⟨w, q, vs, ty, us, _, rfl, upd_same, g2, h7, g5 k ty h6, (Out.pst (as2 := as) (ow2 := ow) (H2 := H) P o).here P.rel (.bl _) rfl⟩
/-! ### methods of built-in types -/
def rM (K : PySem.W.Frag) (cA : ClA) (b : Bm) : V → List V → Hp → VK → Prop := fun v vs H Q => ∃ as ow st d ds r, Rel K cA as ow H st ∧ RepX K as ow H v d ∧ RepXs K as ow H vs ds ∧ bmS st b d ds = some r ∧ Out K cA as ow H st r Q
theorem snd_bm {T mid : String} {b : Bm} {o : E} {es : List E} {xo e0 : Expr} {xs : List Expr} {name : Str} {apos cpos : Pos} (pa : PlainAttrs T) (slot : Slot T name mid) (hty : typeOf (.builtin mid) = pure (.type "method_descriptor")) (hm : MtR X mid (rM X.K cA b))
    (hT : ∀ (as : List Addr) (ow : Addr → Prop) (H : Hp) (st : Sto) (v : V) (d : D), Rel X.K cA as ow H st → RepX X.K as ow H v d → bmT st b d = true → tyV X.K T v H)
    (hb : noCall0 xo = true) (hl : (apos.endLine == cpos.line) = true) (h30 : (e0 :: xs).length < 30) (hh : (e0 :: xs).all okHead = true) (ho : BorE cA C X o xo) (ha : PA X (e0 :: xs) (semBL X.K cA fun ρ st => evBs C ρ es st)) :
    ValE cA C X (.bm b o es) (.Call (.Attribute xo name apos) (e0 :: xs) [] cpos) := by
  have hh0 := hh
  simp only [List.all_cons, Bool.and_eq_true] at hh
  refine pe_imp (pe_bm pa slot hty hm ho ha (base_ok hb) (few_ok hh0 h30) hl (star_one hh.1 _ _) (back_plain hh.2)) fun σ H Q h => ?_
  refine semE_bind (f := fun ρ x st => if bmT st b x then (evBs C ρ es st).bind fun ds st => ofO st (bmS st b x ds) else .bad) h fun as ow H ρ st v d E R r h1 => ?_
  by_cases ht : bmT st b d = true
  · rw [if_pos ht] at h1
    refine ⟨hT as ow H st v d R r ht, as, ow, ρ, st, E, R, ?_⟩
    refine postBL_bind (P := fun r => PostE X.K cA as ow H r Q) id (fun _ _ => id) h1 fun ds st2 vs as2 ow2 H2 p2 r2 h2 => ?_
    obtain ⟨d3, e, o3⟩ := h2.ofO
    exact ⟨as2, ow2, st2, d, ds, d3, p2.rel, r.pst R p2, r2, e, Out.pst (as2 := as) (ow2 := ow) (H2 := H) p2 o3⟩
  · rw [if_neg ht] at h1; exact h1.elim
theorem bm_str {b : Bm} (hb : ∀ st d, bmT st b d = (match d with
    | .str _ => true
    | _ => false)) {K : PySem.W.Frag} (as : List Addr) (ow : Addr → Prop) (H : Hp) (st : Sto) (v : V) (d : D) (R : Rel K cA as ow H st) (r : RepX K as ow H v d) (h : bmT st b d = true) : tyV K "str" v H := by
  rw [hb] at h
  cases d with
  | str s => rw [str_rd r]; rfl
  | _ => cases h
theorem join_toStr (sep : List Char) : ∀ ss : List (List Char), Txt.join (toStr sep) (ss.map toStr) = toStr (joinC sep ss) := by
  intro ss
  rw [TL.join_eq]
  induction ss with
  | nil => rfl
  | cons x r ih =>
    cases r with
    | nil => rfl
    | cons y r =>
      show toStr x ++ toStr sep ++ Str.join (toStr sep) ((y :: r).map toStr) = toStr (x ++ sep ++ joinC sep (y :: r))
      rw [ih, toStr_app, toStr_app]
theorem mt_joinS : MtR X "str.join" (rM X.K cA .join) := by
  intro pins s σ H x xs v us Q I rx rs h
  obtain ⟨as, ow, st, d, ds, r, R, hd, hds, e, out⟩ := h
  have fin : ∀ (sep : List Char) (p : Addr) (ss : List (List Char)) (vs : List V), x = .str (toStr sep) → xs = [.ref p] → vs = (ss.map toStr).map V.str → (SqL X.K H p vs ∨ SqT X.K H p vs) → (ss.map List.length).sum + sep.length * ss.length ≤ 16777216 → r = .str (joinC sep ss) →
      wpAny (model X.prog X.w) X.A (call (.builtin "str.join") (v :: us)) (EP X pins σ Q) X.xe s := by
    intro sep p ss vs e1 e2 e3 e4 e5 e6
    subst e6
    refine mt_join pins s σ H x xs v us Q I rx rs ⟨toStr sep, p, ss.map toStr, e1, e2, by rw [← e3]; exact e4, ?_, by rw [join_toStr]; exact out.here R (.str _) rfl⟩
    rw [List.length_map, toStr_len, List.map_map]
    have : (Str.length ∘ toStr) = List.length := funext toStr_len
    have e7 : ((ss.map ((fun x => x.length) ∘ toStr))).sum = (ss.map List.length).sum := by
      congr 1
      apply List.map_congr_left
      intro a _; exact toStr_len a
    rw [e7, Nat.mul_comm]; exact e5
  cases d with
  | str sep =>
    match ds, e, hds with
    | [], e, _ => simp [bmS] at e
    | _ :: _ :: _, e, _ => simp [bmS] at e
    | [y], e, hds =>
      obtain ⟨w, rfl, hw⟩ := rx1 hds
      by_cases ht : ∃ ys, y = .tup ys
      · obtain ⟨ys, rfl⟩ := ht
        obtain ⟨p, vs, rfl, hp, rv⟩ := tup_rd hw
        have e : ((strsOf ys).bind fun ss => if (ss.map List.length).sum + sep.length * ss.length ≤ 16777216 then some (D.str (joinC sep ss)) else none) = some r := e
        cases h2 : strsOf ys with
        | none => rw [h2] at e; cases e
        | some ss =>
          rw [h2] at e
          simp only [Option.bind_some] at e
          split at e
          · rename_i hl; exact fin sep p ss vs (str_rd hd) rfl (strs_rd rv h2) (.inr (.of hp)) hl (Option.some.inj e).symm
          · cases e
      · have e : (((lsOf st y).bind strsOf).bind fun ss => if (ss.map List.length).sum + sep.length * ss.length ≤ 16777216 then some (D.str (joinC sep ss)) else none) = some r := by
          cases y <;> first | exact e | exact absurd ⟨_, rfl⟩ ht
        cases h1 : lsOf st y with
        | none => rw [h1] at e; cases e
        | some ys =>
          rw [h1] at e
          cases h2 : strsOf ys with
          | none => simp [h2] at e
          | some ss =>
            simp only [Option.bind_some, h2] at e
            obtain ⟨p, vs, rfl, hp, rv⟩ := ls_rd R hw h1
            split at e
            · rename_i hl; exact fin sep p ss vs (str_rd hd) rfl (strs_rd rv h2) (.inl hp) hl (Option.some.inj e).symm
            · cases e
  | _ => simp [bmS] at e
theorem mt_rjustS : MtR X "str.rjust" (rM X.K cA .rjust) := by
  intro pins s σ H x xs v us Q I rx rs h
  obtain ⟨as, ow, st, d, ds, r, R, hd, hds, e, out⟩ := h
  match d, ds, e with
  | .str z, [.int n, .str [ch]], e =>
    have e : (if 0 ≤ n ∧ n ≤ 1000 then some (D.str (List.replicate (n.toNat - z.length) ch ++ z)) else none) = some r := e
    split at e
    · rename_i hn
      cases e
      obtain ⟨w1, w2, rfl, h1, h2⟩ := rx2 hds
      have e1 := str_rd hd
      have e2 := int_rd h1
      have e3 := str_rd h2
      subst e1 e2 e3
      obtain ⟨t, rfl⟩ := rx
      cases rs with
      | cons r1 rs => cases rs with
        | cons r2 rs =>
          cases rs
          obtain ⟨t1, rfl⟩ := r1
          obtain ⟨t2, rfl⟩ := r2
          have hp : PadOk n = true := by
            unfold PadOk fitsSsize Builtin.Str.tooLong
            rw [Bool.and_eq_true, Bool.not_eq_true', Bool.not_eq_true', Bool.or_eq_false_iff]
            refine ⟨⟨decide_eq_false (by omega), decide_eq_false (by omega)⟩, decide_eq_false ?_⟩
            rw [sizeLine_eq]; omega
          refine rjust_fill hp rfl fun t' k => ⟨.str (toStr (List.replicate (n.toNat - z.length) ch ++ z)), H, I.tok k, ⟨t', ?_⟩, out.here R (.str _) rfl⟩
          congr 1
          apply Str.ext'
          apply Array.toList_inj.mp
          rw [rjustF_list, toStr_tl, toStr_tl, toStr_len, List.map_append, List.map_replicate]
          rfl
    · cases e
theorem mt_indexS : MtR X "list.index" (rM X.K cA .index) := by
  intro pins s σ H x xs v us Q I rx rs h
  obtain ⟨as, ow, st, d, ds, r, R, hd, hds, e, out⟩ := h
  match ds, e, hds with
  | [], e, _ => simp [bmS] at e
  | _ :: _ :: _, e, _ => simp [bmS] at e
  | [y], e, hds =>
    obtain ⟨w, rfl, hw⟩ := rx1 hds
    have e : ((lsOf st d).bind fun xs => if okd 0 y && okds 0 xs then (xs.findIdx? fun z => peq z y).map fun j => D.int j else none) = some r := by
      cases d <;> exact e
    cases h1 : lsOf st d with
    | none => rw [h1] at e; cases e
    | some ys =>
      rw [h1] at e
      simp only [Option.bind_some] at e
      split at e
      · rename_i ok
        simp only [Bool.and_eq_true] at ok
        cases h2 : ys.findIdx? fun z => peq z y with
        | none => rw [h2] at e; cases e
        | some j =>
          rw [h2] at e
          cases e
          obtain ⟨p, vs, rfl, hp, rv⟩ := ls_rd R hd h1
          rw [List.findIdx?_eq_some_iff_getElem] at h2
          obtain ⟨hj, h3, h4⟩ := h2
          have hjd : ys[j]? = some ys[j] := List.getElem?_eq_getElem hj
          obtain ⟨z, hz, rz⟩ := rv.get hjd
          have hwv := repV_of hw (free_okd (n := 0) ok.1)
          have okj : okd 0 ys[j] = true := by
            have key : ∀ (l : List D) (i : Nat) (hi : i < l.length), okds 0 l = true → okd 0 l[i] = true := by
              intro l
              induction l with
              | nil => intro i hi; cases hi
              | cons a l ih =>
                intro i hi ho
                simp only [okds, Bool.and_eq_true] at ho
                cases i with
                | zero => exact ho.1
                | succ i => exact ih i (by simpa using hi) ho.2
            exact key _ _ hj ok.2
          refine mt_index pins s σ H _ _ v us Q I rx rs ⟨p, vs, w, j, z, rfl, rfl, hp, flat0 ok.1 hwv, flats0 ok.2 rv, hz, by rw [eqV_peq okj ok.1 rz hwv]; exact h3, fun m z' hm hz' => ?_, out.here R (.int _) rfl⟩
          obtain ⟨dm, e1, r1⟩ := rv.getV hz'
          have hml : m < ys.length := by omega
          have e2 : ys[m] = dm := by
            rw [List.getElem?_eq_getElem hml] at e1; exact Option.some.inj e1
          have okm : okd 0 dm = true := by
            have key : ∀ (l : List D) (i : Nat) (hi : i < l.length), okds 0 l = true → okd 0 l[i] = true := by
              intro l
              induction l with
              | nil => intro i hi; cases hi
              | cons a l ih =>
                intro i hi ho
                simp only [okds, Bool.and_eq_true] at ho
                cases i with
                | zero => exact ho.1
                | succ i => exact ih i (by simpa using hi) ho.2
            rw [← e2]; exact key _ _ hml ok.2
          rw [eqV_peq okm ok.1 r1 hwv, ← e2]
          have := h4 m hm
          simpa using this
      · cases e
end
end CM
end
section
set_option linter.all false
set_option maxRecDepth 100000
set_option maxHeartbeats 4000000
/-! Displays of dicts with one entry; more methods. -/
namespace CM
open PySem PySem.Spec PyProof.Rows L2
section
variable {X : Cx}
/-- {k: v}, k a tuple of numbers and texts -/
def tDispT (tk tv : TE) : TE := fun σ H Q => ∀ p, H p = none → tk σ (upd H p (.dT [])) fun x H1 => tv σ H1 fun y H2 => H2 p = some (.dT []) ∧ ∃ (k : List L2.Key) (b : Addr), x = .ref b ∧ H2 b = some (.tup (k.map kV)) ∧ Q (.ref p) (upd H2 p (.dT [(k, y)]))
theorem pe_dispT {k v : Expr} {pos : Pos} {tk tv : TE} (hu : X.A.units + 1 < cLine) (hk : PE X k tk) (hv : PE X v tv) : PE X (.Dict [some k] [v] pos) (tDispT tk tv) := by
  refine ⟨fun pins s σ H Q I q => ?_⟩
  have hn := I.hok.fresh (Nat.le_refl s.heap.objs.size)
  have I1 := I.laid (a := s.heap.objs.size) (o := .dT []) (h' := s.heap.push { cls := .type "dict", data := .dict #[] }) (t' := s.toks) (fun _ _ q => Heap.get?_push_of_some _ q) (Nat.le_refl _) (dt_empty s.heap I.big)
  rw [arm_eval_Dict, zip_pairTrees [some k] [v] X.env pos rfl rfl, dictDisplay_pairs (pairTrees [some k] [v] X.env pos) (by simp [pairTrees]) (by simp [pairTrees])]
  refine wpAny_bind (wpAny_standAt (wpAny_bind (wpAny_subDictH (knd := tupleKind (mixKind X.prog X.w)) (show X.A.units < cLine by omega) (by simp [pairTrees]) ?_)))
  refine pairTrees_cons_walk (thn (hk.run pins _ σ _ _ I1 (q _ hn)) fun u s1 ⟨x, H1, J1, rx, q1⟩ => thn (hv.run pins s1 σ H1 _ J1 q1) fun w2 s2 ⟨y, H2, J2, ry, q2⟩ => pairTrees_nil_walk ?_)
  obtain ⟨e, kk, b, ex, hb, q3⟩ := q2
  subst ex
  obtain rfl : u = Value.ref b := rx
  obtain ⟨z, hd, xs, rel, dd⟩ := dt_of J2.hok e
  cases rel
  refine ⟨[(kk, b, w2)], ⟨rfl, rfl, key_of J2.hok hb, trivial⟩, dd, fun h' tk dd' hs => wpAny_pure ?_⟩
  obtain ⟨o, es, ep, hq, h2, h3, h4, _, h5⟩ := dd'
  have J3 : Inv X pins σ (upd H2 s.heap.objs.size (.dT [(kk, y)])) { s2 with heap := h', toks := tk } :=
    d_write J2 (by rw [e]; trivial) hs ⟨o, hq⟩ ⟨by show 1 ≤ sizeLine; rw [sizeLine_eq]; omega, hd, _, .cons ⟨rfl, (by rw [upd_ne (ne_of hb e (fun z => nomatch z))]; exact hb), ry⟩ .nil, o, es, ep, hq, h2, h3, h4, h5⟩
  exact ⟨.ref s.heap.objs.size, _, J3, rfl, q3⟩
end
section
variable {cA : ClA} {C : Calls} {c : Cs} {X : Cx} {as as' : List Addr} {ow ow' : Addr → Prop} {H H' : Hp} {st st' : Sto} {σ : L2.St} {ρ : Slots}
theorem key_rd {K : PySem.W.Frag} {v : V} {d : D} {t : Bool} {y : Ky} (r : RepX K as ow H v d) (h : keyOf t d = some y) : (t = false → ∃ a, y = .k a ∧ v = kV (kxK a)) ∧ (t = true → ∃ a b, y = .t a ∧ v = .ref b ∧ H b = some (.tup ((a.map kxK).map kV))) := by
  refine ⟨fun e => ?_, fun e => ?_⟩
  · subst e
    have : ∃ a, kxOf d = some a ∧ y = .k a := by
      cases d <;> simp [keyOf, kxOf] at h ⊢ <;> exact h.symm
    obtain ⟨a, ha, rfl⟩ := this
    have hv : RepV K as ow H v d := by cases d <;> first | exact r | cases ha
    exact ⟨a, rfl, kx_rd hv ha⟩
  · subst e
    cases d with
    | tup xs =>
      obtain ⟨b, vs, rfl, hb, rv⟩ := tup_rd r
      simp only [keyOf, if_true] at h
      cases hx : kxsOf xs with
      | none => rw [hx] at h; cases h
      | some bs =>
        rw [hx] at h; cases h
        have ev := kxs_rd rv hx
        subst ev
        exact ⟨bs, b, rfl, rfl, hb⟩
    | _ => simp [keyOf] at h
theorem car_upd {K : PySem.W.Frag} {cA : ClA} (R : Rel K cA as ow H st) {l : Addr} {o o' : HO} (hl : l ∈ as ∨ ow l) (h : H l = some o) : Car as ow H as ow (upd H l o') := by
  have m0 : isMut o = true := by
    rcases hl with hl | hl
    · obtain ⟨ob, e, m⟩ := R.mta l hl; rw [h] at e; cases e; exact m
    · obtain ⟨ob, e, m⟩ := R.mto l hl; rw [h] at e; cases e; exact m
  refine ⟨List.prefix_refl _, fun q vs e => by rw [upd_ne (ne_of e h (fun z => by subst z; cases m0))]; exact e, fun q ob u e => by rw [upd_ne (ne_of e h (fun z => by subst z; cases m0))]; exact e, fun q ob e a b => ⟨?_, a, b⟩⟩
  rw [upd_ne (fun z => hl.elim (fun y => a (by rw [z]; exact y)) fun y => b (by rw [z]; exact y))]; exact e
/-- the heap's relation when a thing in hand, a place of the store is changed -/
theorem Rel.updSlot {K : PySem.W.Frag} {cA : ClA} (R : Rel K cA as ow H st) {l : Addr} {o o' : HO} (hw : ow l) (h : H l = some o) (m' : isMut o' = true) : Rel K cA as ow (upd H l o') st := by
  have c := car_upd (o' := o') R (.inr hw) h
  have nl := R.owNot hw
  refine ⟨R.len, R.nd, R.dis, fun a ha => ?_, fun a ha => ?_, fun n x a e1 e2 => (R.cell n x a e1 e2).car c ?_⟩
  · rw [upd_ne (fun z => nl (by rw [← z]; exact ha))]; exact R.mta a ha
  · by_cases z : a = l
    · subst z; exact ⟨o', upd_same, m'⟩
    · rw [upd_ne z]; exact R.mto a ha
  · exact upd_ne (fun z => nl (by rw [← z]; exact List.mem_of_getElem? e2))
theorem semE_mono {K : PySem.W.Frag} {f : Slots → Sto → R D} {Q Q' : VK} (h : semE K cA f σ H Q) (i : ∀ v H, Q v H → Q' v H) : semE K cA f σ H Q' := by
  obtain ⟨as, ow, ρ, st, E, R, h⟩ := h
  refine ⟨as, ow, ρ, st, E, R, ?_⟩
  revert h
  cases e : f ρ st with
  | ok d st1 => exact fun h v a b c p r f => i _ _ (h v a b c p r f)
  | top => exact fun h => h
  | bad => exact fun h => h
  | err _ _ => exact fun h => h
theorem Pst.write {K : PySem.W.Frag} {as2 : List Addr} {ow2 : Addr → Prop} {H2 : Hp} {st2 : Sto} (P : Pst K cA as ow H as2 ow2 H2 st2) {p : Addr} {o o' : HO} (hn : H p = none) (hw : ow2 p) (h : H2 p = some o) (m : isMut o' = true) : Pst K cA as ow H as2 ow2 (upd H2 p o') st2 :=
  ⟨P.pre, P.pw, fun q ob e n => let ⟨x1, x2, x3⟩ := P.keep q ob e n; ⟨by rw [upd_ne (ne_of_none e hn)]; exact x1, x2, x3⟩, P.rel.updSlot hw h m⟩
theorem snd_dct1 {t : Bool} {k v : E} {xk xv : Expr} {pos : Pos} (Dc : Dy cA C c X) (hk : ValE cA C X k xk) (hv : ValE cA C X v xv) : ValE cA C X (.dct1 t k v) (.Dict [some xk] [xv] pos) := by
  have core : ∀ (t : Bool) (o : HO), isMut o = true → ∀ (σ : L2.St) (H : Hp) (Q : VK), semE X.K cA (fun ρ st => ev C ρ (.dct1 t k v) st) σ H Q → ∀ p, H p = none →
      semE X.K cA (fun ρ st => ev C ρ k st) σ (upd H p o) fun x H1 => semE X.K cA (fun ρ st => ev C ρ v st) σ H1 fun y H2 => H2 p = some o ∧ ∃ as ow st as2 ow2 st2 a ky d, Rel X.K cA as ow H st ∧ Pst X.K cA as ow H as2 ow2 H2 st2 ∧ ow2 p ∧ RepX X.K as2 ow2 H2 x a ∧ keyOf t a = some ky ∧ RepV X.K as2 ow2 H2 y d ∧ Out X.K cA as ow H st2 (.od t [(ky, d)]) Q := by
    intro t o ho σ H Q h p hp
    obtain ⟨as, ow, ρ, st, E, R, h⟩ := h
    have P0 := Pst.own (o := o) R hp ho
    have E0 := E.pst R P0
    refine ⟨as, _, ρ, st, E0, P0.rel, ?_⟩
    have h : PostE X.K cA as ow H ((ev C ρ k st).bind fun a st => (ev C ρ v st).bind fun b st => match keyOf t a with
      | some y => .ok (.od t [(y, CM.frz b)]) st
      | none => .bad) Q := h
    dsimp only
    cases e1 : ev C ρ k st with
    | top => trivial
    | bad => rw [e1] at h; exact h.elim
    | err _ _ => rw [e1] at h; exact h.elim
    | ok a st1 =>
      rw [e1] at h
      have h : PostE X.K cA as ow H ((ev C ρ v st1).bind fun b st => match keyOf t a with
        | some y => .ok (.od t [(y, CM.frz b)]) st
        | none => .bad) Q := h
      intro x as1 ow1 H1 p1 r1 f1
      refine ⟨as1, ow1, ρ, st1, E0.pst P0.rel p1, p1.rel, ?_⟩
      dsimp only
      cases e2 : ev C ρ v st1 with
      | top => trivial
      | bad => rw [e2] at h; exact h.elim
      | err _ _ => rw [e2] at h; exact h.elim
      | ok b st2 =>
        rw [e2] at h
        have h : PostE X.K cA as ow H (match keyOf t a with
          | some y => .ok (.od t [(y, CM.frz b)]) st2
          | none => .bad) Q := h
        intro y as2 ow2 H2 p2 r2 f2
        cases hky : keyOf t a with
        | none => rw [hky] at h; exact h.elim
        | some ky =>
          rw [hky] at h
          obtain ⟨ow3, p3, rv⟩ := CM.freeze p2 r2 f2
          obtain ⟨n1, n2⟩ := R.freshN hp
          obtain ⟨k1, k2, _⟩ := p1.keep p o upd_same n1
          obtain ⟨k3, _, _⟩ := p3.keep p o k1 k2
          exact ⟨k3, as, ow, st, as2, ow3, st2, a, ky, _, R, (P0.trans p1).trans p3, p3.pw p (p1.pw p (.inr rfl)), r1.pst p1.rel p3, hky, rv, h⟩
  cases t with
  | true =>
    refine pe_imp (pe_dispT (by have := Dc.hu; omega) hk hv) fun σ H Q h p hp => ?_
    refine semE_mono (core true (.dT []) rfl σ H Q h p hp) fun x H1 h1 => semE_mono h1 fun y H2 ⟨e, as, ow, st, as2, ow2, st2, a, ky, d, R, P, hw, rx, hky, ry, out⟩ => ⟨e, ?_⟩
    obtain ⟨aa, b, rfl, rfl, hb⟩ := (key_rd rx hky).2 rfl
    refine ⟨aa.map kxK, b, rfl, hb, ?_⟩
    have P2 := P.write (o' := .dT [(aa.map kxK, y)]) hp hw e rfl
    have cc : Car as2 ow2 H2 as2 ow2 (upd H2 p (.dT [(aa.map kxK, y)])) := car_upd P.rel (.inr hw) e
    exact out _ _ _ _ P2 ⟨p, _, rfl, hw, upd_same, .cons (ry.car cc) .nil⟩ fun _ q z => by cases z; exact (R.freshN hp).2
  | false =>
    refine pe_imp (pe_disp (pps_cons hk hv pps_nil) rfl rfl (fun z => by cases z) (by simp)) fun σ H Q h p hp => ?_
    refine semE_mono (core false (.dK []) rfl σ H Q h p hp) fun x H1 h1 => semE_mono h1 fun y H2 ⟨e, as, ow, st, as2, ow2, st2, a, ky, d, R, P, hw, rx, hky, ry, out⟩ => ⟨e, ?_⟩
    obtain ⟨aa, rfl, rfl⟩ := (key_rd rx hky).1 rfl
    refine ⟨[(kxK aa, y)], rfl, by simp, ?_⟩
    have em : mergeK [] [(kxK aa, y)] = [(kxK aa, y)] := rfl
    rw [em]
    have P2 := P.write (o' := .dK [(kxK aa, y)]) hp hw e rfl
    have cc : Car as2 ow2 H2 as2 ow2 (upd H2 p (.dK [(kxK aa, y)])) := car_upd P.rel (.inr hw) e
    exact out _ _ _ _ P2 ⟨p, _, rfl, hw, upd_same, .cons (ry.car cc) .nil⟩ fun _ q z => by cases z; exact (R.freshN hp).2
end
end CM
end
section
set_option linter.all false
set_option maxRecDepth 100000
set_option maxHeartbeats 4000000
/-! list(reversed(xs)). -/
namespace CM
open PySem PySem.Spec PyProof.Rows L2
namespace LR
section
variable {prog : Program} {w : World} {A : Around} {E : Value → Shared → Prop} {s : Shared}
theorem ext_rev {c0 : Nat} {R : Result → Shared → Prop} {it l S : Addr} {xs : Array Value} (hh : A.handled = none) (hi : s.heap.IsRevIter it l ((xs.size : Int) - 1)) (hl : s.heap.IsList l xs) (h1 : l ≠ it) (h2 : S ≠ it) (h3 : S ≠ l) (hz : xs.size ≤ sizeLine)
    (hS : s.heap.get? S = some { cls := .type "list", dict := none, data := .seq #[] c0, slots := #[] })
    (q : ∀ g tk ys c, (∀ b o, b ≠ it → b ≠ S → s.heap.get? b = some o → g.get? b = some o) → g.get? S = some { cls := .type "list", dict := none, data := .seq ys c, slots := #[] } → ItemsOf (fun i v => xs[xs.size - 1 - i]? = some v) ys xs.size → R (.ok (.ret .none)) { s with heap := g, toks := tk }) :
    wpAny (model prog w) A.in1 (Builtin.List.listExtendWith (.ref S) (.ref it) .none)
      (fun fin s' => match fin with | .done f => R (.ok f) s' | .again c' => c'.quiet = true ∧ codeAny (model prog w) A c' R s') (fun e s' => R (.error e) s') s := by
  have WS := (Walks.listRev (prog := prog) (w := w) (A := A.in1) (show A.in1.handled = none from hh) it l h1 xs).toS
  have ty : s.TypeIs (.ref it) "list_reverseiterator" := Heap.IsRevIter.typeIs hi
  have nS : S ∉ [it, l] := by
    intro hm
    rcases List.mem_cons.mp hm with e | e
    · exact h2 e
    · exact h3 (List.mem_singleton.mp e)
  have ns : Builtin.List.listSameRef (.ref S) (.ref it) = false := by simp [Builtin.List.listSameRef, h2]
  unfold Builtin.List.listExtendWith
  refine wpAny_bind (wpAny_typeOf ty ?_)
  rw [if_neg (by rw [ns]; decide)]
  refine wpAny_bind (wpAny_pyIter_revIter hi (wpAny_bind (wpAny_holding ?_)))
  unfold Builtin.List.listLengthHint
  refine wpAny_bind (wpAny_specialOf ty RT.nolen_lri ?_)
  show wpAny _ A.in1 (specialOf (Value.ref it) (Str.ofString "__length_hint__") >>= _) _ _ s
  refine wpAny_bind (wpAny_specialOf ty RT.hint_lri ?_)
  generalize hj : ("list_reverseiterator.__length_hint__" : String) = j0
  wp_delta
  have sp : splitId j0 = some ("list_reverseiterator", "__length_hint__") := by subst hj; decide +kernel
  rw [sp]
  subst hj
  refine wpAny_bind (wpAny_isInstance (b := true) ty (by rw [isSubtype_type]; kernel_rfl) (wpAny_pure ?_))
  rw [if_neg (by decide)]
  have e0 : ((xs.size : Nat) : Int) - 1 - ((0 : Nat) : Int) = (xs.size : Int) - 1 := by omega
  refine wpAny_pure ⟨plainId_quiet F.plain_extend_loop _, codeAny_extend_loopS WS hz _ nS _ xs.size 0 _ _ _ rfl (Nat.zero_le _) ⟨Nat.zero_le _, by rw [e0]; exact hi, hl⟩ hS (ItemsOf.nil _) fun s2 ys c mv hy hit => ?_⟩
  rw [Moved.eq_with mv]
  refine q s2.heap s2.toks ys c (fun b o n1 n2 e => mv.heap b o (fun hm => ?_) e) hy hit
  rcases List.mem_cons.mp hm with e' | hm
  · exact n2 e'
  · exact n1 (List.mem_singleton.mp hm)
theorem init_rev {R : Result → Shared → Prop} {it l S : Addr} {xs : Array Value} (hh : A.handled = none) (hi : s.heap.IsRevIter it l ((xs.size : Int) - 1)) (hl : s.heap.IsList l xs) (h1 : l ≠ it) (h2 : S ≠ it) (h3 : S ≠ l) (hz : xs.size ≤ sizeLine)
    (hS : s.heap.get? S = some { cls := .type "list", data := .seq #[] })
    (q : ∀ g tk ys c, (∀ b o, b ≠ it → b ≠ S → s.heap.get? b = some o → g.get? b = some o) → g.get? S = some { cls := .type "list", dict := none, data := .seq ys c, slots := #[] } → ItemsOf (fun i v => xs[xs.size - 1 - i]? = some v) ys xs.size → R (.ok (.ret .none)) { s with heap := g, toks := tk }) :
    wpAny (model prog w) A.in1 (Builtin.«list.__init__» ⟨[.ref S, .ref it], []⟩)
      (fun fin s' => match fin with | .done f => R (.ok f) s' | .again c' => c'.quiet = true ∧ codeAny (model prog w) A c' R s') (fun e s' => R (.error e) s') s := by
  show wpAny _ A.in1 (Builtin.List.listItems (.ref S) >>= fun old => Builtin.List.listUpdate (.ref S) (fun _ => #[]) >>= fun _ => letGo old.toList.reverse >>= fun _ => Builtin.List.listExtendWith (.ref S) (.ref it) .none) _ _ s
  refine wpAny_bind ?_
  unfold Builtin.List.listItems
  refine wpAny_bind (wpAny_seqItems hS rfl (wpAny_pure (wpAny_bind ?_)))
  show wpAny _ A.in1 (updateSeq S (fun _ => #[])) _ _ s
  refine wpAny_updateSeq hS rfl (wpAny_bind (wpAny_letGo ?_))
  have kp : ∀ b o, b ≠ S → s.heap.get? b = some o → (s.heap.update S (Obj.mapSeq (fun _ => (#[] : Array Value)))).get? b = some o :=
    fun b o n e => by rw [Heap.get?_update_other _ _ (Ne.symm n)]; exact e
  have g1 := Heap.get?_update_self (Obj.mapSeq (fun _ => (#[] : Array Value))) hS rfl
  refine ext_rev hh (hi.at fun o e => kp it o (Ne.symm h2) e) ?_ h1 h2 h3 hz g1 fun g tk ys c k hy hit => q g tk ys c (fun b o n1 n2 e => k b o n1 n2 (kp b o n2 e)) hy hit
  obtain ⟨o, ho, r⟩ := hl
  exact ⟨o, kp l o (Ne.symm h3) ho, r⟩
theorem call_list_rev {Q : Value → Shared → Prop} {it l : Addr} {xs : Array Value} (hh : A.handled = none) (hi : s.heap.IsRevIter it l ((xs.size : Int) - 1)) (hl : s.heap.IsList l xs) (h1 : l ≠ it) (hz : xs.size ≤ sizeLine)
    (q : ∀ g tk ys c, (∀ b o, b ≠ it → s.heap.get? b = some o → g.get? b = some o) → g.get? s.heap.objs.size = some { cls := .type "list", dict := none, data := .seq ys c, slots := #[] } → ItemsOf (fun i v => xs[xs.size - 1 - i]? = some v) ys xs.size → Q (.ref s.heap.objs.size) { s with heap := g, toks := tk }) :
    wpAny (model prog w) A (call (.type "list") [.ref it]) Q E s := by
  obtain ⟨oi, hoi, _⟩ := id hi
  obtain ⟨ol, hol, rl⟩ := id hl
  have n1 : s.heap.objs.size ≠ it := fun z => Nat.lt_irrefl _ (z ▸ Heap.lt_size hoi)
  have n2 : s.heap.objs.size ≠ l := fun z => Nat.lt_irrefl _ (z ▸ Heap.lt_size hol)
  refine callType_codes (Q₁ := fun obj s₁ => obj = .ref s.heap.objs.size ∧ s₁ = { s with heap := s.heap.push { cls := .type "list", data := .seq #[] } }) F.called_list (F.typeCall_list_1 _)
    F.entry_list_init (code_list_new _ ⟨rfl, rfl⟩) fun obj s₁ e => ?_
  obtain ⟨rfl, rfl⟩ := e
  have hS : (s.heap.push { cls := .type "list", data := .seq #[] }).get? s.heap.objs.size = some { cls := .type "list", data := .seq #[] } := Heap.get?_push_size _ rfl
  have up : ∀ b o, s.heap.get? b = some o → (s.heap.push { cls := .type "list", data := .seq #[] }).get? b = some o := fun b o e => Heap.get?_push_of_some _ e
  refine ⟨⟨_, hS, rfl⟩, F.args_list_init_2 _ _, init_rev (s := { s with heap := s.heap.push { cls := .type "list", data := .seq #[] } }) hh (hi.at fun o e => up it o e) ⟨ol, up l ol hol, rl⟩ h1 n1 n2 hz hS fun g tk ys c k hy hit => ⟨rfl, ?_⟩⟩
  exact q g tk ys c (fun b o n e => k b o n (fun z => Nat.lt_irrefl _ (z ▸ Heap.lt_size e)) (up b o e)) hy hit
end
end LR
section
variable {X : Cx}
/-- list(reversed(e)) -/
def tLrev (K : PySem.W.Frag) (te : TE) : TE := fun σ H Q => te σ H fun v H1 => ∃ (a : Addr) (xs : List V), v = .ref a ∧ SqL K H1 a xs ∧ ∀ p, H1 p = none → Q (.ref p) (upd H1 p (.lst xs.reverse))
theorem pe_lrev {e : Expr} {te : TE} {p1 p2 pos1 pos2 : Pos} (hc : X.calm = true) (h1 : Gl X "list") (m1 : X.mg "list" = none) (h2 : Gl X "reversed") (m2 : X.mg "reversed" = none) (he : PE X e te) (hs : starEach [e] X.env = [(false, eval e X.env)]) :
    PE X (.Call (.Name "list" p1) [.Call (.Name "reversed" p2) [e] [] pos2] [] pos1) (tLrev X.K te) := by
  refine ⟨fun pins s σ H Q I h => ?_⟩
  refine wpAny_Call_Name_kw (ld_blt I h1 m1 boot_list ?_)
  refine PyProof.Rows.callWith_type1 (PyProof.Rows.args_cons (wpAny_Call_Name_kw (ld_blt I h2 m2 PyProof.Rows.boot_reversed ?_)))
  refine PyProof.Rows.callWith_type1 (PyProof.Rows.args_cons (thn (he.run pins s σ H _ I h) fun u s1 ⟨v, H1, I1, r1, a, xs, ev, hq, q⟩ => PyProof.Rows.args_nil ?_) hs) hs rfl
  subst ev
  cases r1
  obtain ⟨its, rv, pl, hz⟩ := I1.list hq
  have hl := rv.length
  refine call_reversed_list pl.isList (PyProof.Rows.args_nil ?_)
  obtain ⟨ol, hol, rl⟩ := id pl.isList
  have na : a ≠ s1.heap.objs.size := fun z => Nat.lt_irrefl _ (z ▸ Heap.lt_size hol)
  refine LR.call_list_rev (l := a) (xs := its.toArray) (I1.ok.hd hc) ⟨_, Heap.get?_push_size _ rfl, rfl, rfl⟩ ⟨ol, Heap.get?_push_of_some _ hol, rl⟩ na (by simp only [List.size_toArray]; omega) fun g tk ys c k hy hit => ?_
  have kp : ∀ b o, s1.heap.get? b = some o → g.get? b = some o := fun b o e => k b o (fun z => Nat.lt_irrefl _ (z ▸ Heap.lt_size e)) (Heap.get?_push_of_some _ e)
  have hsz : (s1.heap.push (revObj a ((its.toArray.size : Int) - 1))).objs.size = s1.heap.objs.size + 1 := size_push' _ _
  have hys : ys.toList = its.reverse := by
    apply List.ext_getElem?
    intro i
    obtain ⟨e1, e2⟩ := hit
    simp only [List.size_toArray] at e1
    by_cases hi : i < its.length
    · obtain ⟨v, hv, hv2⟩ : ∃ v, ys[i]? = some v ∧ its.toArray[its.toArray.size - 1 - i]? = some v := by
        have hiy : i < ys.size := by omega
        refine ⟨ys[i], by simp [hiy], ?_⟩
        exact e2 i _ (by simp [hiy])
      rw [List.getElem?_reverse hi]
      simp only [List.size_toArray, List.getElem?_toArray] at hv2
      rw [Array.getElem?_toList, hv, hv2]
    · rw [List.getElem?_eq_none (by simp; omega), List.getElem?_eq_none (by simp; omega)]
  refine ⟨.ref (s1.heap.push (revObj a ((its.toArray.size : Int) - 1))).objs.size, _, I1.laid (t' := tk) kp (by rw [hsz]; exact Nat.le_succ _) (show ObjOk X.prog X.w _ g _ (.lst xs.reverse) from ⟨by rw [List.length_reverse]; exact hz, its.reverse, c, rv.reverse, by rw [← hys]; simpa using hy⟩), rfl, q _ (I1.hok.fresh (by rw [hsz]; exact Nat.le_succ _))⟩
end
section
variable {cA : ClA} {C : Calls} {c : Cs} {X : Cx} {as as' : List Addr} {ow ow' : Addr → Prop} {H H' : Hp} {st st' : Sto} {σ : L2.St} {ρ : Slots}
theorem snd_lrev {a : E} {xa : Expr} {p1 p2 pos1 pos2 : Pos} (Dc : Dy cA C c X) (h1 : Gl X "list") (h2 : Gl X "reversed") (h0 : okHead xa = true) (ha : BorE cA C X a xa) :
    ValE cA C X (.listRev a) (.Call (.Name "list" p1) [.Call (.Name "reversed" p2) [xa] [] pos2] [] pos1) := by
  refine pe_imp (pe_lrev Dc.calm h1 (Dc.free _ (by decide +kernel)) h2 (Dc.free _ (by decide +kernel)) ha (star_one h0 _ _)) fun σ H Q h => ?_
  refine semE_bind (f := fun ρ x st => ofO st ((lsOf st x).map fun xs : List CM.D => CM.D.ol xs.reverse)) h fun as ow H ρ st v d E R r h1 => ?_
  obtain ⟨d3, e, o3⟩ := h1.ofO
  cases hl : lsOf st d with
  | none => rw [hl] at e; cases e
  | some xs =>
    rw [hl] at e
    cases e
    obtain ⟨p, vs, rfl, hp, rv⟩ := ls_rd R r hl
    exact ⟨p, vs, rfl, hp, fun q hq => o3.newL R rv.reverse hq⟩
theorem dc_isD {K : PySem.W.Frag} (R : Rel K cA as ow H st) {v : V} {d : D} (r : RepX K as ow H v d) (e : (dcOf st d).isSome = true) : ∃ l, v = .ref l ∧ IsD H l := by
  cases hd : dcOf st d with
  | none => rw [hd] at e; cases e
  | some z =>
    obtain ⟨t, ks⟩ := z
    cases d with
    | od t' ks' =>
      cases t' with
      | false => obtain ⟨p, kvs, rfl, _, h, _⟩ := r; exact ⟨p, rfl, .inl ⟨kvs, .of h⟩⟩
      | true => obtain ⟨p, kvs, rfl, _, h, _⟩ := r; exact ⟨p, rfl, .inr ⟨kvs, .of h⟩⟩
    | fd t' ks' =>
      cases r with
      | fdk a _ _ _ => exact ⟨_, rfl, .inl ⟨_, a⟩⟩
      | fdt a _ _ _ => exact ⟨_, rfl, .inr ⟨_, a⟩⟩
    | ref n =>
      cases r with
      | ref ea =>
        cases ec : st[n]? with
        | none => simp [dcOf, ec] at hd
        | some cell =>
          simp only [dcOf, ec] at hd
          cases cell with
          | dct t' ks' =>
            have rc := R.cell n _ _ ec ea
            cases t' with
            | false => obtain ⟨kvs, h, _⟩ := rc; exact ⟨_, rfl, .inl ⟨kvs, .of h⟩⟩
            | true => obtain ⟨kvs, h, _⟩ := rc; exact ⟨_, rfl, .inr ⟨kvs, .of h⟩⟩
          | _ => cases hd
    | _ => cases hd
/-- d.get(k, x) -/
theorem snd_dget {o k x : E} {xo xk xx : Expr} {apos cpos : Pos} (Dc : Dy cA C c X) (hb : noCall0 xo = true) (hl : (apos.endLine == cpos.line) = true) (hk0 : okHead xk = true) (hx0 : okHead xx = true) (ho : BorE cA C X o xo) (hk : ValE cA C X k xk) (hx : ValE cA C X x xx) :
    ValE cA C X (.dget o k x) (.Call (.Attribute xo "get" apos) [xk, xx] [] cpos) := by
  have hh : [xk, xx].all okHead = true := by simp [hk0, hx0]
  refine pe_imp (pe_dget2 (by have := Dc.hu; omega) ho hk hx ⟨base_ok hb, few_ok hh (by simp), hl, by rw [star_all hh]; rfl⟩) fun σ H Q h => ?_
  refine semE_bind (f := fun ρ d st => if (dcOf st d).isSome then (ev C ρ k st).bind fun a st => (ev C ρ x st).bind fun b st => match dcOf st d with
    | some (t, kvs) => (match keyOf t a with
      | some y => .ok ((dGet y kvs).getD (CM.frz b)) st
      | none => .bad)
    | none => .bad else .bad) h fun as ow H ρ st v d E R r h1 => ?_
  by_cases hs : (dcOf st d).isSome = true
  · rw [if_pos hs] at h1
    obtain ⟨l, rfl, hd⟩ := dc_isD R r hs
    refine ⟨l, rfl, hd, as, ow, ρ, st, E, R, ?_⟩
    dsimp only
    cases e1 : ev C ρ k st with
    | top => trivial
    | bad => rw [e1] at h1; exact h1.elim
    | err _ _ => rw [e1] at h1; exact h1.elim
    | ok a st1 =>
      rw [e1] at h1
      intro y as1 ow1 H1 p1 r1 f1
      refine ⟨as1, ow1, ρ, st1, E.pst R p1, p1.rel, ?_⟩
      dsimp only
      have h2 : PostE X.K cA as ow H ((ev C ρ x st1).bind fun b st => match dcOf st d with
        | some (t, kvs) => (match keyOf t a with
          | some y => .ok ((dGet y kvs).getD (CM.frz b)) st
          | none => .bad)
        | none => .bad) Q := h1
      cases e2 : ev C ρ x st1 with
      | top => trivial
      | bad => rw [e2] at h2; exact h2.elim
      | err _ _ => rw [e2] at h2; exact h2.elim
      | ok b st2 =>
        rw [e2] at h2
        have h3 : PostE X.K cA as ow H (match dcOf st2 d with
          | some (t, kvs) => (match keyOf t a with
            | some y => .ok ((dGet y kvs).getD (CM.frz b)) st2
            | none => .bad)
          | none => .bad) Q := h2
        intro z as2 ow2 H2 p2 r2 f2
        obtain ⟨ow3, p3, rz⟩ := CM.freeze p2 r2 f2
        have PP := p1.trans p3
        have rd := r.pst R PP
        have ra := r1.pst p1.rel p3
        cases hdd : dcOf st2 d with
        | none => rw [hdd] at h3; exact h3.elim
        | some q =>
          obtain ⟨t, kvs⟩ := q
          rw [hdd] at h3
          dsimp only at h3
          cases hky : keyOf t a with
          | none => rw [hky] at h3; exact h3.elim
          | some yk =>
            rw [hky] at h3
            have o3 : Out X.K cA as ow H st2 ((dGet yk kvs).getD (CM.frz b)) Q := h3
            obtain ⟨p, o, ep, hg, hc⟩ := dc_get PP.rel rd hdd ra hky
            cases ep
            refine ⟨o, hg, ?_⟩
            rcases hc with ⟨rfl, e⟩ | ⟨w, cc, rfl, e, rw1⟩
            · rw [e] at o3
              exact o3 z as2 ow3 H2 PP (rxs_of rz) fun f => by rw [Option.getD_none, frz_free] at f; cases f
            · rw [e] at o3
              exact o3 w as2 ow3 H2 PP (rxs_of rw1) fun f => by rw [Option.getD_some, rep_free rw1] at f; cases f
  · rw [if_neg hs] at h1; exact h1.elim
end
end CM
end
section
set_option linter.all false
set_option maxRecDepth 100000
set_option maxHeartbeats 4000000
/-! sorted(xs, key=f), f any call that this layer knows. -/
namespace CM
open PySem PySem.Spec PyProof.Rows L2
namespace SK
open PySem.W
/-- a heap without one object -/
def cut (h : Heap) (a : Addr) : Heap := h.update a fun _ => ⟨.none, none, .freed, #[]⟩
theorem cut_at (h : Heap) (a : Addr) : (cut h a).get? a = none := by
  unfold cut Heap.get? Heap.update
  dsimp only
  rw [Array.getElem?_modify]
  simp only [if_true]
  cases h.objs[a]? <;> rfl
theorem cut_ne (h : Heap) {a b : Addr} (n : b ≠ a) : (cut h a).get? b = h.get? b := Heap.get?_update_other _ _ (Ne.symm n)
section
variable {prog : Program} {w : World} {A : Around} {E : Value → Shared → Prop} {s : Shared} {a kS : Addr} {vs : List Value} {e1 : Nat} {P : PySem.Fin → Shared → Prop} {f : Value}
theorem rest (J : Nat → List Value → Shared → Prop) (at_ : ∀ i ks s', J i ks s' → ks.length = i ∧ s'.heap.get? a = some (seqObj "list" #[] e1) ∧ ∃ e, s'.heap.get? kS = some (seqObj "list" ks.toArray e))
    (hka : kS ≠ a) (hZ : vs.length ≤ sizeLine) (h0 : J 0 [] s)
    (turn : ∀ i ks s' v, J i ks s' → vs[i]? = some v → wpAny (model prog w) A (call f [v]) (fun u s2 => (∃ e, s2.heap.get? kS = some (seqObj "list" ks.toArray e)) ∧
      ∀ g, Heap.SameBut kS s2.heap g → (∃ e, g.get? kS = some (seqObj "list" (ks ++ [u]).toArray e)) → J (i + 1) (ks ++ [u]) { s2 with heap := g }) (fun _ _ => False) s')
    (fin : ∀ ks s', J vs.length ks s' → ∃ κ, SortsAt prog w A s' κ ks ∧ ∀ g tk c, (∀ b o, b ≠ a → b ≠ kS → s'.heap.get? b = some o → g.get? b = some o) → g.get? a = some (seqObj "list" (sortVals κ false ks vs).toArray c) →
      P (.done (.ret .none)) { s' with heap := g, toks := tk }) :
    wpAny (model prog w) A (ksk_rest a f false vs.toArray e1 (.ref kS)) P E s := by
  unfold ksk_rest
  refine wpAny_bind (wpAny_rule ?_)
  rw [List.forIn_toArray]
  refine wpAny_bind (ksk_fold (fun i s' => ∃ ks, J i ks s') vs 0 s ⟨[], h0⟩ (fun j x s' hx hJ => ?_) fun s' hJ => ?_)
  · obtain ⟨ks, hJ⟩ := hJ
    simp only [Nat.zero_add] at hJ ⊢
    obtain ⟨l1, _, _⟩ := at_ _ _ _ hJ
    have hj : j < vs.length := (List.getElem?_eq_some_iff.mp hx).1
    refine wpAny_bind (wpAny_attempt (wpAny_mono (turn j ks s' x hJ hx) (fun u s2 q => ?_) fun _ _ hF => hF.elim))
    obtain ⟨⟨e, nk⟩, q⟩ := q
    dsimp only
    have n1 : ks.toArray.size ≤ sizeLine := by simp only [List.size_toArray]; omega
    refine wpAny_bind (listUpdate_at nk rfl ?_ n1 (by simp only [Array.size_push, List.size_toArray]; omega))
    have e2 : ∃ c, (s2.heap.update kS (Obj.mapSeq (·.push u))).get? kS = some (seqObj "list" (ks.toArray.push u) c) := ⟨_, get?_update_seq nk (·.push u)⟩
    have e3 : ks.toArray.push u = (ks ++ [u]).toArray := by simp
    rw [e3] at e2
    exact wpAny_pure ⟨rfl, ks ++ [u], q _ (Heap.SameBut.update s2.heap kS (Obj.mapSeq (·.push u))) e2⟩
  · obtain ⟨ks, hJ⟩ := hJ
    simp only [Nat.zero_add] at hJ
    obtain ⟨l1, na, e, nk⟩ := at_ _ _ _ hJ
    obtain ⟨κ, S, q⟩ := fin ks s' hJ
    refine wpAny_bind (listItems_at nk rfl ?_)
    refine keyH_end (κ := κ) (h₁ := cut s'.heap kS) (fun b o hb ho => ?_) (cut_at _ _) nk na hka (by simpa using S) (by simp [l1]) hZ fun g tk c kp hg => q g tk c (fun b o n1 n2 ho => kp b o n1 (by rw [cut_ne _ n2]; exact ho)) (by simpa using hg)
    by_cases hk : b = kS
    · rw [hk, cut_at] at ho; cases ho
    · rw [cut_ne _ hk] at ho; exact ho
end
section
variable {prog : Program} {w : World} {A : Around} {E : Value → Shared → Prop} {s : Shared} {vs : List Value} {f : Value}
/-- the heap in which the first key is asked for -/
def h0 (h : Heap) (vs : List Value) : Heap := sortingHeap (copyHeap h vs) (h.objs.size + 1) vs
def aS (h : Heap) : Addr := h.objs.size + 1
def kA (h : Heap) : Addr := h.objs.size + 3
theorem size_copy (h : Heap) (vs : List Value) : (copyHeap h vs).objs.size = h.objs.size + 2 := by
  unfold copyHeap
  rw [size_push', Heap.size_update, size_push']
theorem run {l : Addr} {kw : List (Str × Value)} {Q : Value → Shared → Prop} (hl : s.heap.IsList l vs.toArray) (hL : vs.length ≤ sizeLine) (ha1 : argsOk "sorted" ⟨[.ref l], kw⟩) (ha2 : ∀ x, argsOk "list.sort" ⟨[.ref x], kw⟩) (ht : ∀ x, Builtin.«list.sort» ⟨[.ref x], kw⟩ = ksk_tree x f false)
    (J : Nat → List Value → Shared → Prop) (at_ : ∀ i ks s', J i ks s' → ks.length = i ∧ (∃ e1, (h0 s.heap vs).get? (aS s.heap) = some (seqObj "list" #[] e1) ∧ s'.heap.get? (aS s.heap) = some (seqObj "list" #[] e1)) ∧ ∃ e, s'.heap.get? (kA s.heap) = some (seqObj "list" ks.toArray e))
    (hJ0 : J 0 [] { s with heap := h0 s.heap vs })
    (turn : ∀ i ks s' v, J i ks s' → vs[i]? = some v → wpAny (model prog w) A.in1.in1 (call f [v]) (fun u s2 => (∃ e, s2.heap.get? (kA s.heap) = some (seqObj "list" ks.toArray e)) ∧
      ∀ g, Heap.SameBut (kA s.heap) s2.heap g → (∃ e, g.get? (kA s.heap) = some (seqObj "list" (ks ++ [u]).toArray e)) → J (i + 1) (ks ++ [u]) { s2 with heap := g }) (fun _ _ => False) s')
    (fin : ∀ ks s', J vs.length ks s' → ∃ κ, SortsAt prog w A.in1.in1 s' κ ks ∧ ∀ g tk c, (∀ b o, b ≠ aS s.heap → b ≠ kA s.heap → s'.heap.get? b = some o → g.get? b = some o) → g.get? (aS s.heap) = some (seqObj "list" (sortVals κ false ks vs).toArray c) →
      Q (.ref (aS s.heap)) { s' with heap := g, toks := tk }) :
    wpAny (model prog w) A (call (.builtin "sorted") [.ref l] kw) Q E s := by
  refine sorted_of_sort hl hL ha1 ha2 fun E' => ?_
  rw [ht]
  have ho := copyHeap_at s.heap vs
  obtain ⟨e1, ho1⟩ : ∃ e1, ((copyHeap s.heap vs).update (s.heap.objs.size + 1) (Obj.mapSeq fun _ => (#[] : Array Value))).get? (s.heap.objs.size + 1) = some (seqObj "list" #[] e1) := ⟨_, get?_update_seq ho fun _ => #[]⟩
  have kS : (((copyHeap s.heap vs).update (s.heap.objs.size + 1) (Obj.mapSeq fun _ => (#[] : Array Value))).push (seqObj "tuple" vs.toArray 0)).objs.size = kA s.heap := by
    rw [size_push', Heap.size_update, size_copy]; rfl
  have hh : (h0 s.heap vs).get? (aS s.heap) = some (seqObj "list" #[] e1) := Heap.get?_push_of_some _ (Heap.get?_push_of_some _ ho1)
  unfold ksk_tree
  refine wpAny_bind (listItems_at ho rfl ?_)
  refine wpAny_bind (listUpdate_at ho rfl ?_ (by rw [List.size_toArray]; exact hL) (Nat.zero_le _))
  refine wpAny_bind (seqEpoch_at ho1 rfl (wpAny_bind (wpAny_newTuple ?_ (by show vs.length ≤ _; exact hL))))
  refine wpAny_bind (wpAny_newList (wpAny_holding ?_) (Nat.zero_le _))
  show wpAny _ _ (ksk_rest (s.heap.objs.size + 1) f false vs.toArray e1 (.ref (((copyHeap s.heap vs).update (s.heap.objs.size + 1) (Obj.mapSeq fun _ => (#[] : Array Value))).push (seqObj "tuple" vs.toArray 0)).objs.size)) _ _ { s with heap := h0 s.heap vs }
  rw [kS]
  refine rest (a := aS s.heap) (kS := kA s.heap) J (fun i ks s' h => ?_) (fun z => absurd (Nat.add_left_cancel z) (by decide)) hL hJ0 turn fun ks s' h => ?_
  · obtain ⟨x1, ⟨e2, x2, x3⟩, x4⟩ := at_ i ks s' h
    rw [hh] at x2
    have : e1 = e2 := by
      have := Option.some.inj x2
      unfold seqObj at this
      simpa using this
    subst this
    exact ⟨x1, x3, x4⟩
  · obtain ⟨κ, S, q⟩ := fin ks s' h
    exact ⟨κ, S, fun g tk c kp hg => ⟨rfl, q g tk c kp hg⟩⟩
end
end SK
end CM
end
section
set_option linter.all false
set_option maxRecDepth 100000
set_option maxHeartbeats 4000000
/-! The order of keys. -/
namespace CM
open PySem PySem.Spec PyProof.Rows L2
namespace SK
open PySem.W
theorem pyDs_map (xs : List D) : pyDs xs = xs.map pyD := by
  induction xs with
  | nil => rfl
  | cons x r ih => simp [pyDs, ih]
theorem lt_int (i j : Int) : dataLt (.int i) (.int j) = decide (i < j) := by
  have h := congrFun (congrFun (dataLe_int (β := Int) id) j) i
  rw [dataLe_eq] at h
  simp only [cond_false, id] at h
  have : dataLt (.int i) (.int j) = !decide (j ≤ i) := by rw [← h]; simp
  rw [this]
  by_cases q : i < j
  · simp [q]
  · simp [q]; omega
theorem lt_str (x y : List Char) : dataLt (.str (toStr x)) (.str (toStr y)) = ltStr x y := by
  have h := congrFun (congrFun (dataLe_str (β := Str) id) (toStr y)) (toStr x)
  rw [dataLe_eq] at h
  simp only [cond_false, id] at h
  have e : dataLt (.str (toStr x)) (.str (toStr y)) = !decide ((toStr y).cps.toList ≤ (toStr x).cps.toList) := by rw [← h]; simp
  rw [e, ltStr_eq, toStr_tl, toStr_tl]
  by_cases q : x.map Char.toNat < y.map Char.toNat
  · simp [q]
  · simp [q]
    exact List.not_lt.mp q
theorem atom_kind {x y : D} (hx : isAtom x = true) (hy : isAtom y = true) (h : isStrD x = isStrD y) : (∃ i j, x = .int i ∧ y = .int j) ∨ ∃ a b, x = .str a ∧ y = .str b := by
  cases x with
  | int i => cases y with
    | int j => exact .inl ⟨_, _, rfl, rfl⟩
    | str _ => cases (show false = true from h)
    | _ => cases hy
  | str i => cases y with
    | str j => exact .inr ⟨_, _, rfl, rfl⟩
    | int _ => cases (show true = false from h)
    | _ => cases hy
  | _ => cases hx
theorem lt_atom {x y : D} (hx : isAtom x = true) (hy : isAtom y = true) (h : isStrD x = isStrD y) : ltA x y = some (dataLt (pyD x) (pyD y)) ∧ PyData.eqv (pyD x) (pyD y) = peq x y ∧ alike (pyD x) (pyD y) = true := by
  rcases atom_kind hx hy h with ⟨i, j, rfl, rfl⟩ | ⟨a, b, rfl, rfl⟩
  · exact ⟨by simp [ltA, pyD, lt_int], eqv_peq _ _ 0 0 rfl rfl, rfl⟩
  · exact ⟨by simp [ltA, pyD, lt_str], eqv_peq _ _ 0 0 rfl rfl, rfl⟩
theorem lt_rows : ∀ {xs ys : List D}, xs.all isAtom = true → ys.all isAtom = true → xs.map isStrD = ys.map isStrD → ltTup xs ys = some (PyProof.Rows.lexLt itemOrd (keyToksAll (xs.map pyD)) (keyToksAll (ys.map pyD))) ∧ alikeAll (xs.map pyD) (ys.map pyD) = true
  | [], [], _, _, _ => ⟨by simp [ltTup, keyToksAll]; decide, rfl⟩
  | [], _ :: _, _, _, h => by cases h
  | _ :: _, [], _, _, h => by cases h
  | x :: xs, y :: ys, hx, hy, h => by
    simp only [List.all_cons, Bool.and_eq_true] at hx hy
    simp only [List.map_cons, List.cons.injEq] at h
    obtain ⟨l1, l2, l3⟩ := lt_atom hx.1 hy.1 h.1
    obtain ⟨r1, r2⟩ := lt_rows hx.2 hy.2 h.2
    refine ⟨?_, by simp [alikeAll, l3, r2]⟩
    simp only [List.map_cons]
    rw [dataLt_cons l3, l2]
    simp only [ltTup, l1]
    by_cases q : peq x y = true
    · simp [q, r1]
    · simp [q]
theorem shp_tup {xs : List D} {z : Bool × List Bool} (h : shp (.tup xs) = some z) : xs.all isAtom = true ∧ z = (true, xs.map isStrD) ∧ ∃ x r, xs = x :: r := by
  cases xs with
  | nil => cases h
  | cons x r =>
    have h : (if (x :: r).all isAtom then some (true, (x :: r).map isStrD) else none) = some z := h
    split at h
    · rename_i q; cases h; exact ⟨q, rfl, x, r, rfl⟩
    · cases h
theorem lt_shp {a b : D} {z : Bool × List Bool} (ha : shp a = some z) (hb : shp b = some z) : ltD a b = some (dataLt (pyD a) (pyD b)) ∧ alike (pyD a) (pyD b) = true := by
  cases a with
  | int i =>
    cases ha
    cases b with
    | int j => exact ⟨by simp [ltD, ltA, pyD, lt_int], rfl⟩
    | str _ => cases hb
    | tup ys => obtain ⟨_, e, _⟩ := shp_tup hb; cases e
    | _ => cases hb
  | str x =>
    cases ha
    cases b with
    | str y => exact ⟨by simp [ltD, ltA, pyD, lt_str], rfl⟩
    | int _ => cases hb
    | tup ys => obtain ⟨_, e, _⟩ := shp_tup hb; cases e
    | _ => cases hb
  | tup xs =>
    obtain ⟨h1, rfl, _⟩ := shp_tup ha
    cases b with
    | tup ys =>
      obtain ⟨h2, e, _⟩ := shp_tup hb
      simp only [Prod.mk.injEq, true_and] at e
      obtain ⟨r1, r2⟩ := lt_rows h1 h2 e
      refine ⟨?_, by simp only [pyD, alike, pyDs_map]; exact r2⟩
      simp only [ltD, h1, h2, Bool.and_self, if_true, r1]
      congr 1
      unfold dataLt
      simp only [pyD, keyToks, pyDs_map]
    | int _ => cases hb
    | str _ => cases hb
    | _ => cases hb
  | _ => cases ha
theorem sameK_all {ks : List D} (h : sameK ks = true) : ks = [] ∨ ∃ z, ∀ k ∈ ks, shp k = some z := by
  cases ks with
  | nil => exact .inl rfl
  | cons k r =>
    simp only [sameK, Bool.and_eq_true, List.all_eq_true, beq_iff_eq] at h
    obtain ⟨h1, h2⟩ := h
    obtain ⟨z, hz⟩ := Option.isSome_iff_exists.mp h1
    exact .inr ⟨z, fun x hx => (List.mem_cons.mp hx).elim (fun e => by rw [e]; exact hz) fun hx => (h2 x hx).trans hz⟩
theorem insP_mem {p x : D × D} : ∀ {l : List (D × D)}, x ∈ insP p l ↔ x = p ∨ x ∈ l
  | [] => by simp [insP]
  | q :: r => by
    unfold insP
    split
    · rw [List.mem_cons, insP_mem, List.mem_cons]; constructor <;> (rintro (h | h | h) <;> simp [h])
    · simp
/-- the sort is the library's -/
theorem sortP_eq {z : Bool × List Bool} : ∀ {ps : List (D × D)}, (∀ p ∈ ps, shp p.1 = some z) → sortP ps = ps.mergeSort (dataLe false fun p : D × D => pyD p.1)
  | [], _ => by simp [sortP]
  | p :: r, h => by
    have ih := sortP_eq (ps := r) fun q hq => h q (by simp [hq])
    have T := sortLe_total (listOrd itemOrd) false (fun p : D × D => keyToks (pyD p.1))
    obtain ⟨l1, l2, e1, e2, e3⟩ := List.mergeSort_cons (le := dataLe false fun p : D × D => pyD p.1) T.trans (fun a b => by rw [Bool.or_eq_true]; exact T.total a b) p r
    show insP p (sortP r) = _
    rw [ih, e1, e2]
    have hm : ∀ q, q ∈ l1 ++ l2 → shp q.1 = some z := fun q hq => h q (by
      have : q ∈ r.mergeSort (dataLe false fun p : D × D => pyD p.1) := by rw [e2]; exact hq
      exact List.mem_cons_of_mem _ (List.mem_mergeSort.mp this))
    have hp := h p (by simp)
    have lt : ∀ q, q ∈ l1 ++ l2 → ltB q.1 p.1 = !(dataLe false (fun p : D × D => pyD p.1) p q) := fun q hq => by
      rw [dataLe_eq]
      simp only [cond_false, Bool.not_not]
      unfold ltB
      rw [(lt_shp (hm q hq) hp).1]
      cases dataLt (pyD q.1) (pyD p.1) <;> rfl
    have hs := List.pairwise_mergeSort (le := dataLe false fun p : D × D => pyD p.1) T.trans (fun a b => by rw [Bool.or_eq_true]; exact T.total a b) (p :: r)
    rw [e1] at hs
    have h2 : ∀ q ∈ l2, dataLe false (fun p : D × D => pyD p.1) p q = true := fun q hq => by
      have := (List.pairwise_append.mp hs).2.1
      exact (List.pairwise_cons.mp this).1 q hq
    have go : ∀ (l : List (D × D)), (∀ q ∈ l, q ∈ l1 ++ l2) → (∀ q ∈ l, ¬ dataLe false (fun p : D × D => pyD p.1) p q = true) → insP p (l ++ l2) = l ++ p :: l2 := by
      intro l
      induction l with
      | nil =>
        intro _ _
        cases l2 with
        | nil => rfl
        | cons q t =>
          show insP p (q :: t) = _
          unfold insP
          rw [if_neg (by rw [lt q (by simp), h2 q (by simp)]; decide)]
          rfl
      | cons q t iht =>
        intro a b
        show insP p (q :: (t ++ l2)) = _
        unfold insP
        have hb : dataLe false (fun p : D × D => pyD p.1) p q = false := by simpa using b q (by simp)
        rw [if_pos (by rw [lt q (a q (by simp)), hb]; rfl), iht (fun x hx => a x (by simp [hx])) fun x hx => b x (by simp [hx])]
        rfl
    exact go l1 (fun q hq => by simp [hq]) fun q hq => by simpa using e3 q hq
end SK
end CM
end
section
set_option linter.all false
set_option maxRecDepth 100000
set_option maxHeartbeats 4000000
/-! sorted(xs, key=f): the rule. -/
namespace CM
open PySem PySem.Spec PyProof.Rows L2
namespace SK
open PySem.W
theorem h0_at (h : Heap) (vs : List Value) : ∃ e1, (h0 h vs).get? (aS h) = some (seqObj "list" #[] e1) := by
  have ho := copyHeap_at h vs
  exact ⟨_, Heap.get?_push_of_some _ (Heap.get?_push_of_some _ (get?_update_seq ho fun _ => #[]))⟩
theorem h0_k (h : Heap) (vs : List Value) : (h0 h vs).get? (kA h) = some (seqObj "list" #[] 0) := by
  have : (((copyHeap h vs).update (h.objs.size + 1) (Obj.mapSeq fun _ => (#[] : Array Value))).push (seqObj "tuple" vs.toArray 0)).objs.size = kA h := by
    rw [size_push', Heap.size_update, size_copy]; rfl
  rw [← this]
  exact Heap.get?_push_size _ rfl
theorem h0_old {h : Heap} {vs : List Value} {b : Addr} {o : Obj} (e : h.get? b = some o) : (h0 h vs).get? b = some o :=
  sortingHeap_old (Nat.ne_of_lt (Nat.lt_succ_of_lt (Heap.lt_size e))) (copyHeap_old e)
theorem aS_lt (h : Heap) : h.objs.size ≤ aS h := Nat.le_succ _
theorem kA_lt (h : Heap) : h.objs.size ≤ kA h := Nat.le_add_right _ 3
theorem ka_ne (h : Heap) : kA h ≠ aS h := fun z => absurd (Nat.add_left_cancel z) (by decide)
/-- where the key is asked -/
def X2 (X : Cx) : Cx := { X with A := X.A.in1.in1, xe := fun _ _ => False }
section
variable {X : Cx} {pins : List (Addr × Obj)} {σ : L2.St} {H : Hp} {s : Shared}
theorem ok2 (o : X.Ok) : (X2 X).Ok := ⟨o.mod, o.kind, o.glob, o.blt, o.above, o.inj, o.has, o.cab, o.hd, o.frames, o.stk, o.exf, o.bs, o.bsz, o.noex, o.exfs, o.funs, o.frf⟩
theorem inv2 (I : Inv X pins σ H s) : Inv (X2 X) pins σ H s := ⟨ok2 I.ok, I.os, I.bare, I.base, I.loc, I.cell, I.free, I.freeC, I.pin, I.hok, I.len⟩
theorem inv2b (o : X.Ok) (I : Inv (X2 X) pins σ H s) : Inv X pins σ H s := ⟨o, I.os, I.bare, I.base, I.loc, I.cell, I.free, I.freeC, I.pin, I.hok, I.len⟩
theorem reads_atom {h : Heap} {u : Value} {v : V} {d : D} {K : PySem.W.Frag} {as : List Addr} {ow : Addr → Prop} (hd : isAtom d = true) (r : RepV K as ow H v d) (ru : RelV v u) : Reads h u (pyD d) [] := by
  cases d with
  | int i => cases r; obtain ⟨t, rfl⟩ := ru; exact .int i t
  | str x => cases r; obtain ⟨t, rfl⟩ := ru; exact .str _ t
  | _ => cases hd
theorem reads_atoms {h : Heap} {K : PySem.W.Frag} {as : List Addr} {ow : Addr → Prop} : ∀ {ds : List D} {vs : List V} {us : List Value}, ds.all isAtom = true → RepVs K as ow H vs ds → Vals vs us → ReadsAll h us (ds.map pyD) []
  | _, _, _, _, .nil, .nil => .nil
  | _, _, _, hd, .cons a r, .cons b q => by
    simp only [List.all_cons, Bool.and_eq_true] at hd
    exact .cons (as := []) (bs := []) (reads_atom hd.1 a b) (reads_atoms hd.2 r q)
theorem reads_key {P : Program} {w : World} {h : Heap} {u : Value} {v : V} {d : D} {z : Bool × List Bool} {K : PySem.W.Frag} {as : List Addr} {ow : Addr → Prop} (hok : HOk P w H h) (hd : shp d = some z) (r : RepX K as ow H v d) (ru : RelV v u) : ∃ as, Reads h u (pyD d) as := by
  cases d with
  | int i => exact ⟨[], reads_atom rfl r ru⟩
  | str x => exact ⟨[], reads_atom rfl r ru⟩
  | tup xs =>
    obtain ⟨h1, _, _⟩ := shp_tup hd
    obtain ⟨p, vs, rfl, hp, rv⟩ := tup_rd r
    cases ru
    obtain ⟨_, its, r2, o, ho, hc, n, hdt⟩ := (show ObjOk P w H h p (.tup vs) from hok p _ hp)
    refine ⟨[], .tuple ho hc hdt ?_⟩
    rw [pyDs_map]
    have := reads_atoms (h := h) h1 rv r2
    simpa using this
  | _ => cases hd
theorem shp_free {d : D} {z : Bool × List Bool} (h : shp d = some z) : free d = true := by
  cases d <;> first | rfl | cases h
theorem shp_depth {d : D} {z : Bool × List Bool} (h : shp d = some z) : (pyD d).depth ≤ 1 := by
  have atom : ∀ {x : D}, isAtom x = true → (pyD x).depth = 0 := fun {x} hx => by cases x <;> first | rfl | cases hx
  cases d with
  | int _ => simp [pyD, PyData.depth]
  | str _ => simp [pyD, PyData.depth]
  | tup xs =>
    obtain ⟨h1, _, _⟩ := shp_tup h
    have : PyData.depthAll (pyDs xs) = 0 := by
      clear h
      induction xs with
      | nil => rfl
      | cons x r ih =>
        simp only [List.all_cons, Bool.and_eq_true] at h1
        have e2 : PyData.depthAll (pyDs r) = 0 := by
          have : ∀ l : List D, l.all isAtom = true → PyData.depthAll (pyDs l) = 0 := by
            intro l
            induction l with
            | nil => intro _; rfl
            | cons y t ih2 =>
              intro hy
              simp only [List.all_cons, Bool.and_eq_true] at hy
              simp only [pyDs, PyData.depthAll, atom hy.1, ih2 hy.2]
              omega
          exact this r h1.2
        simp only [pyDs, PyData.depthAll, atom h1.1, e2]
        omega
    simp only [pyD, PyData.depth, this]; omega
  | _ => cases h
theorem sortable {z : Bool × List Bool} {ks : List D} (h : ∀ k ∈ ks, shp k = some z) : Sortable (ks.map pyD) := by
  obtain ⟨b, l⟩ := z
  cases b with
  | true =>
    refine .inl fun d hd => ?_
    obtain ⟨k, hk, rfl⟩ := List.mem_map.mp hd
    have := h k hk
    cases k with
    | tup xs => obtain ⟨_, _, x, r, rfl⟩ := shp_tup this; exact ⟨pyD x, pyDs r, rfl⟩
    | _ => cases this
  | false =>
    refine .inr fun d hd => ?_
    obtain ⟨k, hk, rfl⟩ := List.mem_map.mp hd
    have := h k hk
    cases k with
    | int _ => exact ⟨(fun z => PyData.noConfusion z), (fun xs z => PyData.noConfusion z)⟩
    | str _ => exact ⟨(fun z => PyData.noConfusion z), (fun xs z => PyData.noConfusion z)⟩
    | tup xs => obtain ⟨_, e, _⟩ := shp_tup this; cases e
    | _ => cases this
theorem allAlike {z : Bool × List Bool} {ks : List D} (h : ∀ k ∈ ks, shp k = some z) : AllAlike (ks.map pyD) := by
  intro d hd d' hd'
  obtain ⟨k, hk, rfl⟩ := List.mem_map.mp hd
  obtain ⟨k', hk', rfl⟩ := List.mem_map.mp hd'
  exact (lt_shp (h k hk) (h k' hk')).2
theorem each_paired {α β : Type} {R : α → β → Prop} : ∀ {as : List α} {bs : List β}, EachIs R as bs → Paired R as bs
  | _, _, .nil => .nil
  | _, _, .cons a r => .cons a (each_paired r)
end
end SK
/-- the keys, one by one -/
theorem sort_key {cA : ClA} {X : Cx} {F : Fn} {fa : Addr} {pins : List (Addr × Obj)} {σ : L2.St} {H : Hp} {s : Shared} {Q : VK} {as : List Addr} {ow : Addr → Prop} {st : Sto} {v : V} {u : Value} {d : D} {xs : List D}
    (hu : X.A.units + 65 < cLine) (hS : SKey cA X.prog X.w X.K X.mg X.base X.A.in1.in1 (.ref fa) F) (ha1 : ∀ l, argsOk "sorted" ⟨[.ref l], [(Str.ofString "key", .ref fa)]⟩) (ha2 : ∀ l, argsOk "list.sort" ⟨[.ref l], [(Str.ofString "key", .ref fa)]⟩)
    (I : Inv X pins σ H s) (ru : RelV v u) (R : Rel X.K cA as ow H st) (rx : RepX X.K as ow H v d) (hl : lsOf st d = some xs)
    (h : PostE X.K cA as ow H ((keysGo (fun d st => F [d] st) xs st).bind fun ps st => ofO st ((sortK ps).map fun qs => .ol (qs.map (·.2)))) Q) :
    wpAny (model X.prog X.w) X.A (call (.builtin "sorted") [u] [(Str.ofString "key", .ref fa)]) (EP X pins σ Q) X.xe s := by
  obtain ⟨p, vsV, rfl, hp, rv⟩ := ls_rd R rx hl
  obtain ⟨its, rvv, pl, hz⟩ := I.list hp
  cases ru
  have hlen1 := rvv.length
  have hlen2 := rv.length
  obtain ⟨e1, he1⟩ := SK.h0_at s.heap its
  have hk0 := SK.h0_k s.heap its
  have I0 : Inv (SK.X2 X) pins σ H { s with heap := SK.h0 s.heap its } := SK.inv2 (I.kept (t' := s.toks) fun b o e => SK.h0_old e)
  have Ha : H (SK.aS s.heap) = none := I.hok.fresh (SK.aS_lt _)
  have Hk : H (SK.kA s.heap) = none := I.hok.fresh (SK.kA_lt _)
  have la : SK.aS s.heap ≠ X.env.locals := Nat.ne_of_gt (Nat.lt_of_lt_of_le I.lt (SK.aS_lt _))
  have lk : SK.kA s.heap ≠ X.env.locals := Nat.ne_of_gt (Nat.lt_of_lt_of_le I.lt (SK.kA_lt _))
  have fa' : SK.aS s.heap ∉ X.fs := I.nofs (SK.aS_lt _)
  have fk : SK.kA s.heap ∉ X.fs := I.nofs (SK.kA_lt _)
  have fpA : FpOk X pins (fun _ => none) (SK.aS s.heap) := I.fpOk (SK.aS_lt _) rfl
  have fpK : FpOk X pins (fun _ => none) (SK.kA s.heap) := I.fpOk (SK.kA_lt _) rfl
  let P2 : List Value → Nat → List (Addr × Obj) := fun ks e => pins ++ [(SK.aS s.heap, seqObj "list" #[] e1), (SK.kA s.heap, seqObj "list" ks.toArray e)]
  let J : Nat → List Value → Shared → Prop := fun i ks s' => ks.length = i ∧ ∃ e H' as' ow' st' zs kvs, Inv (SK.X2 X) (P2 ks e) σ H' s' ∧ Pst X.K cA as ow H as' ow' H' st' ∧ Vals kvs ks ∧ RepXs X.K as' ow' H' kvs zs ∧ zs.length = i ∧
    PostE X.K cA as ow H ((keysGo (fun d st => F [d] st) (xs.drop i) st').bind fun ps st => ofO st ((sortK (zs.zip (xs.take i) ++ ps)).map fun qs => .ol (qs.map (·.2)))) Q
  have pinA : ∀ {ks e H' s'}, Inv (SK.X2 X) (P2 ks e) σ H' s' → s'.heap.get? (SK.aS s.heap) = some (seqObj "list" #[] e1) ∧ H' (SK.aS s.heap) = none := fun {ks e H' s'} I' => by
    have := I'.pin (SK.aS s.heap, seqObj "list" #[] e1) (List.mem_append_right _ (List.mem_append_right _ (by simp)))
    exact ⟨this.1, this.2.1⟩
  have pinK : ∀ {ks e H' s'}, Inv (SK.X2 X) (P2 ks e) σ H' s' → s'.heap.get? (SK.kA s.heap) = some (seqObj "list" ks.toArray e) ∧ H' (SK.kA s.heap) = none := fun {ks e H' s'} I' => by
    have := I'.pin (SK.kA s.heap, seqObj "list" ks.toArray e) (List.mem_append_right _ (List.mem_append_right _ (by simp)))
    exact ⟨this.1, this.2.1⟩
  have unpin : ∀ {ks e H' s'}, Inv (SK.X2 X) (P2 ks e) σ H' s' → Inv (SK.X2 X) pins σ H' s' := fun {ks e H' s'} I' =>
    I'.pins_of fun p hp => I'.pin p (List.mem_append_right _ (List.mem_append_left _ hp))
  have fpX : ∀ {H' : Hp} {b : Addr}, FpOk X pins (fun _ => none) b → H' b = none → FpOk (SK.X2 X) pins H' b := fun {H' b} q n => ⟨n, q.2⟩
  have repin : ∀ {ks e H' s'}, Inv (SK.X2 X) pins σ H' s' → s'.heap.get? (SK.aS s.heap) = some (seqObj "list" #[] e1) → H' (SK.aS s.heap) = none → s'.heap.get? (SK.kA s.heap) = some (seqObj "list" ks e) → H' (SK.kA s.heap) = none → Inv (SK.X2 X) (pins ++ [(SK.aS s.heap, seqObj "list" #[] e1), (SK.kA s.heap, seqObj "list" ks e)]) σ H' s' := fun {ks e H' s'} I' a1 a2 k1 k2 =>
    I'.pins_of fun p hp => by
      rcases List.mem_append.mp hp with hp | hp
      · exact I'.pin p (List.mem_append_right _ hp)
      · rcases List.mem_cons.mp hp with hp | hp
        · subst hp; exact ⟨a1, a2, la, fa', fun v z => by cases z⟩
        · rcases List.mem_singleton.mp hp with rfl
          exact ⟨k1, k2, lk, fk, fun v z => by cases z⟩
  refine SK.run (f := .ref fa) (vs := its) pl.isList (by omega) (ha1 p) ha2 (fun x => ksk_t1 fa x) J (fun i ks s' hJ => ?_) ?_ (fun i ks s' v hJ hv => ?_) fun ks s' hJ => ?_
  · obtain ⟨l1, e, H', as', ow', st', zs, kvs, I', _⟩ := hJ
    exact ⟨l1, ⟨e1, he1, (pinA I').1⟩, e, (pinK I').1⟩
  · exact ⟨rfl, 0, H, as, ow, st, [], [], repin I0 he1 Ha hk0 Hk, Pst.refl R, .nil, .nil, rfl, by simpa using h⟩
  · obtain ⟨l1, e, H', as', ow', st', zs, kvs, I', P', vk, rk, lz, hp'⟩ := hJ
    have hi : i < xs.length := by have := (List.getElem?_eq_some_iff.mp hv).1; omega
    obtain ⟨vV, hvV, rvV⟩ : ∃ vV, vsV[i]? = some vV ∧ RelV vV v := by
      have key : ∀ {ws : List V} {us : List Value} {i : Nat} {v : Value}, Vals ws us → us[i]? = some v → ∃ w, ws[i]? = some w ∧ RelV w v := by
        intro ws us i v q
        induction q generalizing i with
        | nil => intro z; simp at z
        | cons a r ih =>
          intro z
          cases i with
          | zero => simp at z; subst z; exact ⟨_, rfl, a⟩
          | succ i => exact ih (by simpa using z)
      exact key rvv hv
    obtain ⟨dd, hd, rd⟩ := rv.getV hvV
    have hd' : xs.drop i = dd :: xs.drop (i + 1) := by
      obtain ⟨q1, q2⟩ := List.getElem?_eq_some_iff.mp hd
      rw [List.drop_eq_getElem_cons q1, q2]
    rw [hd'] at hp'
    have ht : xs.take (i + 1) = xs.take i ++ [dd] := by rw [List.take_add_one, hd]; rfl
    have hp' : PostE X.K cA as ow H (((F [dd] st').bind fun k st1 => (keysGo (fun d st => F [d] st) (xs.drop (i + 1)) st1).bind fun ds st2 => .ok ((k, dd) :: ds) st2).bind fun ps st => ofO st ((sortK (zs.zip (xs.take i) ++ ps)).map fun qs => .ol (qs.map (·.2)))) Q := hp'
    have rd' : RepV X.K as' ow' H' vV dd := rd.car (P'.car R)
    -- what comes of the call
    have fin : ∀ (Q' : VK) (u2 : Value) (s2 : Shared), (∀ v2 H2, Q' v2 H2 → ∃ as2 ow2 z st1, Pst X.K cA as' ow' H' as2 ow2 H2 st1 ∧ RepX X.K as2 ow2 H2 v2 z ∧
        PostE X.K cA as ow H ((keysGo (fun d st => F [d] st) (xs.drop (i + 1)) st1).bind fun ps st => ofO st ((sortK ((zs ++ [z]).zip (xs.take (i + 1)) ++ ps)).map fun qs => .ol (qs.map (·.2)))) Q) →
        EP (SK.X2 X) (P2 ks e) σ Q' u2 s2 → (∃ e, s2.heap.get? (SK.kA s.heap) = some (seqObj "list" ks.toArray e)) ∧
          ∀ g, Heap.SameBut (SK.kA s.heap) s2.heap g → (∃ e, g.get? (SK.kA s.heap) = some (seqObj "list" (ks ++ [u2]).toArray e)) → J (i + 1) (ks ++ [u2]) { s2 with heap := g } := by
      intro Q' u2 s2 hQ ⟨v2, H2, I2, r2, q2⟩
      obtain ⟨as2, ow2, z, st1, p2, rz, hp2⟩ := hQ v2 H2 q2
      refine ⟨⟨e, (pinK I2).1⟩, fun g hs ⟨e', he'⟩ => ⟨by simp [l1], e', H2, as2, ow2, st1, zs ++ [z], kvs ++ [v2], ?_, P'.trans p2, ?_, ?_, by simp [lz], hp2⟩⟩
      · have I3 := (unpin I2).turnedL (h' := g) (t' := s2.toks) (ch := [SK.kA s.heap]) (fun b o n ho => (hs.2 b (fun z => n (by simp [z]))).trans ho) (fun b hb => by
          rcases List.mem_singleton.mp hb with rfl
          exact fpX fpK (pinK I2).2)
        exact repin I3 ((hs.2 _ (Ne.symm (SK.ka_ne s.heap))).trans (pinA I2).1) (pinA I2).2 he' (pinK I2).2
      · exact vk.append (.cons r2 .nil)
      · have rk2 := rk.pst P'.rel p2
        have key : ∀ {ws : List V} {ds : List CM.D}, RepXs X.K as2 ow2 H2 ws ds → RepXs X.K as2 ow2 H2 (ws ++ [v2]) (ds ++ [z]) := by
          intro ws ds q
          induction q with
          | nil => exact .cons rz .nil
          | cons a _ ih => exact .cons a ih
        exact key rk2
    cases eF : F [dd] st' with
    | ok z st1 =>
      rw [eF] at hp'
      have zip_e : (zs ++ [z]).zip (xs.take (i + 1)) = zs.zip (xs.take i) ++ [(z, dd)] := by
        rw [ht, List.zip_append (by rw [lz, List.length_take]; omega)]
        rfl
      have hp2 : PostE X.K cA as ow H ((keysGo (fun d st => F [d] st) (xs.drop (i + 1)) st1).bind fun ps st => ofO st ((sortK ((zs ++ [z]).zip (xs.take (i + 1)) ++ ps)).map fun qs => .ol (qs.map (·.2)))) Q := by
        rw [zip_e]
        have hp' : PostE X.K cA as ow H (((keysGo (fun d st => F [d] st) (xs.drop (i + 1)) st1).bind fun ds st2 => .ok ((z, dd) :: ds) st2).bind fun ps st => ofO st ((sortK (zs.zip (xs.take i) ++ ps)).map fun qs => .ol (qs.map (·.2)))) Q := hp'
        cases eg : keysGo (fun d st => F [d] st) (xs.drop (i + 1)) st1 with
        | ok ps st2 =>
          rw [eg] at hp'
          show PostE X.K cA as ow H (ofO st2 ((sortK (zs.zip (xs.take i) ++ [(z, dd)] ++ ps)).map fun qs => .ol (qs.map (·.2)))) Q
          rw [List.append_assoc]
          exact hp'
        | top => trivial
        | bad => rw [eg] at hp'; exact hp'.elim
        | err _ _ => rw [eg] at hp'; exact hp'.elim
      have Q' : VK := fun v2 H2 => ∃ as2 ow2, Pst X.K cA as' ow' H' as2 ow2 H2 st1 ∧ RepX X.K as2 ow2 H2 v2 z
      refine wpAny_mono (hS (SK.X2 X) rfl rfl rfl rfl rfl rfl (P2 ks e) s' σ H' (fun v2 H2 => ∃ as2 ow2, Pst X.K cA as' ow' H' as2 ow2 H2 st1 ∧ RepX X.K as2 ow2 H2 v2 z) [v] [vV] I' (.cons rvV .nil) ⟨as', ow', st', [dd], P'.rel, .cons rd' .nil, ?_⟩) (fun u2 s2 q => fin _ u2 s2 (fun v2 H2 ⟨as2, ow2, p2, rz⟩ => ⟨as2, ow2, z, st1, p2, rz, hp2⟩) q) fun _ _ q => q
      rw [eF]
      exact fun v2 as2 ow2 H2 p2 rz _ => ⟨as2, ow2, p2, rz⟩
    | top =>
      refine wpAny_mono (hS (SK.X2 X) rfl rfl rfl rfl rfl rfl (P2 ks e) s' σ H' (fun _ _ => False) [v] [vV] I' (.cons rvV .nil) ⟨as', ow', st', [dd], P'.rel, .cons rd' .nil, ?_⟩) (fun u2 s2 ⟨_, _, _, _, q⟩ => q.elim) fun _ _ q => q
      rw [eF]; trivial
    | bad => rw [eF] at hp'; exact hp'.elim
    | err _ _ => rw [eF] at hp'; exact hp'.elim
  · obtain ⟨l1, e, H', as', ow', st', zs, kvs, I', P', vk, rk, lz, hp'⟩ := hJ
    have lx : its.length = xs.length := by omega
    rw [lx] at lz
    rw [lx, List.drop_length, List.take_length] at hp'
    have hp' : PostE X.K cA as ow H (ofO st' ((sortK (zs.zip xs ++ [])).map fun qs => .ol (qs.map (·.2)))) Q := hp'
    rw [List.append_nil] at hp'
    have fst : (zs.zip xs).map (·.1) = zs := by
      rw [List.map_fst_zip]; omega
    unfold sortK at hp'
    rw [fst] at hp'
    by_cases hk : sameK zs = true
    · rw [if_pos hk] at hp'
      have out : Out X.K cA as ow H st' (.ol ((sortP (zs.zip xs)).map (·.2))) Q := hp'
      have zall : ∃ z, ∀ k ∈ zs, shp k = some z := by
        rcases SK.sameK_all hk with rfl | ⟨z, hz⟩
        · exact ⟨(true, []), fun k hk => by cases hk⟩
        · exact ⟨z, hz⟩
      obtain ⟨z, hz'⟩ := zall
      have hreads : PySem.W.EachIs (fun v d => ∃ as, Reads s'.heap v d as) ks (zs.map pyD) := by
        have key : ∀ {ws : List V} {us : List Value} {ds : List CM.D}, Vals ws us → RepXs X.K as' ow' H' ws ds → (∀ k ∈ ds, shp k = some z) → PySem.W.EachIs (fun v d => ∃ as, Reads s'.heap v d as) us (ds.map pyD) := by
          intro ws us ds q
          induction q generalizing ds with
          | nil => intro r _; cases r; exact .nil
          | cons a _ ih =>
            intro r hh
            cases r with
            | cons b r => exact .cons (SK.reads_key I'.hok (hh _ (by simp)) b a) (ih r fun k hk => hh k (by simp [hk]))
        exact key vk rk hz'
      refine ⟨PySem.W.dataKind s'.heap (zs.map pyD), PySem.W.SortsAt.data (s := s') hreads (SK.allAlike hz') (SK.sortable hz') (fun d hd => ?_), fun g tk c kp hg => ?_⟩
      · obtain ⟨k, hkm, rfl⟩ := List.mem_map.mp hd
        have := SK.shp_depth (hz' k hkm)
        show X.A.units + 1 + 1 + _ < _
        omega
      · have hitems : PySem.W.EachIs (fun v p => ∃ vV, RelV vV v ∧ RepV X.K as' ow' H' vV p.2) its (zs.zip xs) := by
          have key : ∀ {ws : List V} {us : List Value} {ds zz : List CM.D}, Vals ws us → RepVs X.K as ow H ws ds → zz.length = ds.length → PySem.W.EachIs (fun v p => ∃ vV, RelV vV v ∧ RepV X.K as' ow' H' vV p.2) us (zz.zip ds) := by
            intro ws us ds zz q
            induction q generalizing ds zz with
            | nil =>
              intro r hl
              cases r
              cases zz with
              | nil => exact .nil
              | cons _ _ => cases hl
            | cons a _ ih =>
              intro r hl
              cases r with
              | cons b r =>
                cases zz with
                | nil => cases hl
                | cons y zz => exact .cons ⟨_, a, b.car (P'.car R)⟩ (ih r (by simpa using hl))
          exact key rvv rv lz
        have keyd : PySem.W.KeyedOut false ((zs.zip xs).map fun p : CM.D × CM.D => pyD p.1) its (PySem.W.sortVals (PySem.W.dataKind s'.heap (zs.map pyD)) false ks its) := by
          have e3 : (zs.zip xs).map (fun p : CM.D × CM.D => pyD p.1) = zs.map pyD := by
            rw [show (fun p : CM.D × CM.D => pyD p.1) = pyD ∘ (·.1) from rfl, ← List.map_map, fst]
          rw [e3]
          exact ⟨s'.heap, ks, SK.allAlike hz', rfl, hreads⟩
        have hout := PySem.W.keyedOut_each (fun p : CM.D × CM.D => pyD p.1) keyd hitems
        rw [← SK.sortP_eq (z := z) (fun p hp => hz' p.1 (by
          have := List.mem_map_of_mem (f := (·.1)) hp
          rw [fst] at this
          exact this))] at hout
        obtain ⟨outV, ho1, ho2⟩ : ∃ outV, Vals outV (PySem.W.sortVals (PySem.W.dataKind s'.heap (zs.map pyD)) false ks its) ∧ RepVs X.K as' ow' H' outV ((sortP (zs.zip xs)).map (·.2)) := by
          generalize PySem.W.sortVals (PySem.W.dataKind s'.heap (zs.map pyD)) false ks its = o at hout
          generalize sortP (zs.zip xs) = ps at hout
          induction hout with
          | nil => exact ⟨[], .nil, .nil⟩
          | cons a _ ih =>
            obtain ⟨w, q1, q2⟩ := a
            obtain ⟨ws, q3, q4⟩ := ih
            exact ⟨w :: ws, .cons q1 q3, .cons q2 q4⟩
        have I3 := SK.inv2b I.ok (unpin I')
        have Hna := (pinA I').2
        have Hnk := (pinK I').2
        have lout : outV.length ≤ sizeLine := by
          have q1 := ho2.length
          rw [List.length_map] at q1
          have q2 : (sortP (zs.zip xs)).length = (zs.zip xs).length := by
            rw [SK.sortP_eq (z := z) (fun p hp => hz' p.1 (by
              have := List.mem_map_of_mem (f := (·.1)) hp
              rw [fst] at this
              exact this)), List.length_mergeSort]
          rw [List.length_zip, lz, Nat.min_self] at q2
          omega
        have ch : ∀ b ∈ [SK.aS s.heap, SK.kA s.heap], FpOk X pins H' b := fun b hb => by
          rcases List.mem_cons.mp hb with rfl | hb
          · exact ⟨Hna, fpA.2⟩
          · rcases List.mem_singleton.mp hb with rfl
            exact ⟨Hnk, fpK.2⟩
        have kp' : ∀ b o, b ∉ [SK.aS s.heap, SK.kA s.heap] → s'.heap.get? b = some o → g.get? b = some o := fun b o n ho => kp b o (fun z => n (by simp [z])) (fun z => n (by simp [z])) ho
        have nit : ∀ b u, H' b = some u → b ∉ [SK.aS s.heap, SK.kA s.heap] := fun b u e z => by
          have q := (ch b z).1
          rw [q] at e; cases e
        have I4 : Inv X pins σ (upd H' (SK.aS s.heap) (.lst outV)) { s' with heap := g, toks := tk } := by
          refine I3.step (g' := s'.gens) (d' := s'.drawn) (t' := tk) (ch := [SK.aS s.heap, SK.kA s.heap]) (fun b hb => let q := ch b hb; ⟨q.2.2.2.1, q.2.1, q.2.2.2.2.1, q.2.2.2.2.2⟩) (fun b o _ _ hc e _ => kp' b o hc e) (fun b o _ _ hc e _ => ⟨o.slots, kp' b o hc e⟩)
            (fun b o hc e n => by rw [upd_ne (fun z => hc (by simp [z]))]; exact n) (fun b o hc e => ⟨o, kp' b o hc e⟩) (fun b xs e => by rw [upd_ne (ne_of_none e Hna)]; exact e) (fun b o u e => by rw [upd_ne (ne_of_none e Hna)]; exact e) (fun b ps e => ⟨#[], by rw [upd_ne (ne_of_none e Hna), e]; simp⟩) (fun m hm => ?_) (fun b u e => ?_) I3.bare
          · obtain ⟨o, es, ep, ho, r⟩ := hm
            exact ⟨o, es, ep, kp' _ o (fun z => (ch _ z).2.1 rfl) ho, r⟩
          · by_cases hb : b = SK.aS s.heap
            · subst hb
              rw [upd_same] at e
              cases e
              exact ⟨lout, _, c, ho1, hg⟩
            · rw [upd_ne hb] at e
              refine (I3.hok b u e).stay (fun c v hc q => kp' c v ?_ q) (fun c q => by rw [upd_ne (ne_of_none q Hna)]; exact q) fun c xs q => by rw [upd_ne (ne_of_none q Hna)]; exact q
              rcases hc with z | z
              · rw [z]; exact nit b u e
              · exact nit c _ z
        exact ⟨.ref (SK.aS s.heap), _, I4, rfl, (Out.pst (as2 := as) (ow2 := ow) (H2 := H) P' out).newL P'.rel ho2 Hna⟩
    · rw [if_neg hk] at hp'; exact hp'.elim
end CM
namespace CM
open PySem PySem.Spec PyProof.Rows L2
section
variable {cA : ClA} {C : Calls} {c : Cs} {X : Cx}
def rSK (cA : ClA) (X : Cx) (fa : Addr) (F : Fn) : List V → List V → Hp → VK → Prop := fun vs zs H Q => ∃ v as ow st d xs, vs = [v] ∧ zs = [.ref fa] ∧ Rel X.K cA as ow H st ∧ RepX X.K as ow H v d ∧ lsOf st d = some xs ∧
  PostE X.K cA as ow H ((keysGo (fun d st => F [d] st) xs st).bind fun ps st => ofO st ((sortK ps).map fun qs => .ol (qs.map (·.2)))) Q
theorem cr_sk {fa : Addr} {F : Fn} (hu : X.A.units + 65 < cLine) (hS : SKey cA X.prog X.w X.K X.mg X.base X.A.in1.in1 (.ref fa) F) : CallRK X (.builtin "sorted") [Str.ofString "key"] (rSK cA X fa F) := by
  intro pins s σ H vs zs us ws Q I r rz h
  obtain ⟨v, as, ow, st, d, xs, rfl, rfl, R, rx, hl, hp⟩ := h
  obtain ⟨u, rfl, ru⟩ := vals1 r
  obtain rfl := Vals.ref1 rz
  exact sort_key hu hS (fun l => ksk_s1 _ _) (fun l => ksk_l1 _ _) I ru R rx hl hp
end
end CM
end
section
set_option linter.all false
set_option maxRecDepth 100000
set_option maxHeartbeats 4000000
/-! max(xs, default=d), min(xs, default=d). -/
namespace CM
open PySem PySem.Spec PyProof.Rows L2
section
variable {cA : ClA} {C : Calls} {c : Cs} {X : Cx}
theorem foldl_max (n : Int) : ∀ ns : List Int, maxL (n :: ns) = some (ns.foldl max n)
  | [] => rfl
  | x :: r => by
    have a := foldl_max x r
    have b := foldl_max (max n x) r
    have k : ∀ (r : List Int) (n : Int), maxL (n :: r) = some (match maxL r with
        | none => n
        | some m => if m > n then m else n) := by
      intro r n
      simp only [maxL]
      cases maxL r <;> rfl
    rw [List.foldl_cons, ← b]
    rw [k (x :: r) n, k r (max n x), k r x]
    cases maxL r with
    | none => simp only [Option.some.injEq]; rw [Int.max_def]; split <;> split <;> omega
    | some m => simp only [Option.some.injEq]; rw [Int.max_def]; repeat (first | omega | split)
theorem foldl_min (n : Int) : ∀ ns : List Int, minL (n :: ns) = some (ns.foldl min n)
  | [] => rfl
  | x :: r => by
    have a := foldl_min x r
    have b := foldl_min (min n x) r
    have k : ∀ (r : List Int) (n : Int), minL (n :: r) = some (match minL r with
        | none => n
        | some m => if m < n then m else n) := by
      intro r n
      simp only [minL]
      cases minL r <;> rfl
    rw [List.foldl_cons, ← b]
    rw [k (x :: r) n, k r (min n x), k r x]
    cases minL r with
    | none => simp only [Option.some.injEq]; rw [Int.min_def]; split <;> split <;> omega
    | some m => simp only [Option.some.injEq]; rw [Int.min_def]; repeat (first | omega | split)
def rMD (K : PySem.W.Frag) (cA : ClA) (b : Bi) : List V → List V → Hp → VK → Prop := fun vs zs H Q => ∃ v z, vs = [v] ∧ zs = [z] ∧ rB K cA b [v, z] H Q
theorem alike_ints (ns : List Int) : PySem.W.AlikeAll (ns.map PyData.int) := by
  refine ⟨fun x hx y hy => ?_, fun x hx e => ?_⟩
  · obtain ⟨a, _, rfl⟩ := List.mem_map.mp hx
    obtain ⟨b, _, rfl⟩ := List.mem_map.mp hy
    rfl
  · obtain ⟨a, _, rfl⟩ := List.mem_map.mp hx
    cases e
theorem cr_maxd (hc : X.calm = true) (hu : X.A.units + 65 < cLine) : CallRK X (.builtin "max") [Str.ofString "default"] (rMD X.K cA .maxd) := by
  intro pins s σ H vs zs us ws Q I r rz h
  obtain ⟨v, z, rfl, rfl, as, ow, st, ds, dres, R, rx, e, out⟩ := h
  match ds, e, rx with
  | [a, .int k], e, rx =>
    obtain ⟨v', z', e0, hv, hz⟩ := rx2 rx
    cases e0
    have ez := int_rd hz
    subst ez
    replace e : ((lsOf st a).bind intsOf).map (fun ns => CM.D.int ((maxL ns).getD k)) = some dres := e
    cases hl : lsOf st a with
    | none => rw [hl] at e; cases e
    | some xs =>
      rw [hl] at e
      cases h2 : intsOf xs with
      | none => simp [h2] at e
      | some ns =>
        simp only [Option.bind_some, h2, Option.map_some, Option.some.injEq] at e
        subst e
        obtain ⟨p, wsV, rfl, hp, r1⟩ := ls_rd R hv hl
        have ev := ints_rd r1 h2
        subst ev
        obtain ⟨its, rv, pl, hz⟩ := I.list hp
        obtain ⟨u2, rfl, ru2⟩ := vals1 rz
        rw [Vals.ref1 r]
        have hi := rv.ints
        refine PySem.W.max_list_default (I.ok.hd hc) pl.isList (hi.reads _) (alike_ints ns) (by rw [depthAll_ints]; omega) (fun e0 h' tk hk => ?_) fun y ys i w h' tk bs exs hw hr hk => ?_
        · have : ns = [] := List.map_eq_nil_iff.mp e0
          subst this
          exact ⟨.int k, H, I.kept hk, ru2, out.here R (.int _) rfl⟩
        · cases ns with
          | nil => cases exs
          | cons n ns =>
            rw [List.map_cons] at exs
            injection exs with e1 e2
            subst e1; subst e2
            rw [PySem.W.maxD_ints] at hr
            obtain ⟨t, rfl, rfl⟩ := reads_int_inv hr
            rw [foldl_max] at out
            exact ⟨.int _, H, I.kept hk, ⟨_, rfl⟩, out.here R (.int _) rfl⟩
theorem cr_mind (hc : X.calm = true) (hu : X.A.units + 65 < cLine) : CallRK X (.builtin "min") [Str.ofString "default"] (rMD X.K cA .mind) := by
  intro pins s σ H vs zs us ws Q I r rz h
  obtain ⟨v, z, rfl, rfl, as, ow, st, ds, dres, R, rx, e, out⟩ := h
  match ds, e, rx with
  | [a, .int k], e, rx =>
    obtain ⟨v', z', e0, hv, hz⟩ := rx2 rx
    cases e0
    have ez := int_rd hz
    subst ez
    replace e : ((lsOf st a).bind intsOf).map (fun ns => CM.D.int ((minL ns).getD k)) = some dres := e
    cases hl : lsOf st a with
    | none => rw [hl] at e; cases e
    | some xs =>
      rw [hl] at e
      cases h2 : intsOf xs with
      | none => simp [h2] at e
      | some ns =>
        simp only [Option.bind_some, h2, Option.map_some, Option.some.injEq] at e
        subst e
        obtain ⟨p, wsV, rfl, hp, r1⟩ := ls_rd R hv hl
        have ev := ints_rd r1 h2
        subst ev
        obtain ⟨its, rv, pl, hz⟩ := I.list hp
        obtain ⟨u2, rfl, ru2⟩ := vals1 rz
        rw [Vals.ref1 r]
        have hi := rv.ints
        refine PySem.W.min_list_default (I.ok.hd hc) pl.isList (hi.reads _) (alike_ints ns) (by rw [depthAll_ints]; omega) (fun e0 h' tk hk => ?_) fun y ys i w h' tk bs exs hw hr hk => ?_
        · have : ns = [] := List.map_eq_nil_iff.mp e0
          subst this
          exact ⟨.int k, H, I.kept hk, ru2, out.here R (.int _) rfl⟩
        · cases ns with
          | nil => cases exs
          | cons n ns =>
            rw [List.map_cons] at exs
            injection exs with e1 e2
            subst e1; subst e2
            rw [PySem.W.minD_ints] at hr
            obtain ⟨t, rfl, rfl⟩ := reads_int_inv hr
            rw [foldl_min] at out
            exact ⟨.int _, H, I.kept hk, ⟨_, rfl⟩, out.here R (.int _) rfl⟩
/-- max(a, default=k) -/
theorem snd_mmd {b : Bi} {nm : String} {x : Str} {a k : E} {xa xk : Expr} {p kpos pos : Pos} (hc : CallRK X (.builtin nm) [Str.ofString "default"] (rMD X.K cA b)) (Dc : Dy cA C c X) (hv : bootBuiltins x = some (.builtin nm)) (hf : x ∈ bltNames) (hx : okNm x = true) (hn : x ≠ "__name__") (h1 : Gl X x) (h0 : okHead xa = true) (ha : BorE cA C X a xa) (hk : BorE cA C X k xk) :
    ValE cA C X (.bi b [a, k]) (.Call (.Name x p) [xa] [⟨some "default", xk, kpos⟩] pos) := by
  simp only [okNm, Bool.and_eq_true, Bool.not_eq_true'] at hx
  refine pe_imp (pe_callBK hc h1 (Dc.free _ hf) hv (pa_cons ha pa_nil (star_one h0 _ _)) (pk_cons hk pk_nil) hn hx.1 (he := by rw [star_one h0]; rfl) (hpl := by rw [star_one h0]; rfl)) fun σ H Q h => ?_
  have h : semE X.K cA (fun ρ st => ((bor ρ a (ev C ρ a) st).bind fun d st => ((bor ρ k (ev C ρ k) st).bind fun e st => .ok [e] st).bind fun ds st => .ok (d :: ds) st).bind fun ds st => ofO st (biS st b ds)) σ H Q := h
  have h : semE X.K cA (fun ρ st => (bor ρ a (ev C ρ a) st).bind fun d st => (bor ρ k (ev C ρ k) st).bind fun e st => ofO st (biS st b [d, e])) σ H Q := by
    obtain ⟨as, ow, ρ, st, E, R, h⟩ := h
    refine ⟨as, ow, ρ, st, E, R, ?_⟩
    dsimp only at h ⊢
    generalize bor ρ a (ev C ρ a) st = r1 at h ⊢
    cases r1 with
    | ok d st1 =>
      dsimp only [CM.R.bind] at h ⊢
      generalize bor ρ k (ev C ρ k) st1 = r2 at h ⊢
      cases r2 <;> exact h
    | _ => exact h
  refine semE_bind (f := fun ρ d st => (bor ρ k (ev C ρ k) st).bind fun e st => ofO st (biS st b [d, e])) h fun as ow H ρ st v d E R r h1 => ?_
  refine ⟨as, ow, ρ, st, E, R, ?_⟩
  refine postB_bind (P := fun r => PostE X.K cA as ow H r Q) id (fun _ _ => id) h1 fun e st2 z as2 ow2 H2 p2 r2 h2 => ?_
  obtain ⟨dd, e, o⟩ := (PostE.pst p2 h2).ofO
  exact ⟨v, z, rfl, rfl, as2, ow2, st2, _, dd, p2.rel, .cons (r.pst R p2) (.cons r2 .nil), e, o⟩
end
end CM
end
section
set_option linter.all false
set_option maxRecDepth 100000
set_option maxHeartbeats 4000000
set_option maxHeartbeats 4000000
/-! i in range(a, b). -/
namespace CM
open PySem PySem.Spec PyProof.Rows L2
section
variable {cA : ClA} {C : Calls} {c : Cs} {X : Cx}
def rIR (g : Bool) : R2 := fun x y H Q => ∃ i a lo hi, x = V.int i ∧ y = V.ref a ∧ H a = some (.rng lo hi) ∧ Q (.bl (decide (lo ≤ i ∧ i < hi) != g)) H
theorem op_inr : OpR X (compareOp .In) (rIR false) := fun pins s σ H x y v u Q I rx ry h => by
  obtain ⟨i, a, lo, hi, ex, ey, ha, q⟩ := h
  exact op_in_rng pins s σ H x y v u Q I rx ry ⟨i, a, lo, hi, ex, ey, ha, by rw [Bool.bne_false] at q; exact q⟩
theorem op_ninr : OpR X (compareOp .NotIn) (rIR true) := by
  intro pins s σ H x y v u Q I rx ry h
  obtain ⟨i, a, lo, hi, rfl, rfl, ha, q⟩ := h
  obtain ⟨k, rfl⟩ := rx
  obtain rfl : u = Value.ref a := ry
  obtain ⟨t1, t2, t3, ho⟩ := I.hok a _ ha
  show wpAny _ _ (do return Value.bool (!(← contains (Value.ref a) (Value.int i k)))) _ _ s
  refine wpAny_bind (wpAny_contains_slot (T := "range") ⟨_, ho, rfl⟩ F.slot_range_contains (call_meets F.slot_range_contains ⟨_, ho, rfl⟩ F.entry_range_contains (F.args_range_contains_2 _ _) (q_contains a lo hi i t1 t2 t3 k)
    ⟨ho, wpAny_truthy_bool (wpAny_pure ⟨.bl _, H, I, rfl, ?_⟩)⟩))
  rw [place1]
  rw [Bool.bne_true] at q
  exact q
def opN (p : CmpOp) : Option Bool := match p with
  | .In => some false
  | .NotIn => some true
  | _ => none
theorem opN_ok {p : CmpOp} {g : Bool} (h : opN p = some g) : OpR X (compareOp p) (rIR g) := by
  cases p <;> cases h
  · exact op_inr
  · exact op_ninr
theorem range_of {a lo hi : E} {g : Bool} {σ : L2.St} {H : Hp} {Q : VK} (h : semE X.K cA (fun ρ st => ev C ρ (.inRng g a lo hi) st) σ H Q) :
    semE X.K cA (fun ρ st => ev C ρ a st) σ H fun x H1 => semE X.K cA (fun ρ st => ev C ρ lo st) σ H1 fun y H2 => semE X.K cA (fun ρ st => ev C ρ hi st) σ H2 fun z H3 => ∃ i l h, x = V.int i ∧ y = V.int l ∧ z = V.int h ∧ ∀ p, H3 p = none → Q (.bl (decide (l ≤ i ∧ i < h) != g)) (upd H3 p (.rng l h)) := by
  have h : semE X.K cA (fun ρ st => (ev C ρ a st).bind fun x st => (ev C ρ lo st).bind fun l st => (ev C ρ hi st).bind fun h st => match x, l, h with
    | .int i, .int l, .int h => .ok (.bl (decide (l ≤ i ∧ i < h) != g)) st
    | _, _, _ => .bad) σ H Q := h
  refine semE_bindE (f := fun ρ x st => (ev C ρ lo st).bind fun l st => (ev C ρ hi st).bind fun h st => match x, l, h with
    | .int i, .int l, .int h => .ok (.bl (decide (l ≤ i ∧ i < h) != g)) st
    | _, _, _ => .bad) h fun as ow H ρ st x d E R rx h1 => ?_
  refine ⟨as, ow, ρ, st, E, R, ?_⟩
  refine post_bind (P := fun r => PostE X.K cA as ow H r Q) id (fun _ _ => id) h1 trivial fun d2 st2 y as2 ow2 H2 p2 r2 _ h2 => ?_
  refine ⟨as2, ow2, ρ, st2, E.pst R p2, p2.rel, ?_⟩
  refine post_bind (P := fun r => PostE X.K cA as ow H r Q) id (fun _ _ => id) h2 trivial fun d3 st3 z as3 ow3 H3 p3 r3 _ h3 => ?_
  match d, d2, d3, h3, rx, r2, r3 with
  | .int i, .int l, .int h, h3, rx, r2, r3 =>
    refine ⟨i, l, h, int_rd rx, int_rd r2, int_rd r3, fun p hp => ?_⟩
    exact h3 (.bl _) as3 ow3 _ ((p2.trans p3).trans (Pst.lay p3.rel hp)) (.bl _) fun _ _ z => by cases z
theorem pe_rng {lo hi : E} {xl xh : Expr} {p2 pos2 : Pos} (Dc : Dy cA C c X) (h1 : Gl X "range") (hl0 : okHead xl = true) (hh0 : okHead xh = true) (hl : ValE cA C X lo xl) (hh : ValE cA C X hi xh) :
    PE X (.Call (.Name "range" p2) [xl, xh] [] pos2) (tCB (fun vs H Q => ∃ i j, vs = [V.int i, V.int j] ∧ ∀ p, H p = none → Q (.ref p) (upd H p (.rng i j))) (tCons (semE X.K cA fun ρ st => ev C ρ lo st) (tCons (semE X.K cA fun ρ st => ev C ρ hi st) tNil))) :=
  pe_callTy cr_range2 h1 (Dc.free _ (by decide +kernel)) boot_range (pa_cons hl (pa_cons hh pa_nil (star_one hh0 _ _)) (star_one hl0 _ _)) (he := star_one hl0 _ _) (hpl := by rw [star_one hh0]; rfl)
/-- a in range(lo, hi), not in .. -/
theorem snd_inRng {g : Bool} {p : CmpOp} {a lo hi : E} {xa xl xh : Expr} {p2 pos2 pos : Pos} (Dc : Dy cA C c X) (ho : opN p = some g) (hm : behindInMarks p (.Call (.Name "range" p2) [xl, xh] [] pos2) = false) (h1 : Gl X "range") (hl0 : okHead xl = true) (hh0 : okHead xh = true) (ha : ValE cA C X a xa) (hl : ValE cA C X lo xl) (hh : ValE cA C X hi xh) :
    ValE cA C X (.inRng g a lo hi) (.Compare xa [p] [.Call (.Name "range" p2) [xl, xh] [] pos2] pos) := by
  refine pe_imp (pe_cmpR (opN_ok ho) ha (pe_rng Dc h1 hl0 hh0 hl hh) hm) fun σ H Q h => ?_
  refine semE_mono (range_of h) fun x H1 h => semE_mono h fun y H2 h => semE_mono h fun z H3 ⟨i, l, h, ex, ey, ez, q⟩ => ?_
  exact ⟨l, h, by rw [ey, ez], fun p hp => ⟨i, p, l, h, ex, rfl, upd_same, q p hp⟩⟩
theorem snd_inRngT {g : Bool} {p : CmpOp} {a lo hi : E} {xa xl xh : Expr} {p2 pos2 pos : Pos} (Dc : Dy cA C c X) (ho : opN p = some g) (hm : behindInMarks p (.Call (.Name "range" p2) [xl, xh] [] pos2) = false) (h1 : Gl X "range") (hl0 : okHead xl = true) (hh0 : okHead xh = true) (ha : ValE cA C X a xa) (hl : ValE cA C X lo xl) (hh : ValE cA C X hi xh) :
    TesE cA C X (.inRng g a lo hi) (.Compare xa [p] [.Call (.Name "range" p2) [xl, xh] [] pos2] pos) := by
  refine pt_imp (pt_cmpR (opN_ok ho) ha (pe_rng Dc h1 hl0 hh0 hl hh) hm) fun σ H Q h => ?_
  refine semE_mono (range_of (semT_E h)) fun x H1 h => semE_mono h fun y H2 h => semE_mono h fun z H3 ⟨i, l, h, ex, ey, ez, q⟩ => ?_
  exact ⟨l, h, by rw [ey, ez], fun p hp => ⟨i, p, l, h, ex, rfl, upd_same, q p hp⟩⟩
end
end CM
end
section
set_option linter.all false
set_option maxRecDepth 100000
set_option maxHeartbeats 4000000
/-! Texts cut: lstrip, rstrip, split. -/
namespace CM
open PySem PySem.Spec PyProof.Rows L2
variable {X : Cx} {cA : ClA}
theorem mem_toNat {c : Char} : ∀ {cs : List Char}, (c.toNat ∈ cs.map Char.toNat) ↔ c ∈ cs
  | [] => by simp
  | d :: cs => by
    simp only [List.map_cons, List.mem_cons, mem_toNat (cs := cs)]
    exact ⟨fun h => h.imp_left char_inj, fun h => h.imp_left fun e => by rw [e]⟩
theorem goes_mem (cs : List Char) (c : Char) : (toStr cs).cps.contains c.toNat = decide (c ∈ cs) := by
  rw [Bool.eq_iff_iff, decide_eq_true_eq, Array.contains_iff_mem, ← Array.mem_toList_iff, toStr_tl]
  exact mem_toNat
theorem tw_map {p : Nat → Bool} {q : Char → Bool} (h : ∀ c, p c.toNat = q c) : ∀ s : List Char, (s.map Char.toNat).takeWhile p = (s.takeWhile q).map Char.toNat
  | [] => rfl
  | c :: s => by
    rw [List.map_cons, List.takeWhile_cons, List.takeWhile_cons, h]
    cases q c <;> simp [tw_map h s]
theorem drop_tw {α : Type} (q : α → Bool) : ∀ s : List α, s.drop (s.takeWhile q).length = s.dropWhile q
  | [] => rfl
  | c :: s => by
    rw [List.takeWhile_cons, List.dropWhile_cons]
    cases q c <;> simp [drop_tw q s]
theorem lstrip_toStr (s cs : List Char) : Txt.lstripChars (toStr s) (toStr cs) = toStr (s.dropWhile fun c => decide (c ∈ cs)) := by
  unfold Txt.lstripChars
  rw [stripBy_eq]
  apply Str.ext'
  apply Array.toList_inj.mp
  rw [StrLaws.strSub_toList]
  have e1 : stripLo (toStr cs).cps.contains true (toStr s) = (s.takeWhile fun c => decide (c ∈ cs)).length := by
    unfold stripLo
    rw [if_pos rfl, toStr_tl, tw_map (goes_mem cs), List.length_map]
  have e2 : stripHi (toStr cs).cps.contains false (toStr s) (stripLo (toStr cs).cps.contains true (toStr s)) = s.length := by
    unfold stripHi
    rw [if_neg Bool.false_ne_true, toStr_len]
  rw [e2, e1, toStr_tl, toStr_tl, ← List.map_drop, drop_tw]
  apply List.take_of_length_le
  rw [List.length_map, ← drop_tw, List.length_drop]
  exact Nat.le_refl _
theorem rstrip_toStr (s cs : List Char) : Txt.rstripChars (toStr s) (toStr cs) = toStr (s.reverse.dropWhile fun c => decide (c ∈ cs)).reverse := by
  unfold Txt.rstripChars
  rw [stripBy_eq]
  apply Str.ext'
  apply Array.toList_inj.mp
  rw [StrLaws.strSub_toList]
  have e1 : stripLo (toStr cs).cps.contains false (toStr s) = 0 := by unfold stripLo; rw [if_neg Bool.false_ne_true]
  have e2 : stripHi (toStr cs).cps.contains true (toStr s) 0 = s.length - (s.reverse.takeWhile fun c => decide (c ∈ cs)).length := by
    unfold stripHi
    rw [if_pos rfl, toStr_len, toStr_tl, List.drop_zero, ← List.map_reverse, tw_map (goes_mem cs), List.length_map]
  rw [e1, e2, toStr_tl, toStr_tl, List.drop_zero, Nat.sub_zero, ← List.map_take]
  congr 1
  rw [← drop_tw, List.reverse_drop, List.reverse_reverse, List.length_reverse]
theorem mt_lstripS : MtR X "str.lstrip" (rM X.K cA .lstrip) := by
  intro pins s σ H x xs v us Q I rx rs h
  obtain ⟨as, ow, st, d, ds, r, R, hd, hds, e, out⟩ := h
  match d, ds, e with
  | .str z, [.str cs], e =>
    have e : (if z.length ≤ 16777216 then some (D.str (z.dropWhile fun c => decide (c ∈ cs))) else none) = some r := e
    split at e
    · rename_i hn
      cases e
      obtain ⟨w1, rfl, h1⟩ := rx1 hds
      have e1 := str_rd hd
      have e3 := str_rd h1
      subst e1 e3
      refine mt_lstripChars pins s σ H _ _ v us Q I rx rs ⟨_, _, rfl, rfl, by rw [toStr_len, sizeLine_eq]; omega, ?_⟩
      rw [lstrip_toStr]
      exact out.here R (.str _) rfl
    · cases e
theorem mt_rstripS : MtR X "str.rstrip" (rM X.K cA .rstrip) := by
  intro pins s σ H x xs v us Q I rx rs h
  obtain ⟨as, ow, st, d, ds, r, R, hd, hds, e, out⟩ := h
  match d, ds, e with
  | .str z, [.str cs], e =>
    have e : (if z.length ≤ 16777216 then some (D.str (z.reverse.dropWhile fun c => decide (c ∈ cs)).reverse) else none) = some r := e
    split at e
    · rename_i hn
      cases e
      obtain ⟨w1, rfl, h1⟩ := rx1 hds
      have e1 := str_rd hd
      have e3 := str_rd h1
      subst e1 e3
      refine mt_rstripChars pins s σ H _ _ v us Q I rx rs ⟨_, _, rfl, rfl, by rw [toStr_len, sizeLine_eq]; omega, ?_⟩
      rw [rstrip_toStr]
      exact out.here R (.str _) rfl
    · cases e
/-! ### split at a sign -/
def jnN (c : Nat) : List (List Nat) → List Nat
  | [] => []
  | [x] => x
  | x :: y :: r => x ++ [c] ++ jnN c (y :: r)
def spN (c : Nat) : List Nat → List Nat → List (List Nat)
  | acc, [] => [acc]
  | acc, x :: r => if x = c then acc :: spN c [] r else spN c (acc ++ [x]) r
theorem sp_free {c : Nat} : ∀ (p acc r : List Nat), c ∉ p → spN c acc (p ++ r) = spN c (acc ++ p) r
  | [], acc, r, _ => by simp
  | x :: p, acc, r, h => by
    simp only [List.mem_cons, not_or] at h
    rw [List.cons_append, spN, if_neg (fun e => h.1 e.symm), sp_free p _ r h.2]
    simp
theorem sp_jn {c : Nat} : ∀ (ps : List (List Nat)) (p acc : List Nat), c ∉ p → (∀ q ∈ ps, c ∉ q) → spN c acc (jnN c (p :: ps)) = (acc ++ p) :: ps
  | [], p, acc, h, _ => by
    show spN c acc p = _
    have := sp_free p acc [] h
    rw [List.append_nil] at this
    rw [this]; rfl
  | q :: ps, p, acc, h, hq => by
    show spN c acc (p ++ [c] ++ jnN c (q :: ps)) = _
    rw [List.append_assoc, sp_free p acc _ h]
    show spN c (acc ++ p) (c :: jnN c (q :: ps)) = _
    rw [spN, if_pos rfl, sp_jn ps q [] (hq q (by simp)) fun z hz => hq z (by simp [hz])]; rfl
theorem sp_map (c : Char) : ∀ (s acc : List Char), spN c.toNat (acc.map Char.toNat) (s.map Char.toNat) = (splitC c acc s).map (List.map Char.toNat)
  | [], acc => rfl
  | x :: s, acc => by
    rw [List.map_cons, spN, splitC]
    by_cases h : x = c
    · subst h
      rw [if_pos rfl, if_pos rfl, List.map_cons]
      have := sp_map x s []
      rw [List.map_nil] at this
      rw [this]
    · rw [if_neg (fun e => h (char_inj e)), if_neg h]
      have := sp_map c s (acc ++ [x])
      rw [List.map_append] at this
      exact this
theorem jn_str (c : Nat) : ∀ ps : List Str, (Str.join ⟨#[c]⟩ ps).cps.toList = jnN c (ps.map fun p => p.cps.toList)
  | [] => rfl
  | [x] => rfl
  | x :: y :: r => by
    have ih := jn_str c (y :: r)
    show ((x ++ (⟨#[c]⟩ : Str)) ++ Str.join ⟨#[c]⟩ (y :: r)).cps.toList = x.cps.toList ++ [c] ++ jnN c ((y :: r).map fun p => p.cps.toList)
    rw [← ih]
    show ((x.cps ++ #[c]) ++ (Str.join ⟨#[c]⟩ (y :: r)).cps).toList = _
    simp
theorem split_toStr (s : List Char) (c : Char) : Txt.split (toStr s) (toStr [c]) = (splitC c [] s).map toStr := by
  have e0 : toStr [c] = ⟨#[c.toNat]⟩ := by simp [toStr]
  have h1 := StrLaws.join_split (toStr s) (toStr [c])
  rw [e0] at h1 ⊢
  have h2 := StrLaws.split_free (toStr s) c.toNat
  have h3 := split_pos (toStr s) ⟨#[c.toNat]⟩
  generalize Txt.split (toStr s) ⟨#[c.toNat]⟩ = ps at h1 h2 h3 ⊢
  have h4 : jnN c.toNat (ps.map fun p => p.cps.toList) = s.map Char.toNat := by rw [← jn_str, h1, toStr_tl]
  cases ps with
  | nil => simp at h3
  | cons p r =>
    have h5 := sp_jn (c := c.toNat) (r.map fun p => p.cps.toList) p.cps.toList [] (h2 p (by simp)) fun q hq => by
      obtain ⟨z, hz, rfl⟩ := List.mem_map.mp hq
      exact h2 z (by simp [hz])
    rw [List.map_cons] at h4
    rw [h4] at h5
    have h6 := sp_map c s []
    rw [List.map_nil] at h6
    rw [h6] at h5
    have inj : ∀ (a : List (List Char)) (b : List Str), a.map (List.map Char.toNat) = b.map (fun p => p.cps.toList) → b = a.map toStr := by
      intro a
      induction a with
      | nil => intro b h; cases b with
        | nil => rfl
        | cons _ _ => simp at h
      | cons x a ih => intro b h; cases b with
        | nil => simp at h
        | cons y b =>
          simp only [List.map_cons, List.cons.injEq] at h
          rw [List.map_cons, ih b h.2]
          congr 1
          apply Str.ext'
          apply Array.toList_inj.mp
          rw [toStr_tl, h.1]
    refine inj _ _ ?_
    rw [h5]; rfl
theorem reps_str {K : PySem.W.Frag} {as : List Addr} {ow : Addr → Prop} {H : Hp} : ∀ ss : List (List Char), RepVs K as ow H ((ss.map toStr).map V.str) (ss.map D.str)
  | [] => .nil
  | s :: r => .cons (.str s) (reps_str r)
theorem mt_splitS : MtR X "str.split" (rM X.K cA .split) := by
  intro pins s σ H x xs v us Q I rx rs h
  obtain ⟨as, ow, st, d, ds, r, R, hd, hds, e, out⟩ := h
  match d, ds, e with
  | .str z, [.str [c]], e =>
    have e : (if z.length + 2 ≤ 16777216 ∧ c.toNat < 128 then some (D.ol ((splitC c [] z).map .str)) else none) = some r := e
    split at e
    · rename_i hn
      cases e
      obtain ⟨w1, rfl, h1⟩ := rx1 hds
      have e1 := str_rd hd
      have e3 := str_rd h1
      subst e1 e3
      refine mt_split pins s σ H _ _ v us Q I rx rs ⟨_, _, rfl, rfl, rfl, by rw [toStr_len, sizeLine_eq]; omega, fun p hp => ?_⟩
      rw [split_toStr]
      exact Out.newL out R (reps_str _) hp
    · cases e
end CM
end
section
set_option linter.all false
set_option maxRecDepth 100000
set_option maxHeartbeats 4000000
/-! Dicts walked: locked meanwhile. -/
namespace CM
open PySem PySem.Spec PyProof.Rows L2
def LkU (u : HO) : Prop := (∃ kvs, u = .dK kvs) ∨ ∃ kvs, u = .dT kvs
theorem LkU.mut {u : HO} (h : LkU u) : isMut u = true := by rcases h with ⟨_, rfl⟩ | ⟨_, rfl⟩ <;> rfl
theorem LkU.mut2 {u : HO} (h : LkU u) : Mut (some u) := by rcases h with ⟨_, rfl⟩ | ⟨_, rfl⟩ <;> trivial
/-- a dict at d is locked, unlocked -/
structure Lk (d : Addr) (o : Obj) (u : HO) (H H' : Hp) : Prop where
  oth : ∀ p, p ≠ d → H' p = H p
  at_ : (H d = some u ∧ H' d = some (.frz o u)) ∨ (H d = some (.frz o u) ∧ H' d = some u)
  hu : LkU u
theorem Lk.lock {d : Addr} {o : Obj} {u : HO} {H : Hp} (h : H d = some u) (hu : LkU u) : Lk d o u H (upd H d (.frz o u)) := ⟨fun p n => upd_ne n, .inl ⟨h, upd_same⟩, hu⟩
theorem Lk.unlock {d : Addr} {o : Obj} {u : HO} {H : Hp} (h : H d = some (.frz o u)) (hu : LkU u) : Lk d o u H (upd H d u) := ⟨fun p n => upd_ne n, .inr ⟨h, upd_same⟩, hu⟩
section
variable {K : PySem.W.Frag} {cA : ClA} {as : List Addr} {ow : Addr → Prop} {H H' : Hp} {st : Sto} {d : Addr} {o : Obj} {u : HO} {σ : L2.St} {ρ : Slots}
theorem Lk.ne (c : Lk d o u H H') {p : Addr} {x : HO} (h : H p = some x) (n1 : x ≠ u) (n2 : x ≠ .frz o u) : H' p = some x := by
  rw [c.oth p fun z => ?_]
  · exact h
  · subst z
    rcases c.at_ with ⟨a, _⟩ | ⟨a, _⟩
    · rw [a] at h; exact n1 (Option.some.inj h).symm
    · rw [a] at h; exact n2 (Option.some.inj h).symm
theorem Lk.tup (c : Lk d o u H H') {p : Addr} {vs : List V} (h : H p = some (.tup vs)) : H' p = some (.tup vs) :=
  c.ne h (fun z => by rcases c.hu with ⟨_, e⟩ | ⟨_, e⟩ <;> rw [e] at z <;> cases z) (fun z => by cases z)
theorem Lk.lst (c : Lk d o u H H') {p : Addr} {vs : List V} (h : H p = some (.lst vs)) : H' p = some (.lst vs) :=
  c.ne h (fun z => by rcases c.hu with ⟨_, e⟩ | ⟨_, e⟩ <;> rw [e] at z <;> cases z) (fun z => by cases z)
theorem Lk.frzl (c : Lk d o u H H') {p : Addr} {o' : Obj} {vs : List V} (h : H p = some (.frz o' (.lst vs))) : H' p = some (.frz o' (.lst vs)) :=
  c.ne h (fun z => by rcases c.hu with ⟨_, e⟩ | ⟨_, e⟩ <;> rw [e] at z <;> cases z) (fun z => by rcases c.hu with ⟨_, e⟩ | ⟨_, e⟩ <;> rw [e] at z <;> cases z)
theorem Lk.rd (c : Lk d o u H H') {p : Addr} {x : HO} (hx : LkU x) (h : Rd H p x) : Rd H' p x := by
  by_cases z : p = d
  · subst z
    rcases h with h | ⟨o', h⟩
    · rcases c.at_ with ⟨a, b⟩ | ⟨a, b⟩
      · rw [a] at h; cases h; exact .inr ⟨o, b⟩
      · rw [a] at h; cases h
        rcases hx with ⟨_, e⟩ | ⟨_, e⟩ <;> cases e
    · rcases c.at_ with ⟨a, b⟩ | ⟨a, b⟩
      · rw [a] at h; cases h
        rcases c.hu with ⟨_, e⟩ | ⟨_, e⟩ <;> cases e
      · rw [a] at h; cases h; exact .inl b
  · rcases h with h | ⟨o', h⟩
    · exact .inl ((c.oth p z).trans h)
    · exact .inr ⟨o', (c.oth p z).trans h⟩
mutual
theorem RepV.lk (c : Lk d o u H H') : ∀ {v : V} {x : CM.D}, RepV K as ow H v x → RepV K as ow H' v x
  | _, _, .non => .non
  | _, _, .bl b => .bl b
  | _, _, .int i => .int i
  | _, _, .str s => .str s
  | _, _, .tup h r => .tup (c.tup h) (RepVs.lk c r)
  | _, _, .fl h n1 n2 r => .fl (c.lst h) n1 n2 (RepVs.lk c r)
  | _, _, .sc h r => .sc (h.elim (fun ⟨o, e⟩ => .inl ⟨o, c.frzl e⟩) .inr) (RepVs.lk c r)
  | _, _, .fdk h n1 n2 r => .fdk (c.rd (.inl ⟨_, rfl⟩) h) n1 n2 (RepK.lk c r)
  | _, _, .fdt h n1 n2 r => .fdt (c.rd (.inr ⟨_, rfl⟩) h) n1 n2 (RepT.lk c r)
  | _, _, .ref e => .ref e
theorem RepVs.lk (c : Lk d o u H H') : ∀ {vs : List V} {ds : List CM.D}, RepVs K as ow H vs ds → RepVs K as ow H' vs ds
  | _, _, .nil => .nil
  | _, _, .cons a r => .cons (RepV.lk c a) (RepVs.lk c r)
theorem RepK.lk (c : Lk d o u H H') : ∀ {vs : List (Key × V)} {ds : List (Ky × CM.D)}, RepK K as ow H vs ds → RepK K as ow H' vs ds
  | _, _, .nil => .nil
  | _, _, .cons a r => .cons (RepV.lk c a) (RepK.lk c r)
theorem RepT.lk (c : Lk d o u H H') : ∀ {vs : List (List Key × V)} {ds : List (Ky × CM.D)}, RepT K as ow H vs ds → RepT K as ow H' vs ds
  | _, _, .nil => .nil
  | _, _, .cons a r => .cons (RepV.lk c a) (RepT.lk c r)
end
theorem RepF.lk (c : Lk d o u H H') {vs : List (Str × V)} {ds : List (Fl × CM.D)} (h : RepF K as ow H vs ds) : RepF K as ow H' vs ds := by
  induction h with
  | nil => exact .nil
  | cons a _ ih => exact .cons (a.lk c) ih
theorem RepX.lk (c : Lk d o u H H') (n : ¬ ow d) {v : V} {x : CM.D} (h : RepX K as ow H v x) : RepX K as ow H' v x := by
  have ne : ∀ p, ow p → p ≠ d := fun p hp z => n (z ▸ hp)
  cases x with
  | ol ds =>
    obtain ⟨q, vs, e, w, hq, r⟩ := h
    exact ⟨q, vs, e, w, c.lst hq, r.lk c⟩
  | od t ks =>
    cases t with
    | false =>
      obtain ⟨q, vs, e, w, hq, r⟩ := h
      exact ⟨q, vs, e, w, (c.oth q (ne q w)).trans hq, r.lk c⟩
    | true =>
      obtain ⟨q, vs, e, w, hq, r⟩ := h
      exact ⟨q, vs, e, w, (c.oth q (ne q w)).trans hq, r.lk c⟩
  | _ => exact RepV.lk c h
theorem RepC.lk (c : Lk d o u H H') {a : Addr} (n : a ≠ d) : ∀ {x : Cell}, RepC K cA as ow H a x → RepC K cA as ow H' a x := by
  intro x q
  have h := c.oth a n
  cases x with
  | lst ds => obtain ⟨vs, e, r⟩ := q; exact ⟨vs, h.trans e, r.lk c⟩
  | dct t ks =>
    cases t with
    | false => obtain ⟨vs, e, r⟩ := q; exact ⟨vs, h.trans e, r.lk c⟩
    | true => obtain ⟨vs, e, r⟩ := q; exact ⟨vs, h.trans e, r.lk c⟩
  | obj k fs => obtain ⟨C, dx, gs, e0, e, r⟩ := q; exact ⟨C, dx, gs, e0, h.trans e, r.lk c⟩
theorem Rel.lk (c : Lk d o u H H') (n1 : d ∉ as) (n2 : ¬ ow d) (R : Rel K cA as ow H st) : Rel K cA as ow H' st where
  len := R.len
  nd := R.nd
  dis := R.dis
  mta := fun a ha => by
    obtain ⟨x, e, m⟩ := R.mta a ha
    exact ⟨x, (c.oth a fun z => n1 (z ▸ ha)).trans e, m⟩
  mto := fun a ha => by
    obtain ⟨x, e, m⟩ := R.mto a ha
    exact ⟨x, (c.oth a fun z => n2 (z ▸ ha)).trans e, m⟩
  cell := fun n x a e1 e2 => (R.cell n x a e1 e2).lk c fun z => n1 (z ▸ List.mem_of_getElem? e2)
theorem EnvR.lk (c : Lk d o u H H') (n2 : ¬ ow d) (E : EnvR K as ow H σ ρ) : EnvR K as ow H' σ ρ :=
  ⟨E.len, fun i x e => let ⟨v, a, b⟩ := E.get i x e; ⟨v, a, b.lk c n2⟩, E.uni⟩
/-- a run's traces, the lock taken off -/
theorem Pst.unlock {as' : List Addr} {ow' : Addr → Prop} {H1 : Hp} {st' : Sto} (R : Rel K cA as ow H st) (hd : H d = some u) (hu : LkU u) (n1 : d ∉ as) (n2 : ¬ ow d) (p : Pst K cA as ow (upd H d (.frz o u)) as' ow' H1 st') :
    H1 d = some (.frz o u) ∧ d ∉ as' ∧ ¬ ow' d ∧ Pst K cA as ow H as' ow' (upd H1 d u) st' := by
  obtain ⟨k1, k2, k3⟩ := p.keep d (.frz o u) upd_same n1
  have k4 : ¬ ow' d := fun z => n2 (k3 z)
  refine ⟨k1, k2, k4, p.pre, p.pw, fun q x e n => ?_, p.rel.lk (Lk.unlock k1 hu) k2 k4⟩
  by_cases z : q = d
  · subst z
    rw [hd] at e; cases e
    exact ⟨upd_same, k2, fun z => (k4 z).elim⟩
  · obtain ⟨a, b, c⟩ := p.keep q x (by rw [upd_ne z]; exact e) n
    exact ⟨by rw [upd_ne z]; exact a, b, c⟩
theorem Out.lock {r : CM.D} {st' : Sto} {Q : VK} (R : Rel K cA as ow H st) (hd : H d = some u) (hu : LkU u) (n1 : d ∉ as) (n2 : ¬ ow d) (h : Out K cA as ow H st' r Q) : Out K cA as ow (upd H d (.frz o u)) st' r fun v H1 => H1 d = some (.frz o u) ∧ Q v (upd H1 d u) := by
  intro v as1 ow1 H1 p rx f
  obtain ⟨k1, k2, k4, p'⟩ := p.unlock R hd hu n1 n2
  exact ⟨k1, h v as1 ow1 _ p' (rx.lk (Lk.unlock k1 hu) k4) f⟩
theorem PostE.lock {r : CM.R CM.D} {Q : VK} (R : Rel K cA as ow H st) (hd : H d = some u) (hu : LkU u) (n1 : d ∉ as) (n2 : ¬ ow d) (h : PostE K cA as ow H r Q) : PostE K cA as ow (upd H d (.frz o u)) r fun v H1 => H1 d = some (.frz o u) ∧ Q v (upd H1 d u) := by
  cases r with
  | ok x st' => exact Out.lock R hd hu n1 n2 h
  | _ => exact h
/-- the dict in slot i is locked -/
def LkAt (i : Nat) (σ : L2.St) (H : Hp) : Prop := ∃ d o u, σ[i]? = some (some (.ref d)) ∧ H d = some (.frz o u) ∧ LkU u
/-- the dict in slot i -/
theorem fd_slot {i : Nat} {t : Bool} {ks : List (Ky × CM.D)} (E : EnvR K as ow H σ ρ) (e : getS ρ i = some (.fd t ks)) : ∃ d u, σ[i]? = some (some (.ref d)) ∧ Rd H d u ∧ LkU u ∧ d ∉ as ∧ ¬ ow d := by
  obtain ⟨v, h1, h2⟩ := E.get i _ (by
    unfold getS at e
    split at e
    · rename_i d' h; cases e; exact h
    · cases e)
  cases t with
  | false =>
    have h2 : RepV K as ow H v (.fd false ks) := h2
    cases h2 with
    | fdk a n1 n2 r => exact ⟨_, _, h1, a, .inl ⟨_, rfl⟩, n1, n2⟩
  | true =>
    have h2 : RepV K as ow H v (.fd true ks) := h2
    cases h2 with
    | fdt a n1 n2 r => exact ⟨_, _, h1, a, .inr ⟨_, rfl⟩, n1, n2⟩
end
section
variable {cA : ClA} {C : Calls} {c : Cs} {X : Cx}
/-- an expression that walks the dict in slot i -/
theorem pe_lockS {i : Nat} {f : Slots → Sto → CM.R CM.D} {x : Expr} (h : PE X x (fun σ H Q => LkAt i σ H ∧ semE X.K cA f σ H Q)) (hf : ∀ ρ st, (∀ t ks, getS ρ i ≠ some (.fd t ks)) → f ρ st = .bad) : PE X x (semE X.K cA f) := by
  have or_ : PE X x (fun σ H Q => (LkAt i σ H ∧ semE X.K cA f σ H Q) ∨ tLockE (fun σ H Q => LkAt i σ H ∧ semE X.K cA f σ H Q) σ H Q) :=
    ⟨fun pins s σ H Q I q => q.elim (h.run pins s σ H Q I) ((pe_lock h).run pins s σ H Q I)⟩
  refine pe_imp or_ fun σ H Q q => ?_
  obtain ⟨as, ow, ρ, st, E, R, q⟩ := q
  by_cases hz : ∃ t ks, getS ρ i = some (.fd t ks)
  · obtain ⟨t, ks, e⟩ := hz
    obtain ⟨d, u, h1, h2, hu, n1, n2⟩ := fd_slot E e
    rcases h2 with h2 | ⟨o, h2⟩
    · refine .inr ⟨d, u, h2, hu.mut2, fun od => ⟨⟨d, od, u, h1, upd_same, hu⟩, as, ow, ρ, st, E.lk (Lk.lock h2 hu) n2, R.lk (Lk.lock h2 hu) n1 n2, PostE.lock R h2 hu n1 n2 q⟩⟩
    · exact .inl ⟨⟨d, o, u, h1, h2, hu⟩, as, ow, ρ, st, E, R, q⟩
  · have := hf ρ st fun t ks e => hz ⟨t, ks, e⟩
    rw [this] at q; exact q.elim
/-! ### the walks -/
theorem RepK.at_ {K : PySem.W.Frag} {as : List Addr} {ow : Addr → Prop} {H : Hp} : ∀ {kvs : List (Key × V)} {ks : List (Ky × CM.D)} {i : Nat} {k : Key} {v : V}, RepK K as ow H kvs ks → kvs[i]? = some (k, v) → ∃ a x, ks[i]? = some (.k a, x) ∧ k = kxK a ∧ RepV K as ow H v x
  | _, _, _, _, _, .nil, e => by simp at e
  | _, _, 0, _, _, .cons a r, e => by simp at e; obtain ⟨rfl, rfl⟩ := e; exact ⟨_, _, rfl, rfl, a⟩
  | _, _, i + 1, _, _, .cons a r, e => by simpa using RepK.at_ (i := i) r (by simpa using e)
theorem RepT.at_ {K : PySem.W.Frag} {as : List Addr} {ow : Addr → Prop} {H : Hp} : ∀ {kvs : List (List Key × V)} {ks : List (Ky × CM.D)} {i : Nat} {k : List Key} {v : V}, RepT K as ow H kvs ks → kvs[i]? = some (k, v) → ∃ a x, ks[i]? = some (.t a, x) ∧ k = a.map kxK ∧ RepV K as ow H v x
  | _, _, _, _, _, .nil, e => by simp at e
  | _, _, 0, _, _, .cons a r, e => by simp at e; obtain ⟨rfl, rfl⟩ := e; exact ⟨_, _, rfl, rfl, a⟩
  | _, _, i + 1, _, _, .cons a r, e => by simpa using RepT.at_ (i := i) r (by simpa using e)
theorem RepK.len {K : PySem.W.Frag} {as : List Addr} {ow : Addr → Prop} {H : Hp} : ∀ {kvs : List (Key × V)} {ks : List (Ky × CM.D)}, RepK K as ow H kvs ks → kvs.length = ks.length
  | _, _, .nil => rfl
  | _, _, .cons a r => by simp [RepK.len r]
theorem RepT.len {K : PySem.W.Frag} {as : List Addr} {ow : Addr → Prop} {H : Hp} : ∀ {kvs : List (List Key × V)} {ks : List (Ky × CM.D)}, RepT K as ow H kvs ks → kvs.length = ks.length
  | _, _, .nil => rfl
  | _, _, .cons a r => by simp [RepT.len r]
theorem kx_rep {K : PySem.W.Frag} {as : List Addr} {ow : Addr → Prop} {H : Hp} (a : Kx) : RepV K as ow H (kV (kxK a)) (kxD a) := by
  cases a with
  | i n => exact .int n
  | s x => exact .str x
theorem kxs_rep {K : PySem.W.Frag} {as : List Addr} {ow : Addr → Prop} {H : Hp} : ∀ as' : List Kx, RepVs K as ow H ((as'.map kxK).map kV) (as'.map kxD)
  | [] => .nil
  | a :: r => .cons (kx_rep a) (kxs_rep r)
theorem rd_frz {H : Hp} {d : Addr} {o : Obj} {u x : HO} (h : H d = some (.frz o u)) (hx : LkU x) (r : Rd H d x) : x = u := by
  rcases r with r | ⟨_, r⟩
  · rw [h] at r; cases r; rcases hx with ⟨_, e⟩ | ⟨_, e⟩ <;> cases e
  · rw [h] at r; cases r; rfl
theorem walk_keysK {K : PySem.W.Frag} {d : Addr} {o : Obj} {kvs : List (Key × V)} {ks : List (Ky × CM.D)} : WalkOk K cA (Itk d o kvs) .keys [.ref d] [.fd false ks] (ks.map fun p => kyD p.1) [(d, .frz o (.dK kvs))] := by
  intro as ow H st R rx fz e
  have hd := fz (d, .frz o (.dK kvs)) (by simp)
  obtain ⟨_, he, r⟩ := rx1 rx
  cases he
  have r : RepV K as ow H (.ref d) (.fd false ks) := r
  cases r with
  | fdk a n1 n2 r =>
    cases rd_frz hd (.inl ⟨_, rfl⟩) a
    have hl := r.len
    refine ⟨⟨hd, by rw [List.length_map]; omega⟩, fun i hi => ⟨⟨hd, by rw [List.length_map] at hi; omega⟩, fun x H' y => ?_⟩⟩
    obtain ⟨rfl, k, v, hk, rfl⟩ := y
    obtain ⟨a', x, h1, rfl, h2⟩ := r.at_ hk
    exact ⟨kxD a', by rw [List.getElem?_map, h1]; rfl, Pst.refl R, kx_rep a'⟩
theorem walk_keysT {K : PySem.W.Frag} {d : Addr} {o : Obj} {kvs : List (List Key × V)} {ks : List (Ky × CM.D)} : WalkOk K cA (Itkt d o kvs) .keys [.ref d] [.fd true ks] (ks.map fun p => kyD p.1) [(d, .frz o (.dT kvs))] := by
  intro as ow H st R rx fz e
  have hd := fz (d, .frz o (.dT kvs)) (by simp)
  obtain ⟨_, he, r⟩ := rx1 rx
  cases he
  have r : RepV K as ow H (.ref d) (.fd true ks) := r
  cases r with
  | fdt a n1 n2 r =>
    cases rd_frz hd (.inr ⟨_, rfl⟩) a
    have hl := r.len
    refine ⟨⟨hd, by rw [List.length_map]; omega⟩, fun i hi => ⟨⟨hd, by rw [List.length_map] at hi; omega⟩, fun x H' y => ?_⟩⟩
    obtain ⟨rfl, k, v, q, hk, rfl, hq⟩ := y
    obtain ⟨a', x, h1, rfl, h2⟩ := r.at_ hk
    exact ⟨.tup (a'.map kxD), by rw [List.getElem?_map, h1]; rfl, Pst.refl R, .tup hq (kxs_rep a')⟩
theorem walk_itemsK {K : PySem.W.Frag} {d : Addr} {o : Obj} {kvs : List (Key × V)} {ks : List (Ky × CM.D)} : WalkOk K cA (Iti d o kvs) .items [.ref d] [.fd false ks] (ks.map fun p => .tup [kyD p.1, p.2]) [(d, .frz o (.dK kvs))] := by
  intro as ow H st R rx fz e
  have hd := fz (d, .frz o (.dK kvs)) (by simp)
  obtain ⟨_, he, r⟩ := rx1 rx
  cases he
  have r : RepV K as ow H (.ref d) (.fd false ks) := r
  cases r with
  | fdk a n1 n2 r =>
    cases rd_frz hd (.inl ⟨_, rfl⟩) a
    have hl := r.len
    refine ⟨⟨hd, by rw [List.length_map]; omega⟩, fun i hi => ⟨⟨hd, by rw [List.length_map] at hi; omega⟩, fun x H' y => ?_⟩⟩
    obtain ⟨T, k, v, hk, rfl, hT, rfl⟩ := y
    obtain ⟨a', x, h1, rfl, h2⟩ := r.at_ hk
    have P := Pst.lay (o := .tup [kV (kxK a'), v]) R hT
    exact ⟨.tup [kxD a', x], by rw [List.getElem?_map, h1]; rfl, P, .tup upd_same (.cons (kx_rep a') (.cons (h2.car (P.car R)) .nil))⟩
theorem walk_valsK {K : PySem.W.Frag} {d : Addr} {o : Obj} {kvs : List (Key × V)} {ks : List (Ky × CM.D)} : WalkOk K cA (Itd d o kvs) .vals [.ref d] [.fd false ks] (ks.map (·.2)) [(d, .frz o (.dK kvs))] := by
  intro as ow H st R rx fz e
  have hd := fz (d, .frz o (.dK kvs)) (by simp)
  obtain ⟨_, he, r⟩ := rx1 rx
  cases he
  have r : RepV K as ow H (.ref d) (.fd false ks) := r
  cases r with
  | fdk a n1 n2 r =>
    cases rd_frz hd (.inl ⟨_, rfl⟩) a
    have hl := r.len
    refine ⟨⟨hd, by rw [List.length_map]; omega⟩, fun i hi => ⟨⟨hd, by rw [List.length_map] at hi; omega⟩, fun x H' y => ?_⟩⟩
    obtain ⟨rfl, k, hk⟩ := y
    obtain ⟨a', z, h1, rfl, h2⟩ := r.at_ hk
    exact ⟨z, by rw [List.getElem?_map, h1]; rfl, Pst.refl R, h2⟩
/-- what a source in slot i gives -/
def SlotSrc (k : Ik) (i : Nat) (f : Slots → Sto → CM.R (List CM.D)) : Prop := ∀ ρ st, (∃ t ks, getS ρ i = some (.fd t ks) ∧ f ρ st = .ok [.fd t ks] st) ∨ ∀ ds st', f ρ st = .ok ds st' → itemsOf st' k ds = none
theorem slot_src {k : Ik} {i : Nat} {f : Slots → Sto → CM.R (List CM.D)} (hs : SlotSrc k i f) (ht : ∀ ρ st, f ρ st ≠ .top) {σ : L2.St} {H : Hp} {Rr : It → Hp → Prop} (h : semI X.K cA k f σ H Rr) (hl : LkAt i σ H) :
    ∃ as ow ρ st t ks d o u, EnvR X.K as ow H σ ρ ∧ Rel X.K cA as ow H st ∧ getS ρ i = some (.fd t ks) ∧ σ[i]? = some (some (.ref d)) ∧ H d = some (.frz o u) ∧ LkU u ∧ RepV X.K as ow H (.ref d) (.fd t ks) ∧ ∃ items, itemsOf st k [.fd t ks] = some items ∧
      (items.length ≤ 16777216 → ∀ J, WalkOk X.K cA J k [.ref d] [.fd t ks] items [(d, .frz o u)] → Rr J H) := by
  obtain ⟨as, ow, ρ, st, E, R, h⟩ := h
  obtain ⟨d, o, u, h1, h2, hu⟩ := hl
  rcases hs ρ st with ⟨t, ks, e1, e2⟩ | hn
  · rw [e2] at h
    obtain ⟨items, hi, h⟩ := h
    obtain ⟨v, g1, g2⟩ := E.get i _ (by
      unfold getS at e1
      split at e1
      · rename_i d' h; cases e1; exact h
      · cases e1)
    rw [h1] at g1; cases g1
    have g2 : RepV X.K as ow H (.ref d) (.fd t ks) := by cases t <;> exact g2
    refine ⟨as, ow, ρ, st, t, ks, d, o, u, E, R, e1, h1, h2, hu, g2, items, hi, fun hlen J W => ?_⟩
    exact h [.ref d] as ow H (Pst.refl R) (.cons (by cases t <;> exact g2) .nil) hlen J ⟨_, fun q hq => by simp at hq; subst hq; exact ⟨h2, rfl⟩, W⟩
  · cases e : f ρ st with
    | ok ds st' =>
      rw [e] at h
      obtain ⟨items, hi, _⟩ := h
      rw [hn ds st' e] at hi; cases hi
    | top => exact (ht ρ st e).elim
    | bad => rw [e] at h; exact h.elim
    | err _ _ => rw [e] at h; exact h.elim
theorem pi_keysL {i : Nat} {f : Slots → Sto → CM.R (List CM.D)} {tg xa : Expr} (hx : PE X xa (tVar i)) (hs : SlotSrc .keys i f) (ht : ∀ ρ st, f ρ st ≠ .top) : PI X tg xa (fun σ H Rr => LkAt i σ H ∧ semI X.K cA .keys f σ H Rr) := by
  refine pi_mono (pi_keys (pe_bd hx)) fun σ H Rr h => ?_
  obtain ⟨as, ow, ρ, st, t, ks, d, o, u, E, R, e1, h1, h2, hu, g2, items, hi, go⟩ := slot_src hs ht h.2 h.1
  refine ⟨.ref d, h1, fun bd => ⟨d, o, rfl, ?_⟩⟩
  cases t with
  | false =>
    cases g2 with
    | fdk a n1 n2 r =>
      cases rd_frz h2 (.inl ⟨_, rfl⟩) a
      cases hi
      exact .inl ⟨_, h2, go (by rw [List.length_map, ← r.len]; exact sz_ok (bd.k _ _ (.inr ⟨o, h2⟩))) _ walk_keysK⟩
  | true =>
    cases g2 with
    | fdt a n1 n2 r =>
      cases rd_frz h2 (.inr ⟨_, rfl⟩) a
      cases hi
      exact .inr ⟨_, h2, go (by rw [List.length_map, ← r.len]; exact sz_ok (bd.d _ _ (.inr ⟨o, h2⟩))) _ walk_keysT⟩
theorem pi_itemsL {i : Nat} {f : Slots → Sto → CM.R (List CM.D)} {elts : List Expr} {kk : Nat} {tpos apos cpos : Pos} {xa : Expr} (hb : noCall0 xa = true) (hl : (apos.endLine == cpos.line) = true) (hx : PE X xa (tVar i)) (hs : SlotSrc .items i f) (ht : ∀ ρ st, f ρ st ≠ .top) :
    PI X (.Tuple elts kk tpos) (.Call (.Attribute xa "items" apos) [] [] cpos) (fun σ H Rr => LkAt i σ H ∧ semI X.K cA .items f σ H Rr) := by
  refine pi_mono (pi_items (pe_bd hx) (base_ok hb) hl) fun σ H Rr h => ?_
  obtain ⟨as, ow, ρ, st, t, ks, d, o, u, E, R, e1, h1, h2, hu, g2, items, hi, go⟩ := slot_src hs ht h.2 h.1
  cases t with
  | false =>
    cases g2 with
    | fdk a n1 n2 r =>
      cases rd_frz h2 (.inl ⟨_, rfl⟩) a
      cases hi
      exact ⟨.ref d, h1, fun bd => ⟨d, o, _, rfl, h2, go (by rw [List.length_map, ← r.len]; exact sz_ok (bd.k _ _ (.inr ⟨o, h2⟩))) _ walk_itemsK⟩⟩
  | true => cases hi
theorem pi_valsL {i : Nat} {f : Slots → Sto → CM.R (List CM.D)} {tg xa : Expr} {apos cpos : Pos} (hb : noCall0 xa = true) (hl : (apos.endLine == cpos.line) = true) (hx : PE X xa (tVar i)) (hs : SlotSrc .vals i f) (ht : ∀ ρ st, f ρ st ≠ .top) :
    PI X tg (.Call (.Attribute xa "values" apos) [] [] cpos) (fun σ H Rr => LkAt i σ H ∧ semI X.K cA .vals f σ H Rr) := by
  refine pi_mono (pi_values (pe_bd hx) (base_ok hb) hl) fun σ H Rr h => ?_
  obtain ⟨as, ow, ρ, st, t, ks, d, o, u, E, R, e1, h1, h2, hu, g2, items, hi, go⟩ := slot_src hs ht h.2 h.1
  cases t with
  | false =>
    cases g2 with
    | fdk a n1 n2 r =>
      cases rd_frz h2 (.inl ⟨_, rfl⟩) a
      cases hi
      exact ⟨.ref d, h1, fun bd => ⟨d, o, _, rfl, h2, go (by rw [List.length_map, ← r.len]; exact sz_ok (bd.k _ _ (.inr ⟨o, h2⟩))) _ walk_valsK⟩⟩
  | true => cases hi
/-! ### checked -/
def isLk : Ik → Bool
  | .keys => true
  | .items => true
  | .vals => true
  | _ => false
theorem items_fd {st : Sto} {k : Ik} {d : CM.D} (hk : isLk k = true) (h : ∀ t ks, d ≠ .fd t ks) : itemsOf st k [d] = none := by
  cases k <;> cases hk <;> cases d <;> first | rfl | exact absurd rfl (h _ _)
theorem srcB (C : Calls) {k : Ik} {i : Nat} (hk : isLk k = true) : SlotSrc k i fun ρ st => evBs C ρ [.var i] st := fun ρ st => by
  have e : evBs C ρ [.var i] st = (ofO st (getS ρ i)).bind fun d st => .ok [d] st := rfl
  dsimp only
  rw [e]
  cases hg : getS ρ i with
  | none => exact .inr fun ds st' z => by cases z
  | some d =>
    by_cases hz : ∃ t ks, d = .fd t ks
    · obtain ⟨t, ks, rfl⟩ := hz
      exact .inl ⟨t, ks, rfl, rfl⟩
    · refine .inr fun ds st' z => ?_
      cases z
      exact items_fd hk fun t ks e => hz ⟨t, ks, e⟩
theorem srcV (C : Calls) {k : Ik} {i : Nat} (hk : isLk k = true) : SlotSrc k i fun ρ st => evs C ρ [.var i] st := fun ρ st => by
  have e : evs C ρ [.var i] st = (ofO st ((getS ρ i).filter free)).bind fun d st => .ok [frz d] st := rfl
  dsimp only
  rw [e]
  cases hg : getS ρ i with
  | none => exact .inr fun ds st' z => by cases z
  | some d =>
    by_cases hz : ∃ t ks, d = .fd t ks
    · obtain ⟨t, ks, rfl⟩ := hz
      exact .inl ⟨t, ks, rfl, rfl⟩
    · refine .inr fun ds st' z => ?_
      have hf : ∀ t ks, frz d ≠ .fd t ks ∨ free d = false := fun t ks => by
        cases d with
        | fd a b => exact absurd ⟨_, _, rfl⟩ hz
        | od a b => exact .inr rfl
        | ol a => exact .inr rfl
        | _ => exact .inl (by simp [frz])
      cases hfr : free d with
      | false =>
        have : Option.filter free (some d) = none := by simp [Option.filter, hfr]
        rw [this] at z; cases z
      | true =>
        have : Option.filter free (some d) = some d := by simp [Option.filter, hfr]
        rw [this] at z
        cases z
        exact items_fd hk fun t ks e => (hf t ks).elim (fun z => z e) fun z => by rw [hfr] at z; cases z
theorem noTopB (C : Calls) (i : Nat) : ∀ ρ st, evBs C ρ [.var i] st ≠ .top := fun ρ st h => by
  have e : evBs C ρ [.var i] st = (ofO st (getS ρ i)).bind fun d st => .ok [d] st := rfl
  rw [e] at h
  cases hg : getS ρ i <;> rw [hg] at h <;> cases h
theorem noTopV (C : Calls) (i : Nat) : ∀ ρ st, evs C ρ [.var i] st ≠ .top := fun ρ st h => by
  have e : evs C ρ [.var i] st = (ofO st ((getS ρ i).filter free)).bind fun d st => .ok [frz d] st := rfl
  rw [e] at h
  cases hg : (getS ρ i).filter free <;> rw [hg] at h <;> cases h
/-- a walk over a dict in a slot -/
def chkL (c : Cs) (k : Ik) (tg : Expr) (src : List E) (x : Expr) : Option Nat := match k, src, x with
  | .keys, [.var i], .Name y _ => if decide (c.N[i]? = some y) && visB c.sc y && okNm y then some i else none
  | .items, [.var i], .Call (.Attribute (.Name y p) m apos) [] [] cpos => if decide (m = "items") && (apos.endLine == cpos.line) && decide (c.N[i]? = some y) && visB c.sc y && okNm y && isTup tg then some i else none
  | .vals, [.var i], .Call (.Attribute (.Name y p) m apos) [] [] cpos => if decide (m = "values") && (apos.endLine == cpos.line) && decide (c.N[i]? = some y) && visB c.sc y && okNm y then some i else none
  | _, _, _ => none
theorem pe_slot' {i : Nat} {x : Str} {pos : Pos} (Dc : Dy cA C c X) (hN : c.N[i]? = some x) (hv : visB c.sc x = true) (hx : okNm x = true) : PE X (.Name x pos) (tVar i) := by
  simp only [okNm, Bool.and_eq_true, Bool.not_eq_true'] at hx
  exact pe_var (i := i) (by rw [Dc.N]; exact hN) (by rw [Dc.sc]; exact vis_ok hv) hx.1 hx.2
theorem snd_lkB {k : Ik} {tg x : Expr} {src : List E} {i : Nat} (Dc : Dy cA C c X) (h : chkL c k tg src x = some i) : src = [.var i] ∧ isLk k = true ∧ PI X tg x (fun σ H Rr => LkAt i σ H ∧ semI X.K cA k (fun ρ st => evBs C ρ src st) σ H Rr) ∧
    PI X tg x (fun σ H Rr => LkAt i σ H ∧ semI X.K cA k (fun ρ st => evs C ρ src st) σ H Rr) := by
  unfold chkL at h
  split at h
  · split at h
    · rename_i ho
      simp only [Bool.and_eq_true, decide_eq_true_eq] at ho
      cases h
      have hx := pe_slot' (pos := ‹Pos›) Dc ho.1.1 ho.1.2 ho.2
      exact ⟨rfl, rfl, pi_keysL hx (srcB C rfl) (noTopB C _), pi_keysL hx (srcV C rfl) (noTopV C _)⟩
    · cases h
  · split at h
    · rename_i ho
      simp only [Bool.and_eq_true, decide_eq_true_eq] at ho
      cases h
      obtain ⟨⟨⟨⟨⟨h1, h2⟩, h3⟩, h4⟩, h5⟩, h6⟩ := ho
      subst h1
      unfold isTup at h6
      split at h6
      · exact ⟨rfl, rfl, pi_itemsL rfl h2 (pe_slot' Dc h3 h4 h5) (srcB C rfl) (noTopB C _), pi_itemsL rfl h2 (pe_slot' Dc h3 h4 h5) (srcV C rfl) (noTopV C _)⟩
      · cases h6
    · cases h
  · split at h
    · rename_i ho
      simp only [Bool.and_eq_true, decide_eq_true_eq] at ho
      cases h
      obtain ⟨⟨⟨⟨h1, h2⟩, h3⟩, h4⟩, h5⟩ := ho
      subst h1
      exact ⟨rfl, rfl, pi_valsL rfl h2 (pe_slot' Dc h3 h4 h5) (srcB C rfl) (noTopB C _), pi_valsL rfl h2 (pe_slot' Dc h3 h4 h5) (srcV C rfl) (noTopV C _)⟩
    · cases h
  · cases h
theorem comp_bad {elt : E} {tg : Tg} {k : Ik} {ifs : List E} {i : Nat} {ρ : Slots} {st : Sto} (hk : isLk k = true) (hn : ∀ t ks, getS ρ i ≠ some (.fd t ks)) : ev C ρ (.comp elt tg k [.var i] ifs) st = .bad := by
  show ((ofO st (getS ρ i)).bind fun d st => R.ok [d] st).bind (fun ds st0 => match itemsOf st0 k ds with
    | some items => if 16777216 < items.length then R.top else (compGo (fun x st => match asgT tg x (wipeS ρ tg.slots) with
      | some ρ1 => (evTs C ρ1 ifs st).bind fun b st => if b then (ev C ρ1 elt st).bind fun d st1 => if still st0 st1 ds then R.ok (some (frz d)) st1 else .bad else if still st0 st ds then .ok none st else .bad
      | none => .bad) items st0).bind fun xs st => .ok (CM.D.ol xs) st
    | none => .bad) = .bad
  cases hg : getS ρ i with
  | none => rfl
  | some d =>
    show (match itemsOf st k [d] with
      | some items => _
      | none => R.bad) = .bad
    rw [items_fd hk fun t ks e => hn t ks (by rw [hg, e])]
/-- a comprehension over a dict -/
theorem snd_compK {elt : E} {tg : Tg} {k : Ik} {src ifs : List E} {i : Nat} {xe xt xi : Expr} {xifs : List Expr} {scope : Scope} {pos : Pos} (Dc : Dy cA C c X) (hok : blkC c.N c.sc scope (ownOf c tg) = true) (htg : chkTg (c.blk scope) tg xt = true) (hhd : okHead xi = true)
    (hi : chkL c k xt src xi = some i) (ht : ∀ X, Dy cA C (c.blk scope) X → PTs X xifs (semTs X.K cA fun ρ st => evTs C ρ ifs st)) (he : ∀ X, Dy cA C (c.blk scope) X → ValE cA C X elt xe) :
    ValE cA C X (.comp elt tg k src ifs) (.ListComp xe [⟨xt, xi, xifs, 0⟩] scope pos) := by
  obtain ⟨hsrc, hk, h1, _⟩ := snd_lkB Dc hi
  refine pe_lockS (i := i) (snd_compL (LkAt i) Dc hok htg hhd h1 ht he) fun ρ st hn => ?_
  subst hsrc
  exact comp_bad hk hn
end
end CM
end
section
set_option linter.all false
set_option maxRecDepth 100000
set_option maxHeartbeats 4000000
set_option maxHeartbeats 4000000
/-! A list, a dict in one hand goes into the store. -/
namespace CM
open PySem PySem.Spec PyProof.Rows L2
section
variable {K : PySem.W.Frag} {cA : ClA} {as as' : List Addr} {ow ow' : Addr → Prop} {H H' : Hp} {st st' : Sto}
theorem box_go {q : Addr} {x : Cell} {o : HO} (p : Pst K cA as ow H as' ow' H' st') (hq : ow' q) (hn : ¬ ow q) (ho : H' q = some o) (m : isMut o = true) (mk : ∀ as2 ow2, Car as' ow' H' as2 ow2 H' → RepC K cA as2 ow2 H' q x) :
    Pst K cA as ow H (as' ++ [q]) (fun z => ow' z ∧ z ≠ q) H' (st' ++ [x]) ∧ RepV K (as' ++ [q]) (fun z => ow' z ∧ z ≠ q) H' (.ref q) (.ref st'.length) := by
  have R := p.rel
  have nq : q ∉ as' := R.owNot hq
  have c : Car as' ow' H' (as' ++ [q]) (fun z => ow' z ∧ z ≠ q) H' := ⟨List.prefix_append _ _, fun _ _ h => h, fun _ _ _ h => h, fun z o' e n1 n2 => ⟨e, fun y => (List.mem_append.mp y).elim n1 fun y => by simp at y; subst y; exact n2 hq, fun y => n2 y.1⟩⟩
  refine ⟨⟨p.pre.trans (List.prefix_append _ _), fun z hz => ⟨p.pw z hz, fun e => hn (e ▸ hz)⟩, fun z o' e n => ?_, ?_⟩, .ref ?_⟩
  · obtain ⟨a, b, f⟩ := p.keep z o' e n
    refine ⟨a, fun y => (List.mem_append.mp y).elim b fun y => ?_, fun y => f y.1⟩
    simp at y; subst y; exact hn (f hq)
  · refine ⟨by simp [R.len], ?_, fun a ha y => ?_, fun a ha => ?_, fun a ha => R.mto a ha.1, fun n y a e1 e2 => ?_⟩
    · rw [List.nodup_append]
      exact ⟨R.nd, by simp, fun a ha b hb => by simp at hb; subst hb; exact fun z => nq (z ▸ ha)⟩
    · rcases List.mem_append.mp y with y | y
      · exact R.dis a ha.1 y
      · simp at y; exact ha.2 y
    · rcases List.mem_append.mp ha with ha | ha
      · exact R.mta a ha
      · simp at ha; subst ha; exact ⟨o, ho, m⟩
    · by_cases hl : n < st'.length
      · rw [List.getElem?_append_left hl] at e1
        rw [List.getElem?_append_left (by rw [R.len]; exact hl)] at e2
        exact (R.cell n y a e1 e2).car c rfl
      · have hn2 : n = st'.length := by
          have := (List.getElem?_eq_some_iff.mp e1).1
          rw [List.length_append] at this
          simp at this; omega
        subst hn2
        rw [List.getElem?_append_right (Nat.le_refl _), Nat.sub_self] at e1
        rw [← R.len, List.getElem?_append_right (Nat.le_refl _), Nat.sub_self] at e2
        simp at e1 e2
        subst e1; subst e2
        exact mk _ _ c
  · rw [← R.len, List.getElem?_append_right (Nat.le_refl _), Nat.sub_self]; rfl
end
section
variable {cA : ClA} {C : Calls} {c : Cs} {X : Cx}
theorem snd_box {e : E} {x : Expr} (he : ValE cA C X e x) : ValE cA C X (.box e) x := by
  refine pe_imp he fun σ H Q h => ?_
  obtain ⟨as, ow, ρ, st, E, R, h⟩ := h
  refine ⟨as, ow, ρ, st, E, R, ?_⟩
  have h : PostE X.K cA as ow H ((ev C ρ e st).bind fun d st => box d st) Q := h
  refine post_bind (P := fun r => PostE X.K cA as ow H r Q) id (fun _ _ => id) h trivial fun d st1 v as1 ow1 H1 p r f h1 => ?_
  cases d with
  | ol xs =>
    obtain ⟨q, vs, rfl, hq, ho, rv⟩ := r
    have h1 : Out X.K cA as ow H (st1 ++ [.lst xs]) (.ref st1.length) Q := h1
    obtain ⟨p2, r2⟩ := box_go (x := .lst xs) p hq (f rfl q rfl) ho rfl fun as2 ow2 c => ⟨vs, ho, rv.car c⟩
    exact h1 _ _ _ _ p2 r2 fun z => by cases z
  | od t ks =>
    have h1 : Out X.K cA as ow H (st1 ++ [.dct t ks]) (.ref st1.length) Q := h1
    cases t with
    | false =>
      obtain ⟨q, vs, rfl, hq, ho, rv⟩ := r
      obtain ⟨p2, r2⟩ := box_go (x := .dct false ks) p hq (f rfl q rfl) ho rfl fun as2 ow2 c => ⟨vs, ho, rv.car c⟩
      exact h1 _ _ _ _ p2 r2 fun z => by cases z
    | true =>
      obtain ⟨q, vs, rfl, hq, ho, rv⟩ := r
      obtain ⟨p2, r2⟩ := box_go (x := .dct true ks) p hq (f rfl q rfl) ho rfl fun as2 ow2 c => ⟨vs, ho, rv.car c⟩
      exact h1 _ _ _ _ p2 r2 fun z => by cases z
  | _ => exact h1.elim
end
end CM
end
section
set_option linter.all false
set_option maxRecDepth 100000
set_option maxHeartbeats 4000000
/-! sorted(xs). -/
namespace CM
open PySem PySem.Spec PyProof.Rows L2
section
variable {cA : ClA} {C : Calls} {c : Cs} {X : Cx}
theorem snd_sorted (hu : X.A.units + 65 < cLine) : CallR X (.builtin "sorted") (rB X.K cA .sorted) := by
  intro pins s σ H vs us Q I r h
  obtain ⟨as, ow, st, ds, dres, R, rx, e, out⟩ := h
  match ds, e, rx with
  | [], e, _ => simp [biS] at e
  | _ :: _ :: _, e, _ => simp [biS] at e
  | [d], e, rx =>
    obtain ⟨v, rfl, rv⟩ := rx1 rx
    obtain ⟨u, rfl, ru⟩ := vals1 r
    have e : ((lsOf st d).bind fun xs => sortK (xs.map fun x => (x, x))).map (fun ps => CM.D.ol (ps.map (·.2))) = some dres := e
    cases hl : lsOf st d with
    | none => rw [hl] at e; cases e
    | some xs =>
      rw [hl] at e
      have e : (sortK (xs.map fun x => (x, x))).map (fun ps => CM.D.ol (ps.map (·.2))) = some dres := e
      have fst : (xs.map fun x => (x, x)).map (·.1) = xs := by rw [List.map_map]; exact List.map_id _
      unfold sortK at e
      rw [fst] at e
      by_cases hk : sameK xs = true
      · rw [if_pos hk] at e
        cases e
        obtain ⟨p, vsV, rfl, hp, rvs⟩ := ls_rd R rv hl
        obtain ⟨its, rvv, pl, hz⟩ := I.list hp
        cases ru
        have zall : ∃ z, ∀ k ∈ xs, shp k = some z := by
          rcases SK.sameK_all hk with rfl | ⟨z, hz⟩
          · exact ⟨(true, []), fun k hk => by cases hk⟩
          · exact ⟨z, hz⟩
        obtain ⟨z, hz'⟩ := zall
        have hl1 := rvv.length
        have hl2 := rvs.length
        have hreads : PySem.W.EachIs (fun (v : Value) (p : CM.D × CM.D) => ∃ as, Reads s.heap v (pyD p.1) as) its (xs.map fun x => (x, x)) := by
          have key : ∀ {ws : List V} {us : List Value} {ds : List CM.D}, Vals ws us → RepVs X.K as ow H ws ds → (∀ k ∈ ds, shp k = some z) → PySem.W.EachIs (fun (v : Value) (p : CM.D × CM.D) => ∃ as, Reads s.heap v (pyD p.1) as) us (ds.map fun x => (x, x)) := by
            intro ws us ds q
            induction q generalizing ds with
            | nil => intro r _; cases r; exact .nil
            | cons a _ ih =>
              intro r hh
              cases r with
              | cons b r => exact .cons (SK.reads_key I.hok (hh _ (by simp)) (rxs_of b) a) (ih r fun k hk => hh k (by simp [hk]))
          exact key rvv rvs hz'
        have hitems : PySem.W.EachIs (fun v (p : CM.D × CM.D) => ∃ vV, RelV vV v ∧ RepV X.K as ow H vV p.2) its (xs.map fun x => (x, x)) := by
          have key : ∀ {ws : List V} {us : List Value} {ds : List CM.D}, Vals ws us → RepVs X.K as ow H ws ds → PySem.W.EachIs (fun v (p : CM.D × CM.D) => ∃ vV, RelV vV v ∧ RepV X.K as ow H vV p.2) us (ds.map fun x => (x, x)) := by
            intro ws us ds q
            induction q generalizing ds with
            | nil => intro r; cases r; exact .nil
            | cons a _ ih =>
              intro r
              cases r with
              | cons b r => exact .cons ⟨_, a, b⟩ (ih r)
          exact key rvv rvs
        have e3 : (xs.map fun x => (x, x)).map (fun p : CM.D × CM.D => pyD p.1) = xs.map pyD := by rw [List.map_map]; rfl
        refine PySem.W.sorted_data (enc := fun p : CM.D × CM.D => pyD p.1) pl.isList hitems hreads (by rw [e3]; exact SK.allAlike hz') (by rw [e3]; exact SK.sortable hz') (by rw [List.length_map]; omega) (fun b hb => ?_) fun o ho heach => ?_
        · obtain ⟨x, hx, rfl⟩ := List.mem_map.mp hb
          have := SK.shp_depth (hz' x hx)
          show X.A.units + 2 + (pyD x).depth < _
          omega
        · rw [← SK.sortP_eq (z := z) (fun p hp => by
            obtain ⟨x, hx, rfl⟩ := List.mem_map.mp hp
            exact hz' x hx)] at heach
          obtain ⟨outV, ho1, ho2⟩ : ∃ outV, Vals outV o ∧ RepVs X.K as ow H outV ((sortP (xs.map fun x => (x, x))).map (·.2)) := by
            clear ho
            generalize sortP (xs.map fun x => (x, x)) = ps at heach
            induction heach with
            | nil => exact ⟨[], .nil, .nil⟩
            | cons a _ ih =>
              obtain ⟨w, q1, q2⟩ := a
              obtain ⟨ws, q3, q4⟩ := ih
              exact ⟨w :: ws, .cons q1 q3, .cons q2 q4⟩
          obtain ⟨ec, hat⟩ := sortedAll_at s.heap its o.toArray
          have lo : outV.length ≤ sizeLine := by
            have := ho1.length
            rw [List.length_map] at ho
            omega
          have Hn := I.hok.fresh (Nat.le_succ s.heap.objs.size)
          exact ⟨.ref (s.heap.objs.size + 1), _, I.laid (t' := s.toks) (fun b o e => sortedAll_old e) (Nat.le_succ _) (show ObjOk X.prog X.w _ _ _ (.lst outV) from ⟨lo, o, ec, ho1, hat⟩), rfl, out.newL R ho2 Hn⟩
      · rw [if_neg hk] at e; cases e
end
end CM
end
section
set_option linter.all false
set_option maxRecDepth 100000
set_option maxHeartbeats 4000000
/-! sorted(d, key=f), d a dict. -/
namespace CM
open PySem PySem.Spec PyProof.Rows L2
/-- a sort by keys, f asked of each, from the copy at a on -/
def RunAt (prog : Program) (w : World) (A : Around) (f : Value) (s : Shared) (vs : List Value) (hb : Heap) (tk0 : Nat) (a k : Addr) (W : (Value → Shared → Prop) → Prop) : Prop :=
  ∀ (Q : Value → Shared → Prop) (J : Nat → List Value → Shared → Prop) (at_ : ∀ i ks s', J i ks s' → ks.length = i ∧ (∃ e1, hb.get? a = some (seqObj "list" #[] e1) ∧ s'.heap.get? a = some (seqObj "list" #[] e1)) ∧ ∃ e, s'.heap.get? k = some (seqObj "list" ks.toArray e))
    (hJ0 : J 0 [] { s with heap := hb, toks := tk0 })
    (turn : ∀ i ks s' v, J i ks s' → vs[i]? = some v → wpAny (model prog w) A.in1.in1 (call f [v]) (fun u s2 => (∃ e, s2.heap.get? k = some (seqObj "list" ks.toArray e)) ∧
      ∀ g, Heap.SameBut k s2.heap g → (∃ e, g.get? k = some (seqObj "list" (ks ++ [u]).toArray e)) → J (i + 1) (ks ++ [u]) { s2 with heap := g }) (fun _ _ => False) s')
    (fin : ∀ ks s', J vs.length ks s' → ∃ κ, PySem.W.SortsAt prog w A.in1.in1 s' κ ks ∧ ∀ g tk c, (∀ b o, b ≠ a → b ≠ k → s'.heap.get? b = some o → g.get? b = some o) → g.get? a = some (seqObj "list" (PySem.W.sortVals κ false ks vs).toArray c) →
      Q (.ref a) { s' with heap := g, toks := tk }), W Q
theorem sort_keyG {cA : ClA} {X : Cx} {F : Fn} {fa : Addr} {pins : List (Addr × Obj)} {σ : L2.St} {H : Hp} {s : Shared} {Q : VK} {as : List Addr} {ow : Addr → Prop} {st : Sto} {xs : List D} {vsV : List V} {its : List Value} {hb : Heap} {tk0 : Nat} {aA kK : Addr} {e1 : Nat} {W : (Value → Shared → Prop) → Prop}
    (hu : X.A.units + 65 < cLine) (hS : SKey cA X.prog X.w X.K X.mg X.base X.A.in1.in1 (.ref fa) F) (hrun : RunAt X.prog X.w X.A (.ref fa) s its hb tk0 aA kK W) (he1 : hb.get? aA = some (seqObj "list" #[] e1)) (hk0 : hb.get? kK = some (seqObj "list" #[] 0)) (old : ∀ b o, s.heap.get? b = some o → hb.get? b = some o) (ltA : s.heap.objs.size ≤ aA) (ltK : s.heap.objs.size ≤ kK) (neK : kK ≠ aA)
    (I : Inv X pins σ H s) (R : Rel X.K cA as ow H st) (rvv : Vals vsV its) (rv : RepVs X.K as ow H vsV xs)  (hz : vsV.length ≤ sizeLine)
    (h : PostE X.K cA as ow H ((keysGo (fun d st => F [d] st) xs st).bind fun ps st => ofO st ((sortK ps).map fun qs => .ol (qs.map (·.2)))) Q) :
    W (EP X pins σ Q) := by
  have hlen1 := rvv.length
  have hlen2 := rv.length
  have I0 : Inv (SK.X2 X) pins σ H { s with heap := hb, toks := tk0 } := SK.inv2 (I.kept (t' := tk0) old)
  have Ha : H (aA) = none := I.hok.fresh (ltA)
  have Hk : H (kK) = none := I.hok.fresh (ltK)
  have la : aA ≠ X.env.locals := Nat.ne_of_gt (Nat.lt_of_lt_of_le I.lt (ltA))
  have lk : kK ≠ X.env.locals := Nat.ne_of_gt (Nat.lt_of_lt_of_le I.lt (ltK))
  have fa' : aA ∉ X.fs := I.nofs (ltA)
  have fk : kK ∉ X.fs := I.nofs (ltK)
  have fpA : FpOk X pins (fun _ => none) (aA) := I.fpOk (ltA) rfl
  have fpK : FpOk X pins (fun _ => none) (kK) := I.fpOk (ltK) rfl
  let P2 : List Value → Nat → List (Addr × Obj) := fun ks e => pins ++ [(aA, seqObj "list" #[] e1), (kK, seqObj "list" ks.toArray e)]
  let J : Nat → List Value → Shared → Prop := fun i ks s' => ks.length = i ∧ ∃ e H' as' ow' st' zs kvs, Inv (SK.X2 X) (P2 ks e) σ H' s' ∧ Pst X.K cA as ow H as' ow' H' st' ∧ Vals kvs ks ∧ RepXs X.K as' ow' H' kvs zs ∧ zs.length = i ∧
    PostE X.K cA as ow H ((keysGo (fun d st => F [d] st) (xs.drop i) st').bind fun ps st => ofO st ((sortK (zs.zip (xs.take i) ++ ps)).map fun qs => .ol (qs.map (·.2)))) Q
  have pinA : ∀ {ks e H' s'}, Inv (SK.X2 X) (P2 ks e) σ H' s' → s'.heap.get? (aA) = some (seqObj "list" #[] e1) ∧ H' (aA) = none := fun {ks e H' s'} I' => by
    have := I'.pin (aA, seqObj "list" #[] e1) (List.mem_append_right _ (List.mem_append_right _ (by simp)))
    exact ⟨this.1, this.2.1⟩
  have pinK : ∀ {ks e H' s'}, Inv (SK.X2 X) (P2 ks e) σ H' s' → s'.heap.get? (kK) = some (seqObj "list" ks.toArray e) ∧ H' (kK) = none := fun {ks e H' s'} I' => by
    have := I'.pin (kK, seqObj "list" ks.toArray e) (List.mem_append_right _ (List.mem_append_right _ (by simp)))
    exact ⟨this.1, this.2.1⟩
  have unpin : ∀ {ks e H' s'}, Inv (SK.X2 X) (P2 ks e) σ H' s' → Inv (SK.X2 X) pins σ H' s' := fun {ks e H' s'} I' =>
    I'.pins_of fun p hp => I'.pin p (List.mem_append_right _ (List.mem_append_left _ hp))
  have fpX : ∀ {H' : Hp} {b : Addr}, FpOk X pins (fun _ => none) b → H' b = none → FpOk (SK.X2 X) pins H' b := fun {H' b} q n => ⟨n, q.2⟩
  have repin : ∀ {ks e H' s'}, Inv (SK.X2 X) pins σ H' s' → s'.heap.get? (aA) = some (seqObj "list" #[] e1) → H' (aA) = none → s'.heap.get? (kK) = some (seqObj "list" ks e) → H' (kK) = none → Inv (SK.X2 X) (pins ++ [(aA, seqObj "list" #[] e1), (kK, seqObj "list" ks e)]) σ H' s' := fun {ks e H' s'} I' a1 a2 k1 k2 =>
    I'.pins_of fun p hp => by
      rcases List.mem_append.mp hp with hp | hp
      · exact I'.pin p (List.mem_append_right _ hp)
      · rcases List.mem_cons.mp hp with hp | hp
        · subst hp; exact ⟨a1, a2, la, fa', fun v z => by cases z⟩
        · rcases List.mem_singleton.mp hp with rfl
          exact ⟨k1, k2, lk, fk, fun v z => by cases z⟩
  refine hrun _ J (fun i ks s' hJ => ?_) ?_ (fun i ks s' v hJ hv => ?_) fun ks s' hJ => ?_
  · obtain ⟨l1, e, H', as', ow', st', zs, kvs, I', _⟩ := hJ
    exact ⟨l1, ⟨e1, he1, (pinA I').1⟩, e, (pinK I').1⟩
  · exact ⟨rfl, 0, H, as, ow, st, [], [], repin I0 he1 Ha hk0 Hk, Pst.refl R, .nil, .nil, rfl, by simpa using h⟩
  · obtain ⟨l1, e, H', as', ow', st', zs, kvs, I', P', vk, rk, lz, hp'⟩ := hJ
    have hi : i < xs.length := by have := (List.getElem?_eq_some_iff.mp hv).1; omega
    obtain ⟨vV, hvV, rvV⟩ : ∃ vV, vsV[i]? = some vV ∧ RelV vV v := by
      have key : ∀ {ws : List V} {us : List Value} {i : Nat} {v : Value}, Vals ws us → us[i]? = some v → ∃ w, ws[i]? = some w ∧ RelV w v := by
        intro ws us i v q
        induction q generalizing i with
        | nil => intro z; simp at z
        | cons a r ih =>
          intro z
          cases i with
          | zero => simp at z; subst z; exact ⟨_, rfl, a⟩
          | succ i => exact ih (by simpa using z)
      exact key rvv hv
    obtain ⟨dd, hd, rd⟩ := rv.getV hvV
    have hd' : xs.drop i = dd :: xs.drop (i + 1) := by
      obtain ⟨q1, q2⟩ := List.getElem?_eq_some_iff.mp hd
      rw [List.drop_eq_getElem_cons q1, q2]
    rw [hd'] at hp'
    have ht : xs.take (i + 1) = xs.take i ++ [dd] := by rw [List.take_add_one, hd]; rfl
    have hp' : PostE X.K cA as ow H (((F [dd] st').bind fun k st1 => (keysGo (fun d st => F [d] st) (xs.drop (i + 1)) st1).bind fun ds st2 => .ok ((k, dd) :: ds) st2).bind fun ps st => ofO st ((sortK (zs.zip (xs.take i) ++ ps)).map fun qs => .ol (qs.map (·.2)))) Q := hp'
    have rd' : RepV X.K as' ow' H' vV dd := rd.car (P'.car R)
    -- what comes of the call
    have fin : ∀ (Q' : VK) (u2 : Value) (s2 : Shared), (∀ v2 H2, Q' v2 H2 → ∃ as2 ow2 z st1, Pst X.K cA as' ow' H' as2 ow2 H2 st1 ∧ RepX X.K as2 ow2 H2 v2 z ∧
        PostE X.K cA as ow H ((keysGo (fun d st => F [d] st) (xs.drop (i + 1)) st1).bind fun ps st => ofO st ((sortK ((zs ++ [z]).zip (xs.take (i + 1)) ++ ps)).map fun qs => .ol (qs.map (·.2)))) Q) →
        EP (SK.X2 X) (P2 ks e) σ Q' u2 s2 → (∃ e, s2.heap.get? (kK) = some (seqObj "list" ks.toArray e)) ∧
          ∀ g, Heap.SameBut (kK) s2.heap g → (∃ e, g.get? (kK) = some (seqObj "list" (ks ++ [u2]).toArray e)) → J (i + 1) (ks ++ [u2]) { s2 with heap := g } := by
      intro Q' u2 s2 hQ ⟨v2, H2, I2, r2, q2⟩
      obtain ⟨as2, ow2, z, st1, p2, rz, hp2⟩ := hQ v2 H2 q2
      refine ⟨⟨e, (pinK I2).1⟩, fun g hs ⟨e', he'⟩ => ⟨by simp [l1], e', H2, as2, ow2, st1, zs ++ [z], kvs ++ [v2], ?_, P'.trans p2, ?_, ?_, by simp [lz], hp2⟩⟩
      · have I3 := (unpin I2).turnedL (h' := g) (t' := s2.toks) (ch := [kK]) (fun b o n ho => (hs.2 b (fun z => n (by simp [z]))).trans ho) (fun b hb => by
          rcases List.mem_singleton.mp hb with rfl
          exact fpX fpK (pinK I2).2)
        exact repin I3 ((hs.2 _ (Ne.symm (neK))).trans (pinA I2).1) (pinA I2).2 he' (pinK I2).2
      · exact vk.append (.cons r2 .nil)
      · have rk2 := rk.pst P'.rel p2
        have key : ∀ {ws : List V} {ds : List CM.D}, RepXs X.K as2 ow2 H2 ws ds → RepXs X.K as2 ow2 H2 (ws ++ [v2]) (ds ++ [z]) := by
          intro ws ds q
          induction q with
          | nil => exact .cons rz .nil
          | cons a _ ih => exact .cons a ih
        exact key rk2
    cases eF : F [dd] st' with
    | ok z st1 =>
      rw [eF] at hp'
      have zip_e : (zs ++ [z]).zip (xs.take (i + 1)) = zs.zip (xs.take i) ++ [(z, dd)] := by
        rw [ht, List.zip_append (by rw [lz, List.length_take]; omega)]
        rfl
      have hp2 : PostE X.K cA as ow H ((keysGo (fun d st => F [d] st) (xs.drop (i + 1)) st1).bind fun ps st => ofO st ((sortK ((zs ++ [z]).zip (xs.take (i + 1)) ++ ps)).map fun qs => .ol (qs.map (·.2)))) Q := by
        rw [zip_e]
        have hp' : PostE X.K cA as ow H (((keysGo (fun d st => F [d] st) (xs.drop (i + 1)) st1).bind fun ds st2 => .ok ((z, dd) :: ds) st2).bind fun ps st => ofO st ((sortK (zs.zip (xs.take i) ++ ps)).map fun qs => .ol (qs.map (·.2)))) Q := hp'
        cases eg : keysGo (fun d st => F [d] st) (xs.drop (i + 1)) st1 with
        | ok ps st2 =>
          rw [eg] at hp'
          show PostE X.K cA as ow H (ofO st2 ((sortK (zs.zip (xs.take i) ++ [(z, dd)] ++ ps)).map fun qs => .ol (qs.map (·.2)))) Q
          rw [List.append_assoc]
          exact hp'
        | top => trivial
        | bad => rw [eg] at hp'; exact hp'.elim
        | err _ _ => rw [eg] at hp'; exact hp'.elim
      have Q' : VK := fun v2 H2 => ∃ as2 ow2, Pst X.K cA as' ow' H' as2 ow2 H2 st1 ∧ RepX X.K as2 ow2 H2 v2 z
      refine wpAny_mono (hS (SK.X2 X) rfl rfl rfl rfl rfl rfl (P2 ks e) s' σ H' (fun v2 H2 => ∃ as2 ow2, Pst X.K cA as' ow' H' as2 ow2 H2 st1 ∧ RepX X.K as2 ow2 H2 v2 z) [v] [vV] I' (.cons rvV .nil) ⟨as', ow', st', [dd], P'.rel, .cons rd' .nil, ?_⟩) (fun u2 s2 q => fin _ u2 s2 (fun v2 H2 ⟨as2, ow2, p2, rz⟩ => ⟨as2, ow2, z, st1, p2, rz, hp2⟩) q) fun _ _ q => q
      rw [eF]
      exact fun v2 as2 ow2 H2 p2 rz _ => ⟨as2, ow2, p2, rz⟩
    | top =>
      refine wpAny_mono (hS (SK.X2 X) rfl rfl rfl rfl rfl rfl (P2 ks e) s' σ H' (fun _ _ => False) [v] [vV] I' (.cons rvV .nil) ⟨as', ow', st', [dd], P'.rel, .cons rd' .nil, ?_⟩) (fun u2 s2 ⟨_, _, _, _, q⟩ => q.elim) fun _ _ q => q
      rw [eF]; trivial
    | bad => rw [eF] at hp'; exact hp'.elim
    | err _ _ => rw [eF] at hp'; exact hp'.elim
  · obtain ⟨l1, e, H', as', ow', st', zs, kvs, I', P', vk, rk, lz, hp'⟩ := hJ
    have lx : its.length = xs.length := by omega
    rw [lx] at lz
    rw [lx, List.drop_length, List.take_length] at hp'
    have hp' : PostE X.K cA as ow H (ofO st' ((sortK (zs.zip xs ++ [])).map fun qs => .ol (qs.map (·.2)))) Q := hp'
    rw [List.append_nil] at hp'
    have fst : (zs.zip xs).map (·.1) = zs := by
      rw [List.map_fst_zip]; omega
    unfold sortK at hp'
    rw [fst] at hp'
    by_cases hk : sameK zs = true
    · rw [if_pos hk] at hp'
      have out : Out X.K cA as ow H st' (.ol ((sortP (zs.zip xs)).map (·.2))) Q := hp'
      have zall : ∃ z, ∀ k ∈ zs, shp k = some z := by
        rcases SK.sameK_all hk with rfl | ⟨z, hz⟩
        · exact ⟨(true, []), fun k hk => by cases hk⟩
        · exact ⟨z, hz⟩
      obtain ⟨z, hz'⟩ := zall
      have hreads : PySem.W.EachIs (fun v d => ∃ as, Reads s'.heap v d as) ks (zs.map pyD) := by
        have key : ∀ {ws : List V} {us : List Value} {ds : List CM.D}, Vals ws us → RepXs X.K as' ow' H' ws ds → (∀ k ∈ ds, shp k = some z) → PySem.W.EachIs (fun v d => ∃ as, Reads s'.heap v d as) us (ds.map pyD) := by
          intro ws us ds q
          induction q generalizing ds with
          | nil => intro r _; cases r; exact .nil
          | cons a _ ih =>
            intro r hh
            cases r with
            | cons b r => exact .cons (SK.reads_key I'.hok (hh _ (by simp)) b a) (ih r fun k hk => hh k (by simp [hk]))
        exact key vk rk hz'
      refine ⟨PySem.W.dataKind s'.heap (zs.map pyD), PySem.W.SortsAt.data (s := s') hreads (SK.allAlike hz') (SK.sortable hz') (fun d hd => ?_), fun g tk c kp hg => ?_⟩
      · obtain ⟨k, hkm, rfl⟩ := List.mem_map.mp hd
        have := SK.shp_depth (hz' k hkm)
        show X.A.units + 1 + 1 + _ < _
        omega
      · have hitems : PySem.W.EachIs (fun v p => ∃ vV, RelV vV v ∧ RepV X.K as' ow' H' vV p.2) its (zs.zip xs) := by
          have key : ∀ {ws : List V} {us : List Value} {ds zz : List CM.D}, Vals ws us → RepVs X.K as ow H ws ds → zz.length = ds.length → PySem.W.EachIs (fun v p => ∃ vV, RelV vV v ∧ RepV X.K as' ow' H' vV p.2) us (zz.zip ds) := by
            intro ws us ds zz q
            induction q generalizing ds zz with
            | nil =>
              intro r hl
              cases r
              cases zz with
              | nil => exact .nil
              | cons _ _ => cases hl
            | cons a _ ih =>
              intro r hl
              cases r with
              | cons b r =>
                cases zz with
                | nil => cases hl
                | cons y zz => exact .cons ⟨_, a, b.car (P'.car R)⟩ (ih r (by simpa using hl))
          exact key rvv rv lz
        have keyd : PySem.W.KeyedOut false ((zs.zip xs).map fun p : CM.D × CM.D => pyD p.1) its (PySem.W.sortVals (PySem.W.dataKind s'.heap (zs.map pyD)) false ks its) := by
          have e3 : (zs.zip xs).map (fun p : CM.D × CM.D => pyD p.1) = zs.map pyD := by
            rw [show (fun p : CM.D × CM.D => pyD p.1) = pyD ∘ (·.1) from rfl, ← List.map_map, fst]
          rw [e3]
          exact ⟨s'.heap, ks, SK.allAlike hz', rfl, hreads⟩
        have hout := PySem.W.keyedOut_each (fun p : CM.D × CM.D => pyD p.1) keyd hitems
        rw [← SK.sortP_eq (z := z) (fun p hp => hz' p.1 (by
          have := List.mem_map_of_mem (f := (·.1)) hp
          rw [fst] at this
          exact this))] at hout
        obtain ⟨outV, ho1, ho2⟩ : ∃ outV, Vals outV (PySem.W.sortVals (PySem.W.dataKind s'.heap (zs.map pyD)) false ks its) ∧ RepVs X.K as' ow' H' outV ((sortP (zs.zip xs)).map (·.2)) := by
          generalize PySem.W.sortVals (PySem.W.dataKind s'.heap (zs.map pyD)) false ks its = o at hout
          generalize sortP (zs.zip xs) = ps at hout
          induction hout with
          | nil => exact ⟨[], .nil, .nil⟩
          | cons a _ ih =>
            obtain ⟨w, q1, q2⟩ := a
            obtain ⟨ws, q3, q4⟩ := ih
            exact ⟨w :: ws, .cons q1 q3, .cons q2 q4⟩
        have I3 := SK.inv2b I.ok (unpin I')
        have Hna := (pinA I').2
        have Hnk := (pinK I').2
        have lout : outV.length ≤ sizeLine := by
          have q1 := ho2.length
          rw [List.length_map] at q1
          have q2 : (sortP (zs.zip xs)).length = (zs.zip xs).length := by
            rw [SK.sortP_eq (z := z) (fun p hp => hz' p.1 (by
              have := List.mem_map_of_mem (f := (·.1)) hp
              rw [fst] at this
              exact this)), List.length_mergeSort]
          rw [List.length_zip, lz, Nat.min_self] at q2
          omega
        have ch : ∀ b ∈ [aA, kK], FpOk X pins H' b := fun b hb => by
          rcases List.mem_cons.mp hb with rfl | hb
          · exact ⟨Hna, fpA.2⟩
          · rcases List.mem_singleton.mp hb with rfl
            exact ⟨Hnk, fpK.2⟩
        have kp' : ∀ b o, b ∉ [aA, kK] → s'.heap.get? b = some o → g.get? b = some o := fun b o n ho => kp b o (fun z => n (by simp [z])) (fun z => n (by simp [z])) ho
        have nit : ∀ b u, H' b = some u → b ∉ [aA, kK] := fun b u e z => by
          have q := (ch b z).1
          rw [q] at e; cases e
        have I4 : Inv X pins σ (upd H' (aA) (.lst outV)) { s' with heap := g, toks := tk } := by
          refine I3.step (g' := s'.gens) (d' := s'.drawn) (t' := tk) (ch := [aA, kK]) (fun b hb => let q := ch b hb; ⟨q.2.2.2.1, q.2.1, q.2.2.2.2.1, q.2.2.2.2.2⟩) (fun b o _ _ hc e _ => kp' b o hc e) (fun b o _ _ hc e _ => ⟨o.slots, kp' b o hc e⟩)
            (fun b o hc e n => by rw [upd_ne (fun z => hc (by simp [z]))]; exact n) (fun b o hc e => ⟨o, kp' b o hc e⟩) (fun b xs e => by rw [upd_ne (ne_of_none e Hna)]; exact e) (fun b o u e => by rw [upd_ne (ne_of_none e Hna)]; exact e) (fun b ps e => ⟨#[], by rw [upd_ne (ne_of_none e Hna), e]; simp⟩) (fun m hm => ?_) (fun b u e => ?_) I3.bare
          · obtain ⟨o, es, ep, ho, r⟩ := hm
            exact ⟨o, es, ep, kp' _ o (fun z => (ch _ z).2.1 rfl) ho, r⟩
          · by_cases hb : b = aA
            · subst hb
              rw [upd_same] at e
              cases e
              exact ⟨lout, _, c, ho1, hg⟩
            · rw [upd_ne hb] at e
              refine (I3.hok b u e).stay (fun c v hc q => kp' c v ?_ q) (fun c q => by rw [upd_ne (ne_of_none q Hna)]; exact q) fun c xs q => by rw [upd_ne (ne_of_none q Hna)]; exact q
              rcases hc with z | z
              · rw [z]; exact nit b u e
              · exact nit c _ z
        exact ⟨.ref (aA), _, I4, rfl, (Out.pst (as2 := as) (ow2 := ow) (H2 := H) P' out).newL P'.rel ho2 Hna⟩
    · rw [if_neg hk] at hp'; exact hp'.elim
end CM
namespace CM
open PySem PySem.Spec PyProof.Rows L2
section
open PySem.W
variable {prog : Program} {w : World} {A : Around} {E : Value → Shared → Prop} {s : Shared} {vs : List Value} {f : Value}
/-- from the copy on -/
theorem sort_core {a e0 : Nat} {kw : List (Str × Value)} (ho : s.heap.get? a = some (seqObj "list" vs.toArray e0)) (hL : vs.length ≤ sizeLine) (ht : Builtin.«list.sort» ⟨[.ref a], kw⟩ = ksk_tree a f false) :
    RunAt prog w A f s vs (sortingHeap s.heap a vs) s.toks a (s.heap.objs.size + 1) fun Q => wpAny (model prog w) A.in1.in1 (Builtin.«list.sort» ⟨[.ref a], kw⟩) (fun r s' => r = .done (.ret .none) ∧ Q (.ref a) s') (fun _ _ => False) s := by
  intro Q J at_ hJ0 turn fin
  rw [ht]
  obtain ⟨e1, ho1⟩ : ∃ e1, (s.heap.update a (Obj.mapSeq fun _ => (#[] : Array Value))).get? a = some (seqObj "list" #[] e1) := ⟨_, get?_update_seq ho fun _ => #[]⟩
  have kS : ((s.heap.update a (Obj.mapSeq fun _ => (#[] : Array Value))).push (seqObj "tuple" vs.toArray 0)).objs.size = s.heap.objs.size + 1 := by
    rw [size_push', Heap.size_update]
  have hh : (sortingHeap s.heap a vs).get? a = some (seqObj "list" #[] e1) := Heap.get?_push_of_some _ (Heap.get?_push_of_some _ ho1)
  have lt : a < s.heap.objs.size := Heap.lt_size ho
  unfold ksk_tree
  refine wpAny_bind (listItems_at ho rfl ?_)
  refine wpAny_bind (listUpdate_at ho rfl ?_ (by rw [List.size_toArray]; exact hL) (Nat.zero_le _))
  refine wpAny_bind (seqEpoch_at ho1 rfl (wpAny_bind (wpAny_newTuple ?_ (by show vs.length ≤ _; exact hL))))
  refine wpAny_bind (wpAny_newList (wpAny_holding ?_) (Nat.zero_le _))
  show wpAny _ _ (ksk_rest a f false vs.toArray e1 (.ref ((s.heap.update a (Obj.mapSeq fun _ => (#[] : Array Value))).push (seqObj "tuple" vs.toArray 0)).objs.size)) _ _ { s with heap := sortingHeap s.heap a vs }
  rw [kS]
  refine SK.rest (a := a) (kS := s.heap.objs.size + 1) J (fun i ks s' h => ?_) (Nat.ne_of_gt (Nat.lt_succ_of_lt lt)) hL hJ0 turn fun ks s' h => ?_
  · obtain ⟨x1, ⟨e2, x2, x3⟩, x4⟩ := at_ i ks s' h
    rw [hh] at x2
    have : e1 = e2 := by
      have := Option.some.inj x2
      unfold seqObj at this
      simpa using this
    subst this
    exact ⟨x1, x3, x4⟩
  · obtain ⟨κ, S, q⟩ := fin ks s' h
    exact ⟨κ, S, fun g tk c kp hg => ⟨rfl, q g tk c kp hg⟩⟩
/-- sorted of what is collected -/
theorem sorted_src {T : String} {r d : Addr} {n : Nat} {P : Nat → Value → Prop} {OK : Heap → Prop} {kw : List (Str × Value)} {Q : Value → Shared → Prop} (K : KdlSrc prog w T r d n P OK) (hh : A.handled = none) (hok : OK s.heap) (hn : n ≤ sizeLine)
    (ha1 : argsOk "sorted" ⟨[.ref r], kw⟩) (ha2 : ∀ x, argsOk "list.sort" ⟨[.ref x], kw⟩)
    (h : ∀ (h' : Heap) (tk : Nat) (vs : List Value), (∀ b o, s.heap.get? b = some o → h'.get? b = some o) → vs.length = n → (∀ (j : Nat) (v : Value), vs[j]? = some v → P j v) →
      wpAny (model prog w) A.in1.in1 (Builtin.«list.sort» ⟨[.ref h'.objs.size], kw⟩) (fun r s' => r = .done (.ret .none) ∧ Q (.ref h'.objs.size) s') (fun _ _ => False) { s with heap := h'.push { cls := .type "list", data := .seq vs.toArray }, toks := tk }) :
    wpAny (model prog w) A (call (.builtin "sorted") [.ref r] kw) Q E s := by
  refine call_function_entry_kw kind_sorted plain_sorted entry_sorted ha1 ?_
  unfold Builtin.«sorted»
  refine wpAny_bind (m := checkCount "sorted" 1 1 _) (wpAny_pure ?_)
  refine wpAny_bind (kdu_collect (A := A.in1) K hh hok hn fun h' tk acc hk hacc => ?_)
  have hl : acc.toList.length = n := by rw [Array.length_toList]; exact hacc.1
  refine wpAny_bind (wpAny_newList ?_ (by rw [hl]; exact hn))
  have hg := h h' tk acc.toList hk hl fun j v e => hacc.2 j v (by rw [← Array.getElem?_toList]; exact e)
  refine wpAny_bind (wpAny_holding (wpAny_call_entry_kw slot_list_sort ⟨_, Heap.get?_push_size _ rfl, rfl⟩ entry_list_sort ?body (ha2 _)))
  case body =>
    refine wpAny_mono hg (fun fin s' hf => ?_) fun _ _ e => e.elim
    obtain ⟨rfl, hq⟩ := hf
    exact ⟨_, rfl, wpAny_pure ⟨_, rfl, hq⟩⟩
end
/-- .. a list's, a dict's -/
theorem key_back {k : Key} {v : Value} (h : keyIs k v = true) : RelV (kV k) v := by
  rcases keyIs_shape h with ⟨i, t, rfl, rfl⟩ | ⟨x, t, rfl, rfl⟩
  · exact ⟨t, rfl⟩
  · exact ⟨t, rfl⟩
theorem keys_rep {K : PySem.W.Frag} {as : List Addr} {ow : Addr → Prop} {H : Hp} : ∀ {kvs : List (Key × V)} {ks : List (Ky × CM.D)}, RepK K as ow H kvs ks → RepVs K as ow H (kvs.map fun p => kV p.1) (ks.map fun p => kyD p.1)
  | _, _, .nil => .nil
  | _, _, .cons (a := a) _ r => .cons (kx_rep a) (keys_rep r)
def rSKA (cA : ClA) (X : Cx) (fa : Addr) (F : Fn) : List V → List V → Hp → VK → Prop := fun vs zs H Q => ∃ v as ow st d xs, vs = [v] ∧ zs = [.ref fa] ∧ Rel X.K cA as ow H st ∧ RepX X.K as ow H v d ∧ srcK st d = some xs ∧
  PostE X.K cA as ow H ((keysGo (fun d st => F [d] st) xs st).bind fun ps st => ofO st ((sortK ps).map fun qs => .ol (qs.map (·.2)))) Q
theorem dk_rdX {K : PySem.W.Frag} {cA : ClA} {as : List Addr} {ow : Addr → Prop} {H : Hp} {st : Sto} (R : Rel K cA as ow H st) {v : V} {d : CM.D} {ks : List (Ky × CM.D)} (r : RepX K as ow H v d) (h : dcOf st d = some (false, ks)) : ∃ p kvs, v = .ref p ∧ Rd H p (.dK kvs) ∧ RepK K as ow H kvs ks := by
  cases d with
  | od t k =>
    cases h
    obtain ⟨p, kvs, rfl, _, h, r⟩ := r
    exact ⟨p, kvs, rfl, .inl h, r⟩
  | fd t k =>
    cases h
    have r : RepV K as ow H v (.fd false ks) := r
    cases r with
    | fdk a n1 n2 r => exact ⟨_, _, rfl, a, r⟩
  | ref n =>
    have r : RepV K as ow H v (.ref n) := r
    cases r with
    | ref ea =>
      unfold dcOf at h
      dsimp only at h
      cases ec : st[n]? with
      | none => rw [ec] at h; cases h
      | some c =>
        rw [ec] at h
        have hc := R.cell n c _ ec ea
        cases c with
        | dct t k =>
          cases h
          obtain ⟨kvs, e, r⟩ := hc
          exact ⟨_, kvs, rfl, .inl e, r⟩
        | _ => cases h
  | _ => cases h
section
variable {cA : ClA} {C : Calls} {c : Cs} {X : Cx}
theorem cr_skA {fa : Addr} {F : Fn} (hu : X.A.units + 65 < cLine) (hc : X.calm = true) (hS : SKey cA X.prog X.w X.K X.mg X.base X.A.in1.in1 (.ref fa) F) : CallRK X (.builtin "sorted") [Str.ofString "key"] (rSKA cA X fa F) := by
  intro pins s σ H vs zs us ws Q I r rz h
  obtain ⟨v, as, ow, st, d, xs, rfl, rfl, R, rx, hl, hp⟩ := h
  obtain ⟨u, rfl, ru⟩ := vals1 r
  obtain rfl := Vals.ref1 rz
  cases hls : lsOf st d with
  | some ys =>
    have : ys = xs := by
      unfold srcK at hl
      rw [hls] at hl
      exact Option.some.inj hl
    subst this
    exact sort_key hu hS (fun l => ksk_s1 _ _) (fun l => ksk_l1 _ _) I ru R rx hls hp
  | none =>
    unfold srcK at hl
    rw [hls] at hl
    dsimp only at hl
    split at hl
    · rename_i ks hd
      cases hl
      obtain ⟨p, kvs, rfl, rd, rk⟩ := dk_rdX R rx hd
      obtain rfl : u = Value.ref p := ru
      obtain ⟨hsz, hsm, es, kv, hdo⟩ := dk_rd I.hok rd
      obtain ⟨ep, hat⟩ := hdo.dictAt
      have hle : kvs.length = es.length := Paired.length kv
      refine sorted_src (PySem.W.kdl_dict (knd := mixKind X.prog X.w) (kvs := es) (ep := ep) hsm) (I.ok.hd hc) hat (by rw [← hle]; exact hsz) (ksk_s1 _ _) (fun x => ksk_l1 _ _) fun h' tk its hk hln hP => ?_
      have I1 : Inv X pins σ H { s with heap := h', toks := tk } := I.kept hk
      have ho : (h'.push { cls := .type "list", data := .seq its.toArray }).get? h'.objs.size = some (seqObj "list" its.toArray 0) := Heap.get?_push_size _ rfl
      have hL : its.length ≤ sizeLine := by rw [hln, ← hle]; exact hsz
      obtain ⟨e1, he1⟩ : ∃ e1, (PySem.W.sortingHeap (h'.push { cls := .type "list", data := .seq its.toArray }) h'.objs.size its).get? h'.objs.size = some (seqObj "list" #[] e1) :=
        ⟨_, Heap.get?_push_of_some _ (Heap.get?_push_of_some _ (get?_update_seq ho fun _ => #[]))⟩
      have hsz2 : (h'.push { cls := .type "list", data := .seq its.toArray }).objs.size = h'.objs.size + 1 := size_push' _ _
      have hk0 : (PySem.W.sortingHeap (h'.push { cls := .type "list", data := .seq its.toArray }) h'.objs.size its).get? ((h'.push { cls := .type "list", data := .seq its.toArray }).objs.size + 1) = some (seqObj "list" #[] 0) := by
        have : (((h'.push { cls := .type "list", data := .seq its.toArray }).update h'.objs.size (Obj.mapSeq fun _ => (#[] : Array Value))).push (seqObj "tuple" its.toArray 0)).objs.size = (h'.push { cls := .type "list", data := .seq its.toArray }).objs.size + 1 := by
          rw [size_push', Heap.size_update]
        rw [← this]
        exact Heap.get?_push_size _ rfl
      have rvv : Vals (kvs.map fun p => kV p.1) its := by
        have key : ∀ {kvs : List (Key × V)} {es : List (Key × Value)} {its : List Value}, KV kvs es → its.length = es.length → (∀ (j : Nat) (v : Value), its[j]? = some v → ∃ k x, es[j]? = some (k, x) ∧ keyIs k v = true) → Vals (kvs.map fun p => kV p.1) its := by
          intro kvs es its q
          induction q generalizing its with
          | nil => intro hl _; cases its with
            | nil => exact .nil
            | cons _ _ => cases hl
          | cons a _ ih =>
            intro hl hP
            cases its with
            | nil => cases hl
            | cons v its =>
              obtain ⟨k, x, e, hk⟩ := hP 0 v rfl
              simp at e
              subst e
              refine .cons ?_ (ih (by simpa using hl) fun j u hu => by simpa using hP (j + 1) u (by simpa using hu))
              have e2 := a.1
              dsimp only at e2
              subst e2
              exact key_back hk
        exact key kv (by omega) hP
      have rv : RepVs X.K as ow H (kvs.map fun p => kV p.1) (ks.map fun p => kyD p.1) := by
        exact keys_rep rk
      exact sort_keyG (s := { s with heap := h', toks := tk }) hu hS (sort_core (s := { s with heap := h'.push { cls := .type "list", data := .seq its.toArray }, toks := tk }) (A := X.A) ho hL (ksk_t1 fa _)) he1 hk0 (fun b o e => PySem.W.sortingHeap_old (Nat.ne_of_lt (Heap.lt_size e)) (Heap.get?_push_of_some _ e)) (Nat.le_refl _) (by rw [hsz2]; exact Nat.le_add_right _ 2) (by rw [hsz2]; exact Nat.ne_of_gt (Nat.lt_succ_of_lt (Nat.lt_succ_self _))) I1 R rvv rv (by rw [List.length_map]; exact hsz) hp
    · cases hl
/-- sorted(a, key=f) -/
theorem snd_sortk {k : Nat} {a : E} {f : Str} {xa : Expr} {p p2 kpos pos : Pos} (Dc : Dy cA C c X) (h1 : Gl X "sorted") (hk : c.fs[k]? = some f) (hg : Gl X f) (hf : okNm f = true) (h0 : okHead xa = true) (ha : BorE cA C X a xa) :
    ValE cA C X (.sortk k a) (.Call (.Name "sorted" p) [xa] [⟨some "key", .Name f p2, kpos⟩] pos) := by
  simp only [okNm, Bool.and_eq_true, Bool.not_eq_true'] at hf
  obtain ⟨fa, hm, _, hS⟩ := (Dc.skey k f hk).ex
  refine pe_imp (pe_callBK (cr_skA Dc.hu Dc.calm hS) h1 (Dc.free _ (by decide +kernel)) PyProof.Rows.boot_sorted (pa_cons ha pa_nil (star_one h0 _ _)) (pk_cons (pe_glob (v := .ref fa) hg hm rfl hf.1) pk_nil) (he := by rw [star_one h0]; rfl) (hpl := by rw [star_one h0]; rfl)) fun σ H Q h => ?_
  refine semE_bind (f := fun ρ x st0 => match srcK st0 x with
    | some xs => (keysGo (fun d st => C.f k [d] st) xs st0).bind fun ps st => ofO st ((sortK ps).map fun qs => CM.D.ol (qs.map (·.2)))
    | none => .bad) h fun as ow H ρ st v d E R r h1 => ?_
  cases hl : srcK st d with
  | none => rw [hl] at h1; exact h1.elim
  | some xs =>
    rw [hl] at h1
    exact ⟨v, as, ow, st, d, xs, rfl, rfl, R, r, hl, h1⟩
end
end CM
end
section
set_option linter.all false
set_option maxRecDepth 100000
set_option maxHeartbeats 4000000
/-! The checker of expressions, and that it is right. -/
namespace CM
open PySem PySem.Spec PyProof.Rows L2
/-- the texts that are walked -/
def argsW (c : Cs) (k : Ik) (tg x : Expr) : Option (List Expr) := match k, x with
  | .seq, x => if okHead x then some [x] else none
  | .range, .Call (.Name y _) [a] [] _ => if decide (y = "range") && glB c.sc y && okHead a then some [a] else none
  | .range, .Call (.Name y _) [a, b] [] _ => if decide (y = "range") && glB c.sc y && okHead a && okHead b then some [a, b] else none
  | .range, .Call (.Name y _) [a, b, d] [] _ => if decide (y = "range") && glB c.sc y && okHead a && okHead b && okHead d then some [a, b, d] else none
  | .rev, .Call (.Name y _) [a] [] _ => if decide (y = "reversed") && glB c.sc y && okHead a then some [a] else none
  | .enum, .Call (.Name y _) [a] [] _ => if decide (y = "enumerate") && glB c.sc y && okHead a && isTup tg then some [a] else none
  | .zip, .Call (.Name y _) [a, b] [] _ => if decide (y = "zip") && glB c.sc y && okHead a && okHead b && isTup tg then some [a, b] else none
  | _, _ => none
def opIx : Op → Bool
  | .idx => true
  | _ => false
def biOk (b : Bi) (y : Str) : Bool := match biNm b with
  | some z => decide (y = z.1)
  | none => (match b with
    | .sorted => decide (y = "sorted")
    | _ => false)
def biKw (b : Bi) (y : Str) : Bool := match b with
  | .maxd => decide (y = "max")
  | .mind => decide (y = "min")
  | _ => false
mutual
def chk (c : Cs) : E → Expr → Bool
  | .var i, x => (match x with
    | .Name y _ => decide (c.N[i]? = some y) && visB c.sc y && okNm y
    | _ => false)
  | .non, x => (match x with
    | .Constant .none _ _ => true
    | _ => false)
  | .bl b, x => (match x with
    | .Constant (.bool b') _ _ => b == b'
    | _ => false)
  | .int i, x => (match x with
    | .Constant (.int j) _ _ => i == j
    | _ => false)
  | .str s, x => (match x with
    | .Constant (.str y) _ _ => decide (y = toStr s)
    | _ => false)
  | .glob _ s, x => (match x with
    | .Name y _ => glB c.sc y && decide ((y, s) ∈ c.gs) && okNm y
    | _ => false)
  | .globi _ i, x => (match x with
    | .Name y _ => glB c.sc y && decide ((y, i) ∈ c.gi) && okNm y
    | _ => false)
  | .tup es, x => (match x with
    | .Tuple xs _ _ => decide (es.length ≤ 1000) && chks c es xs
    | _ => false)
  | .lst es, x => (match x with
    | .List xs _ => decide (es.length ≤ 1000) && chks c es xs
    | _ => false)
  | .dct _, x => (match x with
    | .Dict [] [] _ => true
    | _ => false)
  | .box e, x => chk c e x
  | .dct1 _ k v, x => (match x with
    | .Dict [some xk] [xv] _ => chk c k xk && chk c v xv
    | _ => false)
  | .dget o k d, x => (match x with
    | .Call (.Attribute xo m apos) [xk, xd] [] pos => decide (m = "get") && noCall0 xo && (apos.endLine == pos.line) && okHead xk && okHead xd && chk c o xo && chk c k xk && chk c d xd
    | _ => false)
  | .listRev a, x => (match x with
    | .Call (.Name y _) [.Call (.Name z _) [xa] [] _] [] _ => decide (y = "list") && glB c.sc y && decide (z = "reversed") && glB c.sc z && okHead xa && chk c a xa
    | _ => false)
  | .sortk k a, x => (match x with
    | .Call (.Name y _) [xa] [⟨some kw, .Name f _, _⟩] _ => decide (y = "sorted") && decide (kw = "key") && glB c.sc y && decide (c.fs[k]? = some f) && glB c.sc f && okNm f && okHead xa && chk c a xa
    | _ => false)
  | .inRng g a lo hi, x => (match x with
    | .Compare xa [p] [.Call (.Name y p2) [xl, xh] [] pos2] _ => decide (opN p = some g) && !behindInMarks p (.Call (.Name y p2) [xl, xh] [] pos2) && decide (y = "range") && glB c.sc y && okHead xl && okHead xh && chk c a xa && chk c lo xl && chk c hi xh
    | _ => false)
  | .op o a b, x => (match x with
    | .BinOp xa p xb _ => opA o p && chk c a xa && chk c b xb
    | .Compare xa [p] [xb] _ => opC o p && !behindInMarks p xb && chk c a xa && chk c b xb
    | .Subscript xa xb _ => opIx o && okHead xb && chk c a xa && chk c b xb
    | _ => false)
  | .neg a, x => (match x with
    | .UnaryOp .USub xa _ => chk c a xa
    | _ => false)
  | .not a, x => (match x with
    | .UnaryOp .Not xa _ => chk c a xa
    | _ => false)
  | .and es, x => (match x with
    | .BoolOp .And xs _ => !es.isEmpty && chks c es xs
    | _ => false)
  | .or es, x => (match x with
    | .BoolOp .Or xs _ => !es.isEmpty && chks c es xs
    | _ => false)
  | .ife t a b, x => (match x with
    | .IfExp xt xa xb _ => chkT c t xt && chk c a xa && chk c b xb
    | _ => false)
  | .isN a, x => (match x with
    | .Compare xa [.Is] [.Constant .none _ _] _ => chk c a xa
    | _ => false)
  | .notN a, x => (match x with
    | .Compare xa [.IsNot] [.Constant .none _ _] _ => chk c a xa
    | _ => false)
  | .fld a f, x => (match x with
    | .Attribute xa y _ => decide (y = f.s) && noCall0 xa && chk c a xa
    | _ => false)
  | .slice a lo hi, x => (match x with
    | .Subscript xa (.Slice xl xh none _) _ => chk c a xa && chkO c lo xl && chkO c hi xh
    | _ => false)
  | .comp elt tg k src ifs, x => (match x with
    | .ListComp xe [⟨xt, xi, xifs, 0⟩] scope _ => blkC c.N c.sc scope (ownOf c tg) && chkTg (c.blk scope) tg xt && okHead xi && (if isLk k then (chkL c k xt src xi).isSome else (match argsW c k xt xi with
      | some args => chks c src args
      | none => false)) && decide (ifs.length ≤ 1) && chkTs (c.blk scope) ifs xifs && chk (c.blk scope) elt xe
    | _ => false)
  | .call k es, x => (match x with
    | .Call (.Name y _) xs [] _ => decide (c.fs[k]? = some y) && glB c.sc y && okNm y && chks c es xs
    | _ => false)
  | .mk k es, x => (match x with
    | .Call (.Name y _) xs [] _ => decide (c.fs[k]? = some y) && glB c.sc y && okNm y && chks c es xs
    | _ => false)
  | .meth k o es, x => (match x with
    | .Call (.Attribute xo m apos) xs [] pos => decide (c.ms[k]? = some m) && noCall0 xo && (apos.endLine == pos.line) && decide (xs.length < 30) && chk c o xo && chks c es xs
    | _ => false)
  | .bi b es, x => (match x with
    | .Call (.Name y _) xs [] _ => biOk b y && glB c.sc y && !es.isEmpty && chks c es xs
    | .Call (.Name y _) [xa] [⟨some kw, xk, _⟩] _ => biKw b y && decide (kw = "default") && glB c.sc y && chks c es [xa, xk]
    | _ => false)
  | .bm b o es, x => (match x with
    | .Call (.Attribute xo m apos) xs [] pos => (match b with
      | .join => decide (m = "join")
      | .rjust => decide (m = "rjust")
      | .index => decide (m = "index")
      | .lstrip => decide (m = "lstrip")
      | .rstrip => decide (m = "rstrip")
      | .split => decide (m = "split")
      | _ => false) && noCall0 xo && (apos.endLine == pos.line) && decide (xs.length < 30) && !es.isEmpty && chk c o xo && chks c es xs
    | _ => false)
  | .isi a ts, x => (match x with
    | .Call (.Name y _) [xa, xt] [] _ => decide (y = "isinstance") && glB c.sc y && okHead xa && chk c a xa && (match ts, xt with
      | t :: tr, .Tuple ys _ _ => chkTys c (t :: tr) ys && decide (ys.length ≤ 1000)
      | [t], xt => chkTy c t xt
      | _, _ => false)
    | _ => false)
  | _, _ => false
termination_by structural e => e
def chks (c : Cs) : List E → List Expr → Bool
  | [], xs => xs.isEmpty
  | e :: r, xs => (match xs with
    | x :: xr => okHead x && chk c e x && chks c r xr
    | [] => false)
termination_by structural e => e
def chkO (c : Cs) : Option E → Option Expr → Bool
  | none, x => (match x with
    | none => true
    | some _ => false)
  | some e, x => (match x with
    | some y => chk c e y
    | none => false)
termination_by structural e => e
def chkT (c : Cs) : E → Expr → Bool
  | .op o a b, x => (match x with
    | .Compare xa [p] [xb] _ => opC o p && !behindInMarks p xb && chk c a xa && chk c b xb
    | .Subscript xa xb _ => opIx o && okHead xb && chk c a xa && chk c b xb
    | _ => false)
  | .inRng g a lo hi, x => (match x with
    | .Compare xa [p] [.Call (.Name y p2) [xl, xh] [] pos2] _ => decide (opN p = some g) && !behindInMarks p (.Call (.Name y p2) [xl, xh] [] pos2) && decide (y = "range") && glB c.sc y && okHead xl && okHead xh && chk c a xa && chk c lo xl && chk c hi xh
    | _ => false)
  | .not a, x => (match x with
    | .UnaryOp .Not xa _ => chkT c a xa
    | _ => false)
  | .and es, x => (match x with
    | .BoolOp .And xs _ => !es.isEmpty && chkTs c es xs
    | _ => false)
  | .or es, x => (match x with
    | .BoolOp .Or xs _ => !es.isEmpty && chkTs c es xs
    | _ => false)
  | .isN a, x => (match x with
    | .Compare xa [.Is] [.Constant .none _ _] _ => chk c a xa
    | _ => false)
  | .notN a, x => (match x with
    | .Compare xa [.IsNot] [.Constant .none _ _] _ => chk c a xa
    | _ => false)
  | .var i, x => plainT x && (match x with
    | .Name y _ => decide (c.N[i]? = some y) && visB c.sc y && okNm y
    | _ => false)
  | .bl b, x => (match x with
    | .Constant (.bool b') _ _ => b == b'
    | _ => false)
  | .call k es, x => (match x with
    | .Call (.Name y _) xs [] _ => decide (c.fs[k]? = some y) && glB c.sc y && okNm y && chks c es xs
    | _ => false)
  | .meth k o es, x => (match x with
    | .Call (.Attribute xo m apos) xs [] pos => decide (c.ms[k]? = some m) && noCall0 xo && (apos.endLine == pos.line) && decide (xs.length < 30) && chk c o xo && chks c es xs
    | _ => false)
  | .bi b es, x => (match x with
    | .Call (.Name y _) xs [] _ => biOk b y && glB c.sc y && !es.isEmpty && chks c es xs
    | .Call (.Name y _) [xa] [⟨some kw, xk, _⟩] _ => biKw b y && decide (kw = "default") && glB c.sc y && chks c es [xa, xk]
    | _ => false)
  | .isi a ts, x => (match x with
    | .Call (.Name y _) [xa, xt] [] _ => decide (y = "isinstance") && glB c.sc y && okHead xa && chk c a xa && (match ts, xt with
      | t :: tr, .Tuple ys _ _ => chkTys c (t :: tr) ys && decide (ys.length ≤ 1000)
      | [t], xt => chkTy c t xt
      | _, _ => false)
    | _ => false)
  | _, _ => false
termination_by structural e => e
def chkTs (c : Cs) : List E → List Expr → Bool
  | [], xs => xs.isEmpty
  | e :: r, xs => (match xs with
    | x :: xr => chkT c e x && chkTs c r xr
    | [] => false)
termination_by structural e => e
end
end CM
end
section
set_option linter.all false
set_option maxRecDepth 100000
set_option maxHeartbeats 4000000
/-! The checker of expressions is right. -/
namespace CM
open PySem PySem.Spec PyProof.Rows L2
structure SndE (e : E) : Prop where
  v : ∀ (c : Cs) (x : Expr), chk c e x = true → ∀ (cA : ClA) (C : Calls) (X : Cx), Dy cA C c X → ValE cA C X e x
  t : ∀ (c : Cs) (x : Expr), chkT c e x = true → ∀ (cA : ClA) (C : Calls) (X : Cx), Dy cA C c X → TesE cA C X e x
section
variable {cA : ClA} {C : Calls} {c : Cs} {X : Cx}
theorem var_shape {i : Nat} {x : Expr} (h : chk c (.var i) x = true) : ∃ y pos, x = .Name y pos ∧ c.N[i]? = some y ∧ visB c.sc y = true ∧ okNm y = true := by
  cases x with
  | Name y pos =>
    simp only [chk, Bool.and_eq_true, decide_eq_true_eq] at h
    exact ⟨y, pos, rfl, h.1.1, h.1.2, h.2⟩
  | _ => simp [chk] at h
theorem SndE.b {e : E} (S : SndE e) {x : Expr} (h : chk c e x = true) (Dc : Dy cA C c X) : BorE cA C X e x := by
  by_cases hv : ∃ i, e = .var i
  · obtain ⟨i, rfl⟩ := hv
    obtain ⟨y, pos, rfl, h1, h2, h3⟩ := var_shape h
    exact snd_varB Dc h1 h2 h3
  · exact (S.v c x h cA C X Dc).bor fun i z => hv ⟨i, z⟩
theorem chks_cons {e : E} {r : List E} {xs : List Expr} (h : chks c (e :: r) xs = true) : ∃ x xr, xs = x :: xr ∧ okHead x = true ∧ chk c e x = true ∧ chks c r xr = true := by
  cases xs with
  | nil => simp [chks] at h
  | cons x xr =>
    simp only [chks, Bool.and_eq_true] at h
    exact ⟨x, xr, rfl, h.1.1, h.1.2, h.2⟩
theorem chks_nil {xs : List Expr} (h : chks c [] xs = true) : xs = [] := by
  cases xs with
  | nil => rfl
  | cons _ _ => simp [chks] at h
theorem snds (Dc : Dy cA C c X) : ∀ {es : List E} {xs : List Expr}, (∀ e ∈ es, SndE e) → chks c es xs = true → PA X xs (semL X.K cA fun ρ st => evs C ρ es st) ∧ xs.all okHead = true ∧ xs.length = es.length
  | [], xs, _, h => by rw [chks_nil h]; exact ⟨snd_nil, rfl, rfl⟩
  | e :: r, xs, S, h => by
    obtain ⟨x, xr, rfl, h1, h2, h3⟩ := chks_cons h
    obtain ⟨a, b, d⟩ := snds Dc (fun e he => S e (by simp [he])) h3
    exact ⟨snd_cons ((S e (by simp)).v c x h2 cA C X Dc) a h1, by simp [h1, b], by simp [d]⟩
theorem sndsB (Dc : Dy cA C c X) : ∀ {es : List E} {xs : List Expr}, (∀ e ∈ es, SndE e) → chks c es xs = true → PA X xs (semBL X.K cA fun ρ st => evBs C ρ es st) ∧ xs.all okHead = true ∧ xs.length = es.length
  | [], xs, _, h => by rw [chks_nil h]; exact ⟨snd_nilB, rfl, rfl⟩
  | e :: r, xs, S, h => by
    obtain ⟨x, xr, rfl, h1, h2, h3⟩ := chks_cons h
    obtain ⟨a, b, d⟩ := sndsB Dc (fun e he => S e (by simp [he])) h3
    exact ⟨snd_consB ((S e (by simp)).b h2 Dc) a h1, by simp [h1, b], by simp [d]⟩
theorem chks_zip : ∀ {es : List E} {xs : List Expr}, chks c es xs = true → es.length = xs.length ∧ ∀ p ∈ es.zip xs, chk c p.1 p.2 = true
  | [], xs, h => by rw [chks_nil h]; simp
  | e :: r, xs, h => by
    obtain ⟨x, xr, rfl, h1, h2, h3⟩ := chks_cons h
    obtain ⟨a, b⟩ := chks_zip h3
    refine ⟨by simp [a], fun p hp => ?_⟩
    rw [List.zip_cons_cons] at hp
    rcases List.mem_cons.mp hp with rfl | hp
    · exact h2
    · exact b p hp
theorem arg1 {src : List E} {x : Expr} (h : chks c src [x] = true) : ∃ a, src = [a] ∧ chk c a x = true := by
  cases src with
  | nil => simp [chks] at h
  | cons a r =>
    obtain ⟨y, yr, e, _, h2, h3⟩ := chks_cons h
    cases e
    cases r with
    | nil => exact ⟨a, rfl, h2⟩
    | cons _ _ => simp [chks] at h3
theorem arg2 {src : List E} {x y : Expr} (h : chks c src [x, y] = true) : ∃ a b, src = [a, b] ∧ chk c a x = true ∧ chk c b y = true := by
  cases src with
  | nil => simp [chks] at h
  | cons a r =>
    obtain ⟨_, _, e, _, h2, h3⟩ := chks_cons h
    cases e
    obtain ⟨b, rfl, h4⟩ := arg1 h3
    exact ⟨a, b, rfl, h2, h4⟩
theorem arg3 {src : List E} {x y z : Expr} (h : chks c src [x, y, z] = true) : ∃ a b d, src = [a, b, d] ∧ chk c a x = true ∧ chk c b y = true ∧ chk c d z = true := by
  cases src with
  | nil => simp [chks] at h
  | cons a r =>
    obtain ⟨_, _, e, _, h2, h3⟩ := chks_cons h
    cases e
    obtain ⟨b, d, rfl, h4, h5⟩ := arg2 h3
    exact ⟨a, b, d, rfl, h2, h4, h5⟩
theorem walk_of {k : Ik} {tg x : Expr} {src : List E} {args : List Expr} (h : argsW c k tg x = some args) (hs : chks c src args = true) : chkW c (fun a y => chk c a y) k tg src x = true := by
  unfold argsW at h
  split at h
  · split at h
    · rename_i ho
      cases h
      obtain ⟨a, rfl, h1⟩ := arg1 hs
      simp [chkW, ho, h1]
    · cases h
  · split at h
    · rename_i ho
      cases h
      obtain ⟨a, rfl, h1⟩ := arg1 hs
      simp only [Bool.and_eq_true, decide_eq_true_eq] at ho
      obtain ⟨⟨rfl, h2⟩, h3⟩ := ho
      simp [chkW, h1, h2, h3]
    · cases h
  · split at h
    · rename_i ho
      cases h
      obtain ⟨a, b, rfl, h1, h1'⟩ := arg2 hs
      simp only [Bool.and_eq_true, decide_eq_true_eq] at ho
      obtain ⟨⟨⟨rfl, h2⟩, h3⟩, h4⟩ := ho
      simp [chkW, h1, h1', h2, h3, h4]
    · cases h
  · split at h
    · rename_i ho
      cases h
      obtain ⟨a, b, d, rfl, h1, h1', h1''⟩ := arg3 hs
      simp only [Bool.and_eq_true, decide_eq_true_eq] at ho
      obtain ⟨⟨⟨⟨rfl, h2⟩, h3⟩, h4⟩, h5⟩ := ho
      simp [chkW, h1, h1', h1'', h2, h3, h4, h5]
    · cases h
  · split at h
    · rename_i ho
      cases h
      obtain ⟨a, rfl, h1⟩ := arg1 hs
      simp only [Bool.and_eq_true, decide_eq_true_eq] at ho
      obtain ⟨⟨rfl, h2⟩, h3⟩ := ho
      simp [chkW, h1, h2, h3]
    · cases h
  · split at h
    · rename_i ho
      cases h
      obtain ⟨a, rfl, h1⟩ := arg1 hs
      simp only [Bool.and_eq_true, decide_eq_true_eq] at ho
      obtain ⟨⟨⟨rfl, h2⟩, h3⟩, h4⟩ := ho
      simp [chkW, h1, h2, h3, h4]
    · cases h
  · split at h
    · rename_i ho
      cases h
      obtain ⟨a, b, rfl, h1, h1'⟩ := arg2 hs
      simp only [Bool.and_eq_true, decide_eq_true_eq] at ho
      obtain ⟨⟨⟨⟨rfl, h2⟩, h3⟩, h4⟩, h5⟩ := ho
      simp [chkW, h1, h1', h2, h3, h4, h5]
    · cases h
  · cases h
/-! ### one by one -/
theorem sn_and {es : List E} (S : ∀ e ∈ es, SndE e) (h0 : es ≠ []) {xs : List Expr} {pos : Pos} (Dc : Dy cA C c X) (h : chks c es xs = true) : PE X (.BoolOp .And xs pos) (semE X.K cA fun ρ st => evAnd C ρ es st) := by
  induction es generalizing xs with
  | nil => exact absurd rfl h0
  | cons a r ih =>
    obtain ⟨x, xr, rfl, h1, h2, h3⟩ := chks_cons h
    have ha := (S a (by simp)).v c x h2 cA C X Dc
    cases r with
    | nil => rw [chks_nil h3]; exact snd_and1 ha
    | cons b r =>
      obtain ⟨y, yr, rfl, _⟩ := chks_cons h3
      exact snd_andC ha (ih (fun e he => S e (by simp [he])) (by simp) h3)
theorem sn_or {es : List E} (S : ∀ e ∈ es, SndE e) (h0 : es ≠ []) {xs : List Expr} {pos : Pos} (Dc : Dy cA C c X) (h : chks c es xs = true) : PE X (.BoolOp .Or xs pos) (semE X.K cA fun ρ st => evOr C ρ es st) := by
  induction es generalizing xs with
  | nil => exact absurd rfl h0
  | cons a r ih =>
    obtain ⟨x, xr, rfl, h1, h2, h3⟩ := chks_cons h
    have ha := (S a (by simp)).v c x h2 cA C X Dc
    cases r with
    | nil => rw [chks_nil h3]; exact snd_or1 ha
    | cons b r =>
      obtain ⟨y, yr, rfl, _⟩ := chks_cons h3
      exact snd_orC ha (ih (fun e he => S e (by simp [he])) (by simp) h3)
theorem chkTs_cons {e : E} {r : List E} {xs : List Expr} (h : chkTs c (e :: r) xs = true) : ∃ x xr, xs = x :: xr ∧ chkT c e x = true ∧ chkTs c r xr = true := by
  cases xs with
  | nil => simp [chkTs] at h
  | cons x xr =>
    simp only [chkTs, Bool.and_eq_true] at h
    exact ⟨x, xr, rfl, h.1, h.2⟩
theorem chkTs_nil {xs : List Expr} (h : chkTs c [] xs = true) : xs = [] := by
  cases xs with
  | nil => rfl
  | cons _ _ => simp [chkTs] at h
theorem sn_andT {es : List E} (S : ∀ e ∈ es, SndE e) (h0 : es ≠ []) {xs : List Expr} {pos : Pos} (Dc : Dy cA C c X) (h : chkTs c es xs = true) : PW X (.BoolOp .And xs pos) (semT X.K cA fun ρ st => evAnd C ρ es st) := by
  induction es generalizing xs with
  | nil => exact absurd rfl h0
  | cons a r ih =>
    obtain ⟨x, xr, rfl, h2, h3⟩ := chkTs_cons h
    have ha := (S a (by simp)).t c x h2 cA C X Dc
    cases r with
    | nil => rw [chkTs_nil h3]; exact snd_and1T ha
    | cons b r =>
      obtain ⟨y, yr, rfl, _⟩ := chkTs_cons h3
      exact snd_andCT ha (ih (fun e he => S e (by simp [he])) (by simp) h3)
theorem sn_orT {es : List E} (S : ∀ e ∈ es, SndE e) (h0 : es ≠ []) {xs : List Expr} {pos : Pos} (Dc : Dy cA C c X) (h : chkTs c es xs = true) : PW X (.BoolOp .Or xs pos) (semT X.K cA fun ρ st => evOr C ρ es st) := by
  induction es generalizing xs with
  | nil => exact absurd rfl h0
  | cons a r ih =>
    obtain ⟨x, xr, rfl, h2, h3⟩ := chkTs_cons h
    have ha := (S a (by simp)).t c x h2 cA C X Dc
    cases r with
    | nil => rw [chkTs_nil h3]; exact snd_or1T ha
    | cons b r =>
      obtain ⟨y, yr, rfl, _⟩ := chkTs_cons h3
      exact snd_orCT ha (ih (fun e he => S e (by simp [he])) (by simp) h3)
theorem sn_o {o : Option E} (S : ∀ e, o = some e → SndE e) {x : Option Expr} (Dc : Dy cA C c X) (h : chkO c o x = true) : PO X x (semO X.K cA fun ρ st => evO C ρ o st) := by
  cases o with
  | none => cases x with
    | none => exact snd_oN
    | some _ => simp [chkO] at h
  | some e => cases x with
    | none => simp [chkO] at h
    | some y => exact snd_oS ((S e rfl).v c y (by simpa [chkO] using h) cA C X Dc)
theorem sn_call {k : Nat} {es : List E} (S : ∀ e ∈ es, SndE e) {x : Expr} (Dc : Dy cA C c X) (h : chk c (.call k es) x = true) : ValE cA C X (.call k es) x := by
  unfold chk at h
  split at h
  · rename_i y p xs pos
    simp only [Bool.and_eq_true, decide_eq_true_eq] at h
    obtain ⟨⟨⟨h1, h2⟩, h3⟩, h4⟩ := h
    obtain ⟨a, b, d⟩ := snds Dc S h4
    cases xs with
    | nil =>
      cases es with
      | nil => exact snd_call0 Dc h1 h2 h3
      | cons _ _ => cases d
    | cons x0 xs => exact snd_call Dc h1 h2 h3 b a
  · cases h
theorem sn_meth {k : Nat} {o : E} {es : List E} (So : SndE o) (S : ∀ e ∈ es, SndE e) {x : Expr} (Dc : Dy cA C c X) (h : chk c (.meth k o es) x = true) : ValE cA C X (.meth k o es) x := by
  unfold chk at h
  split at h
  · rename_i xo m apos xs pos
    simp only [Bool.and_eq_true, decide_eq_true_eq] at h
    obtain ⟨⟨⟨⟨⟨h1, h2⟩, h3⟩, h4⟩, h5⟩, h6⟩ := h
    obtain ⟨a, b, d⟩ := snds Dc S h6
    have ho := So.v c xo h5 cA C X Dc
    cases xs with
    | nil =>
      cases es with
      | nil => exact snd_meth0 Dc h1 h2 h3 ho
      | cons _ _ => cases d
    | cons x0 xs => exact snd_meth Dc h1 h2 h3 h4 b ho a
  · cases h
theorem gl_dy {x : Str} (Dc : Dy cA C c X) (h : glB c.sc x = true) : Gl X x := by unfold Gl Env.kindOf; rw [Dc.sc]; exact gl_ok h
theorem sn_biK {b : Bi} {es : List E} (S : ∀ e ∈ es, SndE e) {y : Str} {xa xk : Expr} {p kpos pos : Pos} (Dc : Dy cA C c X) (hb : biKw b y = true) (hg : glB c.sc y = true) (h : chks c es [xa, xk] = true) : ValE cA C X (.bi b es) (.Call (.Name y p) [xa] [⟨some "default", xk, kpos⟩] pos) := by
  have ho := (sndsB Dc S h).2.1
  simp only [List.all_cons, Bool.and_eq_true] at ho
  obtain ⟨a, k, rfl, h1, h2⟩ := arg2 h
  have sa := (S a (by simp)).b h1 Dc
  have sk := (S k (by simp)).b h2 Dc
  unfold biKw at hb
  split at hb
  · obtain rfl := of_decide_eq_true hb
    exact snd_mmd (cr_maxd Dc.calm Dc.hu) Dc PyProof.Rows.boot_max (by decide +kernel) (by decide +kernel) (by decide +kernel) (gl_dy Dc hg) ho.1 sa sk
  · obtain rfl := of_decide_eq_true hb
    exact snd_mmd (cr_mind Dc.calm Dc.hu) Dc PyProof.Rows.boot_min (by decide +kernel) (by decide +kernel) (by decide +kernel) (gl_dy Dc hg) ho.1 sa sk
  · cases hb
theorem sn_bi {b : Bi} {es : List E} (S : ∀ e ∈ es, SndE e) {x : Expr} (Dc : Dy cA C c X) (h : chk c (.bi b es) x = true) : ValE cA C X (.bi b es) x := by
  unfold chk at h
  split at h
  · rename_i y p xs pos
    simp only [Bool.and_eq_true] at h
    obtain ⟨⟨⟨h1, h2⟩, h3⟩, h4⟩ := h
    obtain ⟨a, b', d⟩ := sndsB Dc S h4
    cases xs with
    | nil =>
      cases es with
      | nil => cases h3
      | cons _ _ => cases d
    | cons x0 xs =>
      unfold biOk at h1
      split at h1
      · rename_i z hz
        exact snd_biN Dc hz (of_decide_eq_true h1) h2 b' a
      · split at h1
        · obtain rfl := of_decide_eq_true h1
          exact snd_bi (r := fun _ _ _ => True) Dc (snd_sorted Dc.hu) PyProof.Rows.boot_sorted (by decide +kernel) h2 (by decide +kernel) (by decide +kernel) b' a
        · cases h1
  · rename_i y p xa kw xk kpos pos
    simp only [Bool.and_eq_true, decide_eq_true_eq] at h
    obtain ⟨⟨⟨h1, h2⟩, h3⟩, h4⟩ := h
    subst h2
    exact sn_biK S Dc h1 h3 h4
  · cases h
theorem sn_isi {a : E} {ts : List Ty} (Sa : SndE a) {x : Expr} (Dc : Dy cA C c X) (h : chk c (.isi a ts) x = true) : ValE cA C X (.isi a ts) x := by
  unfold chk at h
  split at h
  · rename_i y p xa xt pos
    simp only [Bool.and_eq_true, decide_eq_true_eq] at h
    obtain ⟨⟨⟨⟨h1, h2⟩, h3⟩, h4⟩, h5⟩ := h
    split at h5
    · simp only [Bool.and_eq_true, decide_eq_true_eq] at h5
      exact snd_isiT Dc h1 h2 (Sa.b h4 Dc) h3 h5.1 (by simp) h5.2
    · exact snd_isi1 Dc h1 h2 (Sa.b h4 Dc) h3 h5
    · cases h5
  · cases h
theorem sn_bm {b : Bm} {o : E} {es : List E} (So : SndE o) (S : ∀ e ∈ es, SndE e) {x : Expr} (Dc : Dy cA C c X) (h : chk c (.bm b o es) x = true) : ValE cA C X (.bm b o es) x := by
  unfold chk at h
  split at h
  · rename_i xo m apos xs pos
    simp only [Bool.and_eq_true, decide_eq_true_eq] at h
    obtain ⟨⟨⟨⟨⟨⟨h1, h2⟩, h3⟩, h4⟩, h5⟩, h6⟩, h7⟩ := h
    obtain ⟨a, b', d⟩ := sndsB Dc S h7
    have ho := So.b h6 Dc
    cases xs with
    | nil =>
      cases es with
      | nil => cases h5
      | cons _ _ => cases d
    | cons x0 xs =>
      split at h1
      · obtain rfl := of_decide_eq_true h1
        exact snd_bm PySem.F.plainAttrs_str PySem.F.slot_str_join PySem.F.type_str_join mt_joinS (fun as ow H st v d R r t => bm_str (b := .join) (fun _ _ => rfl) as ow H st v d R r t) h2 h3 h4 b' ho a
      · obtain rfl := of_decide_eq_true h1
        exact snd_bm PySem.F.plainAttrs_str PySem.F.slot_str_rjust PySem.F.type_str_rjust mt_rjustS (fun as ow H st v d R r t => bm_str (b := .rjust) (fun _ _ => rfl) as ow H st v d R r t) h2 h3 h4 b' ho a
      · obtain rfl := of_decide_eq_true h1
        refine snd_bm PySem.F.plainAttrs_list PySem.F.slot_list_index PySem.F.type_list_index mt_indexS (fun as ow H st v d R r t => ?_) h2 h3 h4 b' ho a
        cases hl : lsOf st d with
        | none => have t : (lsOf st d).isSome = true := t; rw [hl] at t; cases t
        | some ys =>
          obtain ⟨p, vs, rfl, hp, _⟩ := ls_rd R r hl
          exact .inl ⟨rfl, vs, hp⟩
      · obtain rfl := of_decide_eq_true h1
        exact snd_bm PySem.F.plainAttrs_str PySem.F.slot_str_lstrip PySem.F.type_str_lstrip mt_lstripS (fun as ow H st v d R r t => bm_str (b := .lstrip) (fun _ _ => rfl) as ow H st v d R r t) h2 h3 h4 b' ho a
      · obtain rfl := of_decide_eq_true h1
        exact snd_bm PySem.F.plainAttrs_str PySem.F.slot_str_rstrip PySem.F.type_str_rstrip mt_rstripS (fun as ow H st v d R r t => bm_str (b := .rstrip) (fun _ _ => rfl) as ow H st v d R r t) h2 h3 h4 b' ho a
      · obtain rfl := of_decide_eq_true h1
        exact snd_bm PySem.F.plainAttrs_str PySem.F.slot_str_split PySem.F.type_str_split mt_splitS (fun as ow H st v d R r t => bm_str (b := .split) (fun _ _ => rfl) as ow H st v d R r t) h2 h3 h4 b' ho a
      · cases h1
  · cases h
theorem sn_comp {elt : E} {tg : Tg} {k : Ik} {src ifs : List E} (Se : SndE elt) (Ss : ∀ e ∈ src, SndE e) (Si : ∀ e ∈ ifs, SndE e) {x : Expr} (Dc : Dy cA C c X) (h : chk c (.comp elt tg k src ifs) x = true) : ValE cA C X (.comp elt tg k src ifs) x := by
  unfold chk at h
  split at h
  · rename_i xe xt xi xifs scope pos
    simp only [Bool.and_eq_true] at h
    obtain ⟨⟨⟨⟨⟨⟨h1, h2⟩, h3⟩, h4⟩, hone⟩, h5⟩, h6⟩ := h
    have hone := of_decide_eq_true hone
    have hts : ∀ X', Dy cA C (c.blk scope) X' → PTs X' xifs (semTs X'.K cA fun ρ st => evTs C ρ ifs st) := fun X' D' => by
      cases ifs with
      | nil => rw [chkTs_nil h5]; exact snd_ts0
      | cons i r =>
        obtain ⟨y, yr, rfl, h7, h8⟩ := chkTs_cons h5
        cases r with
        | nil => rw [chkTs_nil h8]; exact snd_ts1 ((Si i (by simp)).t _ _ h7 cA C X' D')
        | cons j r => simp at hone
    split at h4
    · obtain ⟨i, hi⟩ := Option.isSome_iff_exists.mp h4
      exact snd_compK Dc h1 h2 h3 hi hts fun X' D' => Se.v _ _ h6 cA C X' D'
    · split at h4
      · rename_i args ha
        exact snd_comp Dc h1 h2 h3 (snd_walkB Dc (walk_of ha h4) fun a y hs hc => (Ss a hs).b hc Dc) hts fun X' D' => Se.v _ _ h6 cA C X' D'
      · cases h4
  · cases h
end
end CM
end
section
set_option linter.all false
set_option maxRecDepth 100000
set_option maxHeartbeats 4000000
set_option maxHeartbeats 4000000
/-! Every expression that the checker takes does what the interpreter says. -/
namespace CM
open PySem PySem.Spec PyProof.Rows L2
theorem chkT_plain {e : E} (hp : ∀ c x, chkT c e x = true → plainT x = true ∧ chk c e x = true) (v : ∀ (c : Cs) (x : Expr), chk c e x = true → ∀ (cA : ClA) (C : Calls) (X : Cx), Dy cA C c X → ValE cA C X e x) : SndE e :=
  ⟨v, fun c x h cA C X Dc => let ⟨a, b⟩ := hp c x h; snd_plainT a (v c x b cA C X Dc)⟩
theorem noT {e : E} (hp : ∀ c x, chkT c e x = true → False) (v : ∀ (c : Cs) (x : Expr), chk c e x = true → ∀ (cA : ClA) (C : Calls) (X : Cx), Dy cA C c X → ValE cA C X e x) : SndE e :=
  ⟨v, fun c x h _ _ _ _ => (hp c x h).elim⟩
theorem none_ok {e : E} (hv : ∀ c x, chk c e x = true → False) (hp : ∀ c x, chkT c e x = true → False) : SndE e := ⟨fun c x h _ _ _ _ => (hv c x h).elim, fun c x h _ _ _ _ => (hp c x h).elim⟩

theorem s_var (i : Nat) : SndE (.var i) := by
  refine chkT_plain (fun c x h => ?_) fun c x h cA C X Dc => ?_
  · unfold chkT at h
    simp only [Bool.and_eq_true] at h
    exact ⟨h.1, by unfold chk; exact h.2⟩
  · obtain ⟨y, pos, rfl, h1, h2, h3⟩ := var_shape h
    exact snd_var Dc h1 h2 h3
theorem s_non : SndE .non := noT (fun c x h => by cases h) fun c x h cA C X Dc => by
  unfold chk at h
  split at h
  · exact snd_C (d := .non) pe_non (fun _ _ _ => .non) rfl
  · cases h
theorem s_bl (b : Bool) : SndE (.bl b) := by
  have v : ∀ (c : Cs) (x : Expr), chk c (.bl b) x = true → ∀ (cA : ClA) (C : Calls) (X : Cx), Dy cA C c X → ValE cA C X (.bl b) x := fun c x h cA C X Dc => by
    unfold chk at h
    split at h
    · obtain rfl := eq_of_beq h
      exact snd_C (d := .bl b) pe_bl (fun _ _ _ => .bl b) rfl
    · cases h
  refine chkT_plain (fun c x h => ?_) v
  unfold chkT at h
  split at h
  · exact ⟨rfl, by unfold chk; exact h⟩
  · cases h
theorem s_int (i : Int) : SndE (.int i) := noT (fun c x h => by cases h) fun c x h cA C X Dc => by
  unfold chk at h
  split at h
  · obtain rfl := eq_of_beq h
    exact snd_C (d := .int i) pe_int (fun _ _ _ => .int i) rfl
  · cases h
theorem s_str (s : List Char) : SndE (.str s) := noT (fun c x h => by cases h) fun c x h cA C X Dc => by
  unfold chk at h
  split at h
  · obtain rfl := of_decide_eq_true h
    exact snd_C (d := .str s) pe_str (fun _ _ _ => .str s) rfl
  · cases h
theorem s_glob (z : String) (s : List Char) : SndE (.glob z s) := noT (fun c x h => by cases h) fun c x h cA C X Dc => by
  unfold chk at h
  split at h
  · simp only [Bool.and_eq_true, decide_eq_true_eq] at h
    exact snd_glob Dc h.1.1 h.1.2 h.2
  · cases h
theorem s_globi (z : String) (s : Int) : SndE (.globi z s) := noT (fun c x h => by cases h) fun c x h cA C X Dc => by
  unfold chk at h
  split at h
  · simp only [Bool.and_eq_true, decide_eq_true_eq] at h
    exact snd_globi Dc h.1.1 h.1.2 h.2
  · cases h
theorem s_tup {es : List E} (S : ∀ e ∈ es, SndE e) : SndE (.tup es) := noT (fun c x h => by cases h) fun c x h cA C X Dc => by
  unfold chk at h
  split at h
  · simp only [Bool.and_eq_true, decide_eq_true_eq] at h
    exact snd_tup (snds Dc S h.2).1 h.1
  · cases h
theorem s_lst {es : List E} (S : ∀ e ∈ es, SndE e) : SndE (.lst es) := noT (fun c x h => by cases h) fun c x h cA C X Dc => by
  unfold chk at h
  split at h
  · simp only [Bool.and_eq_true, decide_eq_true_eq] at h
    exact snd_lst (snds Dc S h.2).1 h.1
  · cases h
theorem s_dct (t : Bool) : SndE (.dct t) := noT (fun c x h => by cases h) fun c x h cA C X Dc => by
  unfold chk at h
  split at h
  · exact snd_dct
  · cases h
theorem s_op {o : Op} {a b : E} (Sa : SndE a) (Sb : SndE b) : SndE (.op o a b) := by
  refine ⟨fun c x h cA C X Dc => ?_, fun c x h cA C X Dc => ?_⟩
  · unfold chk at h
    split at h
    · simp only [Bool.and_eq_true] at h
      exact snd_opA h.1.1 (Sa.b h.1.2 Dc) (Sb.b h.2 Dc)
    · simp only [Bool.and_eq_true, Bool.not_eq_true'] at h
      exact snd_opC Dc h.1.1.1 h.1.1.2 (Sa.b h.1.2 Dc) (Sb.b h.2 Dc)
    · simp only [Bool.and_eq_true] at h
      have : o = .idx := by
        have := h.1.1.1
        cases o <;> first | rfl | cases this
      subst this
      exact snd_opI Dc h.1.1.2 (Sa.b h.1.2 Dc) (Sb.b h.2 Dc)
    · cases h
  · unfold chkT at h
    split at h
    · simp only [Bool.and_eq_true, Bool.not_eq_true'] at h
      exact snd_opCT Dc h.1.1.1 h.1.1.2 (Sa.b h.1.2 Dc) (Sb.b h.2 Dc)
    · simp only [Bool.and_eq_true] at h
      have : o = .idx := by
        have := h.1.1.1
        cases o <;> first | rfl | cases this
      subst this
      exact snd_plainT rfl (snd_opI Dc h.1.1.2 (Sa.b h.1.2 Dc) (Sb.b h.2 Dc))
    · cases h
theorem s_neg {a : E} (Sa : SndE a) : SndE (.neg a) := noT (fun c x h => by cases h) fun c x h cA C X Dc => by
  unfold chk at h
  split at h
  · exact snd_neg (Sa.v _ _ h cA C X Dc)
  · cases h
theorem s_not {a : E} (Sa : SndE a) : SndE (.not a) := by
  refine ⟨fun c x h cA C X Dc => ?_, fun c x h cA C X Dc => ?_⟩
  · unfold chk at h
    split at h
    · exact snd_not (Sa.v _ _ h cA C X Dc)
    · cases h
  · unfold chkT at h
    split at h
    · exact snd_notT (Sa.t _ _ h cA C X Dc)
    · cases h
theorem nemp_of {es : List E} (h : (!es.isEmpty) = true) : es ≠ [] := by
  intro z; subst z; cases h
theorem s_and {es : List E} (S : ∀ e ∈ es, SndE e) : SndE (.and es) := by
  refine ⟨fun c x h cA C X Dc => ?_, fun c x h cA C X Dc => ?_⟩
  · unfold chk at h
    split at h
    · simp only [Bool.and_eq_true] at h
      exact sn_and S (nemp_of h.1) Dc h.2
    · cases h
  · unfold chkT at h
    split at h
    · simp only [Bool.and_eq_true] at h
      exact (sn_andT S (nemp_of h.1) Dc h.2).pt
    · cases h
theorem s_or {es : List E} (S : ∀ e ∈ es, SndE e) : SndE (.or es) := by
  refine ⟨fun c x h cA C X Dc => ?_, fun c x h cA C X Dc => ?_⟩
  · unfold chk at h
    split at h
    · simp only [Bool.and_eq_true] at h
      exact sn_or S (nemp_of h.1) Dc h.2
    · cases h
  · unfold chkT at h
    split at h
    · simp only [Bool.and_eq_true] at h
      exact (sn_orT S (nemp_of h.1) Dc h.2).pt
    · cases h
theorem s_ife {t a b : E} (St : SndE t) (Sa : SndE a) (Sb : SndE b) : SndE (.ife t a b) := noT (fun c x h => by cases h) fun c x h cA C X Dc => by
  unfold chk at h
  split at h
  · simp only [Bool.and_eq_true] at h
    exact snd_ife (St.t _ _ h.1.1 cA C X Dc) (Sa.v _ _ h.1.2 cA C X Dc) (Sb.v _ _ h.2 cA C X Dc)
  · cases h
theorem s_isN {a : E} (Sa : SndE a) : SndE (.isN a) := by
  refine ⟨fun c x h cA C X Dc => ?_, fun c x h cA C X Dc => ?_⟩
  · unfold chk at h
    split at h
    · exact snd_isN (Sa.b h Dc)
    · cases h
  · unfold chkT at h
    split at h
    · exact snd_isNT (Sa.b h Dc)
    · cases h
theorem s_notN {a : E} (Sa : SndE a) : SndE (.notN a) := by
  refine ⟨fun c x h cA C X Dc => ?_, fun c x h cA C X Dc => ?_⟩
  · unfold chk at h
    split at h
    · exact snd_notN (Sa.b h Dc)
    · cases h
  · unfold chkT at h
    split at h
    · exact snd_notNT (Sa.b h Dc)
    · cases h
theorem s_fld {a : E} {f : Fl} (Sa : SndE a) : SndE (.fld a f) := noT (fun c x h => by cases h) fun c x h cA C X Dc => by
  unfold chk at h
  split at h
  · simp only [Bool.and_eq_true, decide_eq_true_eq] at h
    exact snd_fld Dc h.1.1 h.1.2 (Sa.v _ _ h.2 cA C X Dc)
  · cases h
theorem s_slice {a : E} {lo hi : Option E} (Sa : SndE a) (Sl : ∀ e, lo = some e → SndE e) (Sh : ∀ e, hi = some e → SndE e) : SndE (.slice a lo hi) := noT (fun c x h => by cases h) fun c x h cA C X Dc => by
  unfold chk at h
  split at h
  · simp only [Bool.and_eq_true] at h
    exact snd_slice (Sa.b h.1.1 Dc) (sn_o Sl Dc h.1.2) (sn_o Sh Dc h.2)
  · cases h
theorem s_call {k : Nat} {es : List E} (S : ∀ e ∈ es, SndE e) : SndE (.call k es) := by
  refine chkT_plain (fun c x h => ?_) fun c x h cA C X Dc => sn_call S Dc h
  unfold chkT at h
  split at h
  · exact ⟨rfl, by unfold chk; exact h⟩
  · cases h
theorem s_mk {k : Nat} {es : List E} (S : ∀ e ∈ es, SndE e) : SndE (.mk k es) := noT (fun c x h => by cases h) fun c x h cA C X Dc => by
  have h2 : chk c (.call k es) x = true := by
    unfold chk at h ⊢
    exact h
  exact sn_call S Dc h2
theorem s_meth {k : Nat} {o : E} {es : List E} (So : SndE o) (S : ∀ e ∈ es, SndE e) : SndE (.meth k o es) := by
  refine chkT_plain (fun c x h => ?_) fun c x h cA C X Dc => sn_meth So S Dc h
  unfold chkT at h
  split at h
  · exact ⟨rfl, by unfold chk; exact h⟩
  · cases h
theorem s_bi {b : Bi} {es : List E} (S : ∀ e ∈ es, SndE e) : SndE (.bi b es) := by
  refine chkT_plain (fun c x h => ?_) fun c x h cA C X Dc => sn_bi S Dc h
  unfold chkT at h
  split at h
  · exact ⟨rfl, by unfold chk; exact h⟩
  · exact ⟨rfl, by unfold chk; exact h⟩
  · cases h
theorem s_dct1 (t : Bool) {k v : E} (Sk : SndE k) (Sv : SndE v) : SndE (.dct1 t k v) := noT (fun c x h => by cases h) fun c x h cA C X Dc => by
  unfold chk at h
  split at h
  · simp only [Bool.and_eq_true] at h
    exact snd_dct1 Dc (Sk.v _ _ h.1 cA C X Dc) (Sv.v _ _ h.2 cA C X Dc)
  · cases h
theorem s_dget {o k d : E} (So : SndE o) (Sk : SndE k) (Sd : SndE d) : SndE (.dget o k d) := noT (fun c x h => by cases h) fun c x h cA C X Dc => by
  unfold chk at h
  split at h
  · simp only [Bool.and_eq_true, decide_eq_true_eq] at h
    obtain ⟨⟨⟨⟨⟨⟨⟨h1, h2⟩, h3⟩, h4⟩, h5⟩, h6⟩, h7⟩, h8⟩ := h
    subst h1
    exact snd_dget Dc h2 h3 h4 h5 (So.b h6 Dc) (Sk.v _ _ h7 cA C X Dc) (Sd.v _ _ h8 cA C X Dc)
  · cases h
theorem s_listRev {a : E} (Sa : SndE a) : SndE (.listRev a) := noT (fun c x h => by cases h) fun c x h cA C X Dc => by
  unfold chk at h
  split at h
  · simp only [Bool.and_eq_true, decide_eq_true_eq] at h
    obtain ⟨⟨⟨⟨⟨h1, h2⟩, h3⟩, h4⟩, h5⟩, h6⟩ := h
    subst h1; subst h3
    exact snd_lrev Dc (gl_dy Dc h2) (gl_dy Dc h4) h5 (Sa.b h6 Dc)
  · cases h
theorem s_sortk (k : Nat) {a : E} (Sa : SndE a) : SndE (.sortk k a) := noT (fun c x h => by cases h) fun c x h cA C X Dc => by
  unfold chk at h
  split at h
  · simp only [Bool.and_eq_true, decide_eq_true_eq] at h
    obtain ⟨⟨⟨⟨⟨⟨⟨h1, h2⟩, h3⟩, h4⟩, h5⟩, h6⟩, h7⟩, h8⟩ := h
    subst h1; subst h2
    exact snd_sortk Dc (gl_dy Dc h3) h4 (gl_dy Dc h5) h6 h7 (Sa.b h8 Dc)
  · cases h
theorem s_inRng (g : Bool) {a lo hi : E} (Sa : SndE a) (Sl : SndE lo) (Sh : SndE hi) : SndE (.inRng g a lo hi) := by
  refine ⟨fun c x h cA C X Dc => ?_, fun c x h cA C X Dc => ?_⟩
  · unfold chk at h
    split at h
    · simp only [Bool.and_eq_true, decide_eq_true_eq, Bool.not_eq_true'] at h
      obtain ⟨⟨⟨⟨⟨⟨⟨⟨h1, h2⟩, h3⟩, h4⟩, h5⟩, h6⟩, h7⟩, h8⟩, h9⟩ := h
      subst h3
      exact snd_inRng Dc h1 h2 (gl_dy Dc h4) h5 h6 (Sa.v _ _ h7 cA C X Dc) (Sl.v _ _ h8 cA C X Dc) (Sh.v _ _ h9 cA C X Dc)
    · cases h
  · unfold chkT at h
    split at h
    · simp only [Bool.and_eq_true, decide_eq_true_eq, Bool.not_eq_true'] at h
      obtain ⟨⟨⟨⟨⟨⟨⟨⟨h1, h2⟩, h3⟩, h4⟩, h5⟩, h6⟩, h7⟩, h8⟩, h9⟩ := h
      subst h3
      exact snd_inRngT Dc h1 h2 (gl_dy Dc h4) h5 h6 (Sa.v _ _ h7 cA C X Dc) (Sl.v _ _ h8 cA C X Dc) (Sh.v _ _ h9 cA C X Dc)
    · cases h
theorem s_bm {b : Bm} {o : E} {es : List E} (So : SndE o) (S : ∀ e ∈ es, SndE e) : SndE (.bm b o es) := noT (fun c x h => by cases h) fun c x h cA C X Dc => sn_bm So S Dc h
theorem s_isi {a : E} {ts : List Ty} (Sa : SndE a) : SndE (.isi a ts) := by
  refine chkT_plain (fun c x h => ?_) fun c x h cA C X Dc => sn_isi Sa Dc h
  unfold chkT at h
  split at h
  · exact ⟨rfl, by unfold chk; exact h⟩
  · cases h
theorem s_comp {elt : E} {tg : Tg} {k : Ik} {src ifs : List E} (Se : SndE elt) (Ss : ∀ e ∈ src, SndE e) (Si : ∀ e ∈ ifs, SndE e) : SndE (.comp elt tg k src ifs) :=
  noT (fun c x h => by cases h) fun c x h cA C X Dc => sn_comp Se Ss Si Dc h
mutual
theorem sndE_all : ∀ e : E, SndE e
  | .var i => s_var i
  | .non => s_non
  | .bl b => s_bl b
  | .int i => s_int i
  | .str s => s_str s
  | .glob z s => s_glob z s
  | .globi z s => s_globi z s
  | .tup es => s_tup (sndE_alls es)
  | .lst es => s_lst (sndE_alls es)
  | .dct t => s_dct t
  | .op o a b => s_op (sndE_all a) (sndE_all b)
  | .neg a => s_neg (sndE_all a)
  | .not a => s_not (sndE_all a)
  | .and es => s_and (sndE_alls es)
  | .or es => s_or (sndE_alls es)
  | .ife t a b => s_ife (sndE_all t) (sndE_all a) (sndE_all b)
  | .isN a => s_isN (sndE_all a)
  | .notN a => s_notN (sndE_all a)
  | .fld a f => s_fld (sndE_all a)
  | .slice a lo hi => s_slice (sndE_all a) (sndE_allo lo) (sndE_allo hi)
  | .comp elt tg k src ifs => s_comp (sndE_all elt) (sndE_alls src) (sndE_alls ifs)
  | .call k es => s_call (sndE_alls es)
  | .mk k es => s_mk (sndE_alls es)
  | .meth k o es => s_meth (sndE_all o) (sndE_alls es)
  | .bi b es => s_bi (sndE_alls es)
  | .bm b o es => s_bm (sndE_all o) (sndE_alls es)
  | .isi a ts => s_isi (sndE_all a)
  | .dct1 t k v => s_dct1 t (sndE_all k) (sndE_all v)
  | .dget o k d => s_dget (sndE_all o) (sndE_all k) (sndE_all d)
  | .sortk k a => s_sortk k (sndE_all a)
  | .inRng g a lo hi => s_inRng g (sndE_all a) (sndE_all lo) (sndE_all hi)
  | .sortl _ _ _ => none_ok (fun c x h => by cases h) fun c x h => by cases h
  | .dictOf _ => none_ok (fun c x h => by cases h) fun c x h => by cases h
  | .listRev a => s_listRev (sndE_all a)
  | .box e => noT (fun c x h => by cases h) fun c x h cA C X Dc => snd_box ((sndE_all e).v _ _ (by unfold chk at h; exact h) cA C X Dc)
termination_by structural e => e
theorem sndE_alls : ∀ es : List E, ∀ e ∈ es, SndE e
  | [], _, h => by cases h
  | a :: r, e, h => by
    rcases List.mem_cons.mp h with h | h
    · rw [h]; exact sndE_all a
    · exact sndE_alls r e h
termination_by structural es => es
theorem sndE_allo : ∀ (o : Option E) (e : E), o = some e → SndE e
  | none, _, h => by cases h
  | some a, e, h => by cases h; exact sndE_all a
termination_by structural o => o
end
end CM
end
section
set_option linter.all false
set_option maxRecDepth 100000
set_option maxHeartbeats 4000000
/-! Statements. -/
namespace CM
open PySem PySem.Spec PyProof.Rows L2
/-- where a def stands: its heap at the entry, what is remembered -/
structure Gd where
  K : PySem.W.Frag
  cA : ClA
  as0 : List Addr
  ow0 : Addr → Prop
  H0 : Hp
  vm : List V := []
  dm : List D := []
  fz : List (Addr × HO) := []
structure BS (G : Gd) (as : List Addr) (ow : Addr → Prop) (H : Hp) (σ : L2.St) (ρ : Slots) (st : Sto) : Prop where
  env : EnvR G.K as ow H σ ρ
  own : ∀ (i : Nat) (d : D) (p : Addr), ρ[i]? = some (some d) → free d = false → σ[i]? = some (some (.ref p)) → ¬ G.ow0 p
  pst : Pst G.K G.cA G.as0 G.ow0 G.H0 as ow H st
  mem : RepVs G.K as ow H G.vm G.dm
  kept : ∀ q ∈ G.fz, H q.1 = some q.2 ∧ isMut q.2 = false
theorem BS.rel {G : Gd} {as : List Addr} {ow : Addr → Prop} {H : Hp} {σ : L2.St} {ρ : Slots} {st : Sto} (B : BS G as ow H σ ρ st) : Rel G.K G.cA as ow H st := B.pst.rel
theorem BS.keptU {G : Gd} {as : List Addr} {ow : Addr → Prop} {H : Hp} {σ : L2.St} {ρ : Slots} {st : Sto} (B : BS G as ow H σ ρ st) {l : Addr} {o o' : HO} (h : H l = some o) (m : isMut o = true) : ∀ q ∈ G.fz, (upd H l o') q.1 = some q.2 ∧ isMut q.2 = false := fun q hq => by
  obtain ⟨a, b⟩ := B.kept q hq
  refine ⟨?_, b⟩
  rw [upd_ne (ne_of a h (fun z => by rw [z, m] at b; cases b))]; exact a
def PostS (G : Gd) (r : R Fw) (D : Ends) : Prop := match r with
  | .ok (.next ρ') st' => ∀ as' ow' H' σ', BS G as' ow' H' σ' ρ' st' → D.nx σ' H'
  | .ok (.brk ρ') st' => ∀ as' ow' H' σ', BS G as' ow' H' σ' ρ' st' → D.bk σ' H'
  | .ok (.cont ρ') st' => ∀ as' ow' H' σ', BS G as' ow' H' σ' ρ' st' → D.ct σ' H'
  | .ok (.ret d) st' => ∀ v as' ow' H', Pst G.K G.cA G.as0 G.ow0 G.H0 as' ow' H' st' → RepX G.K as' ow' H' v d → (free d = false → ∀ p, v = .ref p → ¬ G.ow0 p) → (∀ q ∈ G.fz, H' q.1 = some q.2 ∧ isMut q.2 = false) → D.rt v H'
  | .top => True
  | _ => False
def semS (G : Gd) (f : Slots → Sto → R Fw) : TS := fun D σ H => ∃ as ow ρ st, BS G as ow H σ ρ st ∧ PostS G (f ρ st) D
section
variable {G : Gd} {C : Calls} {c : Cs} {X : Cx} {as as' : List Addr} {ow ow' : Addr → Prop} {H H' : Hp} {st st' : Sto} {σ : L2.St} {ρ : Slots} {D0 : Ends}
theorem BS.step (B : BS G as ow H σ ρ st) (p : Pst G.K G.cA as ow H as' ow' H' st') : BS G as' ow' H' σ ρ st' :=
  ⟨B.env.pst B.rel p, B.own, B.pst.trans p, B.mem.car (p.car B.rel), fun q hq => ⟨(p.keep q.1 q.2 (B.kept q hq).1 (B.rel.notTup (B.kept q hq).1 (B.kept q hq).2).1).1, (B.kept q hq).2⟩⟩
/-- a value is let go -/
theorem BS.freeze (B : BS G as ow H σ ρ st) {v : V} {d : D} (p : Pst G.K G.cA as ow H as' ow' H' st') (r : RepX G.K as' ow' H' v d) (f : free d = false → ∀ q, v = .ref q → ¬ ow q) :
    ∃ ow2, BS G as' ow2 H' σ ρ st' ∧ RepV G.K as' ow2 H' v (frz d) ∧ Pst G.K G.cA as ow H as' ow2 H' st' := by
  obtain ⟨ow2, p2, r2⟩ := CM.freeze p r f
  exact ⟨ow2, B.step p2, r2, p2⟩
/-- a slot takes a value -/
theorem BS.set (B : BS G as ow H σ ρ st) {v : V} {d : D} (p : Pst G.K G.cA as ow H as' ow' H' st') (r : RepX G.K as' ow' H' v d) (f : free d = false → ∀ q, v = .ref q → ¬ ow q) (i : Nat) :
    BS G as' ow' H' (σ.set i (some v)) (ρ.set i (some d)) st' := by
  have B1 := B.step p
  refine ⟨B1.env.set r fun hf j dj q e hj hs hfj => ?_, fun j dj q e1 hf e2 => ?_, B1.pst, B1.mem, B1.kept⟩
  · -- another slot's own thing was there before
    intro hsj
    obtain ⟨w, a, b⟩ := B.env.get j dj hs
    rw [hsj] at a; cases a
    have : ow q := by
      cases dj with
      | ol xs => obtain ⟨q', vs, e', w, _⟩ := b; cases e'; exact w
      | od t ks => cases t <;> (obtain ⟨q', vs, e', w, _⟩ := b; cases e'; exact w)
      | _ => cases hfj
    exact f hf q e this
  · by_cases hj : i = j
    · subst hj
      have hl : i < ρ.length := by have := (List.getElem?_eq_some_iff.mp e1).1; rwa [List.length_set] at this
      rw [List.getElem?_set_self hl] at e1; cases e1
      rw [List.getElem?_set_self (by rw [B.env.len]; exact hl)] at e2
      have ev : v = .ref q := Option.some.inj (Option.some.inj e2)
      exact fun z => f hf q ev (B.pst.pw q z)
    · rw [List.getElem?_set_ne hj] at e1 e2
      exact B.own j dj q e1 hf e2
/-- one step of a value's run -/
theorem semS_bind {fa : Slots → Sto → R D} {k : Slots → D → Sto → R Fw} {QQ : VK} (h : semS G (fun ρ st => (fa ρ st).bind (k ρ)) D0 σ H)
    (go : ∀ as ow ρ st, BS G as ow H σ ρ st → ∀ v d as1 ow1 H1 st1, Pst G.K G.cA as ow H as1 ow1 H1 st1 → RepX G.K as1 ow1 H1 v d → (free d = false → ∀ q, v = .ref q → ¬ ow q) → PostS G (k ρ d st1) D0 → QQ v H1) : semE G.K G.cA fa σ H QQ := by
  obtain ⟨as, ow, ρ, st, B, h⟩ := h
  refine ⟨as, ow, ρ, st, B.env, B.rel, ?_⟩
  dsimp only at h
  cases e : fa ρ st with
  | ok d st1 => rw [e] at h; exact fun v as1 ow1 H1 p r f => go as ow ρ st B v d as1 ow1 H1 st1 p r f h
  | top => trivial
  | bad => rw [e] at h; exact h.elim
  | err _ _ => rw [e] at h; exact h.elim
theorem semS_bindB {fa : Slots → Sto → R D} {k : Slots → D → Sto → R Fw} {QQ : VK} (h : semS G (fun ρ st => (fa ρ st).bind (k ρ)) D0 σ H)
    (go : ∀ as ow ρ st, BS G as ow H σ ρ st → ∀ v d as1 ow1 H1 st1, fa ρ st = .ok d st1 → Pst G.K G.cA as ow H as1 ow1 H1 st1 → RepX G.K as1 ow1 H1 v d → PostS G (k ρ d st1) D0 → QQ v H1) : semB G.K G.cA fa σ H QQ := by
  obtain ⟨as, ow, ρ, st, B, h⟩ := h
  refine ⟨as, ow, ρ, st, B.env, B.rel, ?_⟩
  dsimp only at h
  cases e : fa ρ st with
  | ok d st1 => rw [e] at h; exact fun v as1 ow1 H1 p r => go as ow ρ st B v d as1 ow1 H1 st1 e p r h
  | top => trivial
  | bad => rw [e] at h; exact h.elim
  | err _ _ => rw [e] at h; exact h.elim
theorem semS_bindT {fa : Slots → Sto → R D} {k : Slots → D → Sto → R Fw} {QQ : Bool → Hp → Prop} (hf : ∀ ρ d st, (∀ b, d ≠ .bl b) → k ρ d st = .bad) (h : semS G (fun ρ st => (fa ρ st).bind (k ρ)) D0 σ H)
    (go : ∀ as ow ρ st H1 b, BS G as ow H1 σ ρ st → PostS G (k ρ (.bl b) st) D0 → QQ b H1) : semT G.K G.cA fa σ H QQ := by
  obtain ⟨as, ow, ρ, st, B, h⟩ := h
  refine ⟨as, ow, ρ, st, B.env, B.rel, ?_⟩
  dsimp only at h
  cases e : fa ρ st with
  | ok d st1 =>
    rw [e] at h
    have h : PostS G (k ρ d st1) D0 := h
    cases d with
    | bl b => exact fun as1 ow1 H1 p => go as1 ow1 ρ st1 H1 b (B.step p) h
    | _ => rw [hf _ _ _ (fun b z => by cases z)] at h; exact h.elim
  | top => trivial
  | bad => rw [e] at h; exact h.elim
  | err _ _ => rw [e] at h; exact h.elim
theorem ps_imp {x : Stmt} {t t' : TS} (h : PS X x t) (i : ∀ D σ H, t' D σ H → t D σ H) : PS X x t' := ⟨fun pins s σ H D I q => h.run pins s σ H D I (i D σ H q)⟩
theorem pss_imp {x : List Stmt} {t t' : TS} (h : PSs X x t) (i : ∀ D σ H, t' D σ H → t D σ H) : PSs X x t' := ⟨fun pins s σ H D I q => h.run pins s σ H D I (i D σ H q)⟩
/-! ### small statements -/
theorem swapsName {e : Expr} {x : Str} {pos : Pos} {n : Nat} {env : PySem.Env} (h : ∀ a b sc p, e ≠ .ListComp a b sc p) (h2 : ∀ a b sc p, e ≠ .SetComp a b sc p) (h3 : ∀ a b d sc p, e ≠ .DictComp a b d sc p) (t : Option Expr) : swapsWith e t n env = pure false := by
  cases e <;> first | rfl | exact absurd rfl (h _ _ _ _) | exact absurd rfl (h2 _ _ _ _) | exact absurd rfl (h3 _ _ _ _ _)
def noComp : Expr → Bool
  | .ListComp _ _ _ _ => false
  | .SetComp _ _ _ _ => false
  | .DictComp _ _ _ _ _ => false
  | _ => true
theorem swaps_no {e : Expr} (h : noComp e = true) (t : Option Expr) (n : Nat) (env : PySem.Env) : swapsWith e t n env = pure false := by
  cases e <;> first | rfl | cases h
abbrev ValK (cA : ClA) (C : Calls) (X : Cx) (a : E) (x : Expr) : Prop := ValE cA C X a x
/-- i = e -/
theorem ss_asg1 {i : Nat} {a : E} {x : Str} {xe : Expr} {p pos : Pos} (hK : G.K = X.K) (Dc : Dy G.cA C c X) (ht : chkN c i (.Name x p) = true) (hs : swapsWith xe (some (.Name x p)) pos.line X.env = pure false) (ha : ValE G.cA C X a xe) :
    PS X (.Assign [.Name x p] xe pos) (semS G fun ρ st => evS C (.asg (.one i) a) ρ st) := by
  simp only [chkN, Bool.and_eq_true, decide_eq_true_eq] at ht
  obtain ⟨h1, h2⟩ := locB_ok Dc ht.2
  refine ps_imp (ps_set (i := i) (by rw [Dc.N]; exact Dc.nd) (by rw [Dc.N]; exact ht.1) h1 ha hs h2) fun D σ H h => ?_
  rw [← hK]
  refine semS_bind (k := fun ρ d st => ofO st ((asgT (.one i) d ρ).map .next)) h fun as ow ρ st B v d as1 ow1 H1 st1 p r f h3 => ?_
  exact h3 as1 ow1 H1 _ (B.set p r f i)
/-- .. a comprehension's, on one line -/
theorem swapsOr (x : Str) (p : Pos) (e : Expr) (n : Nat) (env : PySem.Env) : swapsWith e (some (.Name x p)) n env = pure false ∨ swapsWith e (some (.Name x p)) n env = pure true := by
  cases e <;> first | exact .inl rfl | skip
  all_goals (
    show (pure _ : Sem Bool) = pure false ∨ (pure _ : Sem Bool) = pure true
    generalize hb : (_ && _ : Bool) = b
    cases b <;> simp)
/-- a, b, .. = e -/
theorem foldl_own {p : Addr → Prop} : ∀ (l : List (Nat × D)) (ρ : Slots) (i : Nat) (d : D), (l.foldl (fun ρ p => ρ.set p.1 (some p.2)) ρ)[i]? = some (some d) → ρ[i]? = some (some d) ∨ ∃ q ∈ l, q.2 = d ∧ q.1 = i
  | [], ρ, i, d, h => .inl h
  | (j, e) :: l, ρ, i, d, h => by
    rcases foldl_own (p := p) l (ρ.set j (some e)) i d h with h | ⟨q, hq, h1, h2⟩
    · by_cases hj : j = i
      · subst hj
        have hl : j < ρ.length := by have := (List.getElem?_eq_some_iff.mp h).1; rwa [List.length_set] at this
        rw [List.getElem?_set_self hl] at h
        cases h
        exact .inr ⟨(j, e), by simp, rfl, rfl⟩
      · rw [List.getElem?_set_ne hj] at h
        exact .inl h
    · exact .inr ⟨q, by simp [hq], h1, h2⟩
theorem repVs_mem {K : PySem.W.Frag} : ∀ {vs : List V} {ds : List D}, RepVs K as ow H vs ds → ∀ d ∈ ds, free d = true
  | _, _, .nil, _, h => by cases h
  | _, _, .cons a r, d, h => by
    rcases List.mem_cons.mp h with h | h
    · rw [h]; exact rep_free a
    · exact repVs_mem r d h
theorem BS.many (B : BS G as ow H σ ρ st) {is : List Nat} {xs : List D} {σ' : L2.St} (hfr : ∀ d ∈ xs, free d = true) (E' : EnvR G.K as ow H σ' ((is.zip xs).foldl (fun ρ p => ρ.set p.1 (some p.2)) ρ)) (n : ∀ j, j ∉ is → σ'[j]? = σ[j]?) (hl : xs.length = is.length) :
    BS G as ow H σ' ((is.zip xs).foldl (fun ρ p => ρ.set p.1 (some p.2)) ρ) st := by
  refine ⟨E', fun i d p e hf e2 => ?_, B.pst, B.mem, B.kept⟩
  have key : ∀ (is : List Nat) (xs : List D) (ρ : Slots), xs.length = is.length → ((is.zip xs).foldl (fun ρ p => ρ.set p.1 (some p.2)) ρ)[i]? = some (some d) → (ρ[i]? = some (some d) ∧ i ∉ is) ∨ d ∈ xs := by
    intro is
    induction is with
    | nil => intro xs ρ hl h; exact .inl ⟨h, by simp⟩
    | cons j is ih =>
      intro xs ρ hl h
      cases xs with
      | nil => cases hl
      | cons y ys =>
        rcases ih ys (ρ.set j (some y)) (by simpa using hl) h with ⟨h1, h2⟩ | h1
        · by_cases hj : j = i
          · subst hj
            have hl2 : j < ρ.length := by have := (List.getElem?_eq_some_iff.mp h1).1; rwa [List.length_set] at this
            rw [List.getElem?_set_self hl2] at h1
            cases h1
            exact .inr (by simp)
          · rw [List.getElem?_set_ne hj] at h1
            exact .inl ⟨h1, by simp [h2, Ne.symm hj]⟩
        · exact .inr (by simp [h1])
  rcases key is xs ρ hl e with ⟨h1, h2⟩ | h1
  · rw [n i h2] at e2; exact B.own i d p h1 hf e2
  · rw [hfr d h1] at hf; cases hf
theorem ss_asgM {is : List Nat} {a : E} {xe : Expr} {xs : List Expr} {k : Nat} {p pos : Pos} (hK : G.K = X.K) (Dc : Dy G.cA C c X) (ht : chkNs c is xs = true) (hs : noComp xe = true) (hnt : ∀ es k p, xe ≠ .Tuple es k p) (ha : ValE G.cA C X a xe) :
    PS X (.Assign [.Tuple xs k p] xe pos) (semS G fun ρ st => evS C (.asg (.many is) a) ρ st) := by
  refine ps_imp (ps_asg ha (snd_tg (tg := .many is) Dc ht) (by show swapsWith xe (some (.Tuple xs k p)) pos.line X.env = pure false; exact swaps_no hs _ _ _) (by cases xe <;> first | rfl | exact absurd rfl (hnt _ _ _)) rfl) fun D σ H h => ?_
  rw [← hK]
  refine semS_bind (k := fun ρ d st => ofO st ((asgT (.many is) d ρ).map .next)) h fun as ow ρ st B v d as1 ow1 H1 st1 p r f h3 => ?_
  have B1 := B.step p
  cases d with
  | tup ys =>
    have h3 : PostS G (ofO st1 ((if ys.length = is.length then some ((is.zip ys).foldl (fun ρ p => ρ.set p.1 (some p.2)) ρ) else none).map .next)) D := h3
    by_cases hl : ys.length = is.length
    · rw [if_pos hl] at h3
      obtain ⟨q, vs, rfl, hq, rv⟩ := tup_rd r
      refine ⟨q, vs, rfl, .of hq, by rw [rv.length]; exact hl, gMany B1.env rv hl fun σ' E' n l => ?_⟩
      exact h3 as1 ow1 H1 σ' (B1.many (repVs_mem rv) E' n hl)
    · rw [if_neg hl] at h3; exact h3.elim
  | _ => exact h3.elim
/-- e -/
theorem ss_expr {a : E} {xe : Expr} {pos : Pos} (hK : G.K = X.K) (hs : noComp xe = true) (ha : ValE G.cA C X a xe) : PS X (.Expr xe pos) (semS G fun ρ st => evS C (.expr a) ρ st) := by
  refine ps_imp (ps_expr ha (swaps_no hs _ _ _)) fun D σ H h => ?_
  rw [← hK]
  refine semS_bind (k := fun ρ d st => .ok (.next ρ) st) h fun as ow ρ st B v d as1 ow1 H1 st1 p r f h3 => ?_
  exact h3 as1 ow1 H1 σ (B.step p)
theorem ss_retV {i : Nat} {x : Str} {p pos : Pos} (hK : G.K = X.K) (Dc : Dy G.cA C c X) (hN : c.N[i]? = some x) (hv : visB c.sc x = true) (hx : okNm x = true) : PS X (.Return (some (.Name x p)) pos) (semS G fun ρ st => evS C (.ret (.var i)) ρ st) := by
  simp only [okNm, Bool.and_eq_true, Bool.not_eq_true'] at hx
  refine ps_imp (ps_ret (pe_var (i := i) (by rw [Dc.N]; exact hN) (by rw [Dc.sc]; exact vis_ok hv) hx.1 hx.2)) fun D σ H h => ?_
  obtain ⟨as, ow, ρ, st, B, h⟩ := h
  have h : PostS G ((ofO st (getS ρ i)).bind fun d st => .ok (.ret d) st) D := h
  unfold getS at h
  split at h
  · rename_i d e2
    obtain ⟨v, h1, h2⟩ := B.env.get i d e2
    exact ⟨v, h1, h v as ow H B.pst h2 (fun hf q ev => B.own i d q e2 hf (by rw [h1, ev])) B.kept⟩
  · exact h.elim
theorem ss_ret {a : E} {xe : Expr} {pos : Pos} (hK : G.K = X.K) (hi : ∀ i, a ≠ .var i) (hv : ValE G.cA C X a xe) : PS X (.Return (some xe) pos) (semS G fun ρ st => evS C (.ret a) ρ st) := by
  refine ps_imp (ps_ret hv) fun D σ H h => ?_
  rw [← hK]
  have e0 : ∀ ρ st, evB C ρ a st = ev C ρ a st := fun ρ st => by
    cases a <;> first | rfl | exact absurd rfl (hi _)
  have h : semS G (fun ρ st => (ev C ρ a st).bind fun d st => .ok (.ret d) st) D σ H := by
    obtain ⟨as, ow, ρ, st, B, h⟩ := h
    have h : PostS G ((evB C ρ a st).bind fun d st => .ok (.ret d) st) D := h
    rw [e0] at h
    exact ⟨as, ow, ρ, st, B, h⟩
  refine semS_bind (k := fun ρ d st => .ok (.ret d) st) h fun as ow ρ st B v d as1 ow1 H1 st1 p r f h3 => ?_
  exact h3 v as1 ow1 H1 (B.pst.trans p) r (fun hf q ev z => f hf q ev (B.pst.pw q z)) (B.step p).kept
theorem ss_retN {pos : Pos} : PS X (.Return none pos) (semS G fun ρ st => evS C .retN ρ st) := by
  refine ps_imp ps_retN fun D σ H h => ?_
  obtain ⟨as, ow, ρ, st, B, h⟩ := h
  exact h .non as ow H B.pst .non (fun z => by cases z) B.kept
theorem ss_pass {pos : Pos} : PS X (.Pass pos) (semS G fun ρ st => evS C .pass ρ st) := by
  refine ps_imp ps_pass fun D σ H h => ?_
  obtain ⟨as, ow, ρ, st, B, h⟩ := h
  exact h as ow H σ B
theorem ss_brk {pos : Pos} : PS X (.Break pos) (semS G fun ρ st => evS C .brk ρ st) := by
  refine ps_imp ps_break fun D σ H h => ?_
  obtain ⟨as, ow, ρ, st, B, h⟩ := h
  exact h as ow H σ B
theorem ss_cont {pos : Pos} : PS X (.Continue pos) (semS G fun ρ st => evS C .cont ρ st) := by
  refine ps_imp ps_continue fun D σ H h => ?_
  obtain ⟨as, ow, ρ, st, B, h⟩ := h
  exact h as ow H σ B
theorem ss_raise {x : Option Expr} {pos : Pos} {k : Cl} {n : Option Nat} {es : List E} {y : Stmt} : PS X y (semS G fun ρ st => evS C (.raise k n es) ρ st) := by
  refine ps_imp ps_never fun D σ H h => ?_
  obtain ⟨as, ow, ρ, st, B, h⟩ := h
  exact h
theorem ss_if {t : E} {a b : List S} {xt : Expr} {xa xb : List Stmt} {pos : Pos} (hK : G.K = X.K) (ht : TesE G.cA C X t xt) (ha : PSs X xa (semS G fun ρ st => evSs C a ρ st)) (hb : PSs X xb (semS G fun ρ st => evSs C b ρ st)) :
    PS X (.If xt xa xb pos) (semS G fun ρ st => evS C (.iff t a b) ρ st) := by
  refine ps_imp (ps_if ht ha hb) fun D σ H h => ?_
  rw [← hK]
  refine semS_bindT (k := fun ρ d st => match d with
    | .bl true => evSs C a ρ st
    | .bl false => evSs C b ρ st
    | _ => .bad) (fun ρ d st hd => by cases d <;> first | rfl | exact absurd rfl (hd _)) h fun as ow ρ st H1 k B h1 => ?_
  cases k with
  | true => exact ⟨as, ow, ρ, st, B, h1⟩
  | false => exact ⟨as, ow, ρ, st, B, h1⟩
/-! ### blocks -/
theorem ss_nil : PSs X [] (semS G fun ρ st => evSs C [] ρ st) := by
  refine pss_imp pss_nil fun D σ H h => ?_
  obtain ⟨as, ow, ρ, st, B, h⟩ := h
  exact h as ow H σ B
theorem semS_seq {s : S} {r : List S} {D : Ends} (h : semS G (fun ρ st => evSs C (s :: r) ρ st) D σ H) : semS G (fun ρ st => evS C s ρ st) { D with nx := fun σ H => semS G (fun ρ st => evSs C r ρ st) D σ H } σ H := by
  obtain ⟨as, ow, ρ, st, B, h⟩ := h
  refine ⟨as, ow, ρ, st, B, ?_⟩
  have h : PostS G ((evS C s ρ st).bind fun fw st => match fw with
    | .next ρ => evSs C r ρ st
    | fw => .ok fw st) D := h
  dsimp only
  cases e : evS C s ρ st with
  | ok fw st1 =>
    rw [e] at h
    cases fw with
    | next ρ1 => exact fun as1 ow1 H1 σ1 B1 => ⟨as1, ow1, ρ1, st1, B1, h⟩
    | brk ρ1 => exact h
    | cont ρ1 => exact h
    | ret d => exact h
  | top => trivial
  | bad => rw [e] at h; exact h.elim
  | err _ _ => rw [e] at h; exact h.elim
theorem ss_cons {s : S} {r : List S} {x : Stmt} {xs : List Stmt} (h1 : PS X x (semS G fun ρ st => evS C s ρ st)) (h2 : PSs X xs (semS G fun ρ st => evSs C r ρ st)) : PSs X (x :: xs) (semS G fun ρ st => evSs C (s :: r) ρ st) :=
  pss_imp (pss_cons h1 h2) fun D σ H h => semS_seq h
theorem ss_doc {ss : List S} {x : Str} {j : Nat} {p p2 : Pos} {xs : List Stmt} (h : PSs X xs (semS G fun ρ st => evSs C ss ρ st)) : PSs X (.Expr (.Constant (.str x) j p) p2 :: xs) (semS G fun ρ st => evSs C ss ρ st) :=
  pss_imp (pss_cons ps_doc h) fun D σ H h => h
end
end CM
end
section
set_option linter.all false
set_option maxRecDepth 100000
set_option maxHeartbeats 4000000
/-! Statements that change things; loops. -/
namespace CM
open PySem PySem.Spec PyProof.Rows L2
section
variable {G : Gd} {C : Calls} {c : Cs} {X : Cx} {as as' : List Addr} {ow ow' : Addr → Prop} {H H' : Hp} {st st' : Sto} {σ : L2.St} {ρ : Slots} {D0 : Ends}
theorem RepX.upd {K : PySem.W.Frag} {cA : ClA} (R : Rel K cA as ow H st) {l : Addr} {o o' : HO} (hl : l ∈ as ∨ ow l) (h : H l = some o) {v : V} {d : D} (r : RepX K as ow H v d) (ne : free d = false → v ≠ .ref l) : RepX K as ow (upd H l o') v d := by
  have c := car_upd (o' := o') R hl h
  cases d with
  | ol xs =>
    obtain ⟨p, vs, rfl, w, hp, rv⟩ := r
    exact ⟨p, vs, rfl, w, by rw [upd_ne (fun z => ne rfl (by rw [z]))]; exact hp, rv.car c⟩
  | od t ks =>
    cases t with
    | false =>
      obtain ⟨p, vs, rfl, w, hp, rv⟩ := r
      exact ⟨p, vs, rfl, w, by rw [upd_ne (fun z => ne rfl (by rw [z]))]; exact hp, rv.car c⟩
    | true =>
      obtain ⟨p, vs, rfl, w, hp, rv⟩ := r
      exact ⟨p, vs, rfl, w, by rw [upd_ne (fun z => ne rfl (by rw [z]))]; exact hp, rv.car c⟩
  | _ => exact RepV.car c r
theorem own_ow {K : PySem.W.Frag} {v : V} {d : D} (r : RepX K as ow H v d) (f : free d = false) : ∃ p, v = .ref p ∧ ow p := by
  cases d with
  | ol xs => obtain ⟨p, vs, rfl, w, _⟩ := r; exact ⟨p, rfl, w⟩
  | od t ks => cases t <;> (obtain ⟨p, vs, rfl, w, _⟩ := r; exact ⟨p, rfl, w⟩)
  | _ => cases f
theorem BS.updSlot (B : BS G as ow H σ ρ st) {i : Nat} {l : Addr} {d d' : D} {o o' : HO} (e1 : ρ[i]? = some (some d)) (hf : free d = false) (e2 : σ[i]? = some (some (.ref l))) (h : H l = some o) (m' : isMut o' = true) (hf' : free d' = false)
    (new : ∀ H2, Car as ow H as ow H2 → H2 l = some o' → RepX G.K as ow H2 (.ref l) d') : BS G as ow (upd H l o') σ (ρ.set i (some d')) st := by
  have R := B.rel
  obtain ⟨v, a1, r1⟩ := B.env.get i d e1
  rw [e2] at a1; cases a1
  obtain ⟨l', el, hw⟩ := own_ow r1 hf
  cases el
  have c := car_upd (o' := o') R (.inr hw) h
  have hi : i < ρ.length := (List.getElem?_eq_some_iff.mp e1).1
  have n0 : ¬ G.ow0 l := B.own i d l e1 hf e2
  refine ⟨⟨by rw [List.length_set, B.env.len], fun j dj e => ?_, fun j k dj dk p hjk h1 h2 f1 f2 s1 => ?_⟩, fun j dj p h1 f1 s1 => ?_, ⟨B.pst.pre, B.pst.pw, fun q ob e n => ?_, R.updSlot hw h m'⟩, B.mem.car c, B.keptU h (by
    rcases R.mto _ hw with ⟨o9, e9, m9⟩; rw [h] at e9; cases e9; exact m9)⟩
  · by_cases hj : i = j
    · subst hj
      rw [List.getElem?_set_self hi] at e; cases e
      exact ⟨.ref l, e2, new _ c upd_same⟩
    · rw [List.getElem?_set_ne hj] at e
      obtain ⟨w, a, b⟩ := B.env.get j dj e
      refine ⟨w, a, b.upd R (.inr hw) h fun f z => ?_⟩
      subst z
      exact B.env.uni i j d dj l hj e1 e hf f e2 a
  · by_cases hj : i = j
    · subst hj
      rw [e2] at s1; cases s1
      rw [List.getElem?_set_ne hjk] at h2
      exact B.env.uni i k d dk l hjk e1 h2 hf f2 e2
    · rw [List.getElem?_set_ne hj] at h1
      by_cases hk : i = k
      · subst hk
        exact B.env.uni j i dj d p hjk h1 e1 f1 hf s1
      · rw [List.getElem?_set_ne hk] at h2
        exact B.env.uni j k dj dk p hjk h1 h2 f1 f2 s1
  · by_cases hj : i = j
    · subst hj
      rw [e2] at s1; cases s1; exact n0
    · rw [List.getElem?_set_ne hj] at h1
      exact B.own j dj p h1 f1 s1
  · obtain ⟨x1, x2, x3⟩ := B.pst.keep q ob e n
    exact ⟨by rw [upd_ne (fun z => n0 (x3 (by rw [z]; exact hw) |> fun y => by rw [← z]; exact y))]; exact x1, x2, x3⟩
theorem BS.updCell (B : BS G as ow H σ ρ st) {n : Nat} {l : Addr} {x x' : Cell} {o o' : HO} (e1 : st[n]? = some x) (e2 : as[n]? = some l) (h : H l = some o) (m' : isMut o' = true)
    (new : ∀ H2, Car as ow H as ow H2 → H2 l = some o' → RepC G.K G.cA as ow H2 l x') : BS G as ow (upd H l o') σ ρ (st.set n x') := by
  have R := B.rel
  have hl : l ∈ as := List.mem_of_getElem? e2
  have c := car_upd (o' := o') R (.inl hl) h
  have no : ¬ ow l := fun z => R.dis l z hl
  have hn : n < st.length := (List.getElem?_eq_some_iff.mp e1).1
  refine ⟨⟨B.env.len, fun j dj e => ?_, B.env.uni⟩, B.own, ⟨B.pst.pre, B.pst.pw, fun q ob e n' => ?_, ⟨by rw [List.length_set]; exact R.len, R.nd, R.dis, fun a ha => ?_, fun a ha => ?_, fun m y a h1 h2 => ?_⟩⟩, B.mem.car c, B.keptU h (by rcases R.mta _ hl with ⟨o9, e9, m9⟩; rw [h] at e9; cases e9; exact m9)⟩
  · obtain ⟨w, a, b⟩ := B.env.get j dj e
    refine ⟨w, a, b.upd R (.inl hl) h fun f z => ?_⟩
    subst z
    obtain ⟨p, ep, hw⟩ := own_ow b f
    cases ep
    exact no hw
  · obtain ⟨x1, x2, x3⟩ := B.pst.keep q ob e n'
    exact ⟨by rw [upd_ne (fun z => x2 (by rw [z]; exact hl))]; exact x1, x2, x3⟩
  · by_cases z : a = l
    · subst z; exact ⟨o', upd_same, m'⟩
    · rw [upd_ne z]; exact R.mta a ha
  · rw [upd_ne (fun z => no (by rw [← z]; exact ha))]; exact R.mto a ha
  · by_cases hm : n = m
    · subst hm
      rw [List.getElem?_set_self hn] at h1; cases h1
      rw [e2] at h2; cases h2
      exact new _ c upd_same
    · rw [List.getElem?_set_ne hm] at h1
      refine (R.cell m y a h1 h2).car c (upd_ne fun z => hm ?_)
      subst z
      exact (List.getElem?_inj (List.getElem?_eq_some_iff.mp e2).1 R.nd).mp (e2.trans h2.symm)
/-! ### what is in one's own hand is let go (no code) -/
theorem BS.frz (B : BS G as ow H σ ρ st) (i : Nat) {d : D} (e : getS ρ i = some d) : ∃ ow2, BS G as ow2 H σ (ρ.set i (some (CM.frz d))) st := by
  have e1 : ρ[i]? = some (some d) := by
    unfold getS at e
    split at e
    · rename_i d' h; cases e; exact h
    · cases e
  obtain ⟨v, a, r⟩ := B.env.get i d e1
  by_cases hf : free d = true
  · have : CM.frz d = d := by cases d <;> first | rfl | cases hf
    rw [this]
    have : ρ.set i (some d) = ρ := by
      apply List.ext_getElem?
      intro j
      by_cases hj : i = j
      · subst hj
        rw [List.getElem?_set_self (List.getElem?_eq_some_iff.mp e1).1, e1]
      · rw [List.getElem?_set_ne hj]
    rw [this]
    exact ⟨ow, B⟩
  · have hf : free d = false := by simpa using hf
    obtain ⟨q, rfl, hw⟩ := own_ow r hf
    have hi : i < ρ.length := (List.getElem?_eq_some_iff.mp e1).1
    refine ⟨fun z => ow z ∧ z ≠ q, ?_⟩
    have R := B.rel
    have lc : Car as ow H as (fun z => ow z ∧ z ≠ q) H := Car.less fun _ h => h.1
    have hq : ∀ {dj : D} {j : Nat} {p : Addr}, i ≠ j → ρ[j]? = some (some dj) → free dj = false → σ[j]? = some (some (.ref p)) → p ≠ q := fun {dj j p} hij e fj sj z => by
      subst z
      exact B.env.uni i j d dj p hij e1 e hf fj a sj
    have less : ∀ {w : V} {dj : D}, RepX G.K as ow H w dj → (free dj = false → w ≠ .ref q) → RepX G.K as (fun z => ow z ∧ z ≠ q) H w dj := fun {w dj} r ne => by
      cases dj with
      | ol xs => obtain ⟨p, vs, rfl, w, hp, rv⟩ := r; exact ⟨p, vs, rfl, ⟨w, fun z => ne rfl (by rw [z])⟩, hp, rv.car lc⟩
      | od t ks =>
        cases t with
        | false => obtain ⟨p, vs, rfl, w, hp, rv⟩ := r; exact ⟨p, vs, rfl, ⟨w, fun z => ne rfl (by rw [z])⟩, hp, rv.car lc⟩
        | true => obtain ⟨p, vs, rfl, w, hp, rv⟩ := r; exact ⟨p, vs, rfl, ⟨w, fun z => ne rfl (by rw [z])⟩, hp, rv.car lc⟩
      | _ => exact RepV.car lc r
    have nq : q ∉ as := R.owNot hw
    refine ⟨⟨by rw [List.length_set, B.env.len], fun j dj e => ?_, fun j k dj dk p hjk h1 h2 f1 f2 s1 => ?_⟩, fun j dj p h1 f1 s1 => ?_, ⟨B.pst.pre, fun p z => ⟨B.pst.pw p z, fun e => B.own i d q e1 hf a (by rw [← e]; exact z)⟩, fun p ob e n => ?_, R.less fun _ h => h.1⟩, B.mem.car lc, B.kept⟩
    · by_cases hj : i = j
      · subst hj
        rw [List.getElem?_set_self hi] at e; cases e
        refine ⟨_, a, rxs_of ?_⟩
        cases d with
        | ol xs => obtain ⟨p, vs, ep, w, hp, rv⟩ := r; cases ep; exact .fl hp nq (fun z => z.2 rfl) (rv.car lc)
        | od t ks =>
          cases t with
          | false => obtain ⟨p, vs, ep, w, hp, rv⟩ := r; cases ep; exact .fdk (.of hp) nq (fun z => z.2 rfl) (rv.car lc)
          | true => obtain ⟨p, vs, ep, w, hp, rv⟩ := r; cases ep; exact .fdt (.of hp) nq (fun z => z.2 rfl) (rv.car lc)
        | _ => cases hf
      · rw [List.getElem?_set_ne hj] at e
        obtain ⟨w, a', b⟩ := B.env.get j dj e
        exact ⟨w, a', less b fun f z => hq hj e f (by rw [a', z]) rfl⟩
    · by_cases hj : i = j
      · subst hj
        rw [List.getElem?_set_self hi] at h1; cases h1
        rw [frz_free] at f1; cases f1
      · rw [List.getElem?_set_ne hj] at h1
        by_cases hk : i = k
        · subst hk
          rw [List.getElem?_set_self hi] at h2; cases h2
          rw [frz_free] at f2; cases f2
        · rw [List.getElem?_set_ne hk] at h2
          exact B.env.uni j k dj dk p hjk h1 h2 f1 f2 s1
    · by_cases hj : i = j
      · subst hj
        rw [List.getElem?_set_self hi] at h1; cases h1
        rw [frz_free] at f1; cases f1
      · rw [List.getElem?_set_ne hj] at h1
        exact B.own j dj p h1 f1 s1
    · obtain ⟨x1, x2, x3⟩ := B.pst.keep p ob e n
      exact ⟨x1, x2, fun z => x3 z.1⟩
theorem ss_frz {i : Nat} {r : List S} {xs : List Stmt} (h : PSs X xs (semS G fun ρ st => evSs C r ρ st)) : PSs X xs (semS G fun ρ st => evSs C (.frz i :: r) ρ st) := by
  refine pss_imp h fun D σ H q => ?_
  obtain ⟨as, ow, ρ, st, B, q⟩ := q
  have q : PostS G ((match getS ρ i with
    | some d => .ok (.next (ρ.set i (some (CM.frz d)))) st
    | none => .ok (.next ρ) st : R Fw).bind fun fw st => match fw with
    | .next ρ => evSs C r ρ st
    | fw => .ok fw st) D := q
  cases e : getS ρ i with
  | none => rw [e] at q; exact ⟨as, ow, ρ, st, B, q⟩
  | some d =>
    rw [e] at q
    obtain ⟨ow2, B2⟩ := B.frz i e
    exact ⟨as, ow2, _, st, B2, q⟩
/-! ### a list's own methods -/
theorem ls_len {K : PySem.W.Frag} {vs : List V} {ds : List D} (r : RepVs K as ow H vs ds) : vs.length = ds.length := r.length
/-- the argument list of a method, let go -/
theorem semL_evs (B : BS G as ow H σ ρ st) {es : List E} {k : List D → Sto → R Fw} {D : Ends} {QQ : List V → Hp → Prop} (h : PostS G ((evs C ρ es st).bind k) D)
    (go : ∀ ws ds as1 ow1 H1 st1, BS G as1 ow1 H1 σ ρ st1 → Pst G.K G.cA as ow H as1 ow1 H1 st1 → RepVs G.K as1 ow1 H1 ws ds → PostS G (k ds st1) D → QQ ws H1) : semL G.K G.cA (fun ρ st => evs C ρ es st) σ H QQ := by
  refine ⟨as, ow, ρ, st, B.env, B.rel, ?_⟩
  dsimp only
  cases e : evs C ρ es st with
  | ok ds st1 => rw [e] at h; exact fun ws as1 ow1 H1 p r => go ws ds as1 ow1 H1 st1 (B.step p) p r h
  | top => trivial
  | bad => rw [e] at h; exact h.elim
  | err _ _ => rw [e] at h; exact h.elim
/-- a list that may be changed: what stands for it -/
theorem lsP_own {K : PySem.W.Frag} {cA : ClA} (R : Rel K cA as ow H st) {v : V} {d : D} {xs : List D} (h : RepX K as ow H v d) (e : lsP st d = some xs) (nf : ∀ ys, d ≠ .fl ys) : ∃ l vs, v = .ref l ∧ H l = some (.lst vs) ∧ RepVs K as ow H vs xs ∧ ((d = .ol xs ∧ ow l) ∨ ∃ n, d = .ref n ∧ st[n]? = some (.lst xs) ∧ as[n]? = some l) := by
  cases d with
  | ol ds => obtain ⟨p, vs, q1, w, q2, q3⟩ := h; cases e; exact ⟨p, vs, q1, q2, q3, .inl ⟨rfl, w⟩⟩
  | fl ds => exact absurd rfl (nf _)
  | ref n =>
    cases h with
    | ref ea =>
      cases ec : st[n]? with
      | none => simp [lsP, lsOf, ec] at e
      | some c =>
        simp only [lsP, lsOf, ec] at e
        cases c with
        | lst ys =>
          cases e
          obtain ⟨vs, h1, h2⟩ := R.cell n _ _ ec ea
          exact ⟨_, vs, rfl, h1, h2, .inr ⟨n, rfl, ec, ea⟩⟩
        | _ => cases e
  | _ => cases e
theorem lst_tyV {K : PySem.W.Frag} {cA : ClA} (R : Rel K cA as ow H st) {v : V} {d : D} (h : RepX K as ow H v d) (e : (lsP st d).isSome = true) : tyV K "list" v H := by
  cases hl : lsP st d with
  | none => rw [hl] at e; cases e
  | some xs =>
    obtain ⟨p, vs, rfl, hp, _⟩ := lsP_rd R h hl
    exact .inl ⟨rfl, vs, .of hp⟩
/-- the change itself -/
theorem updL_ok {o : E} {x : D} {g : List D → Option (List D)} {v : V} {D : Ends} (B : BS G as ow H σ ρ st) (r : RepX G.K as ow H v x) (hv : ∀ i, o = .var i → ρ[i]? = some (some x) ∧ σ[i]? = some (some v))
    (h : PostS G ((updL o x ρ st g).bind fun ρ st => .ok (.next ρ) st) D) : ∃ l vs xs ys, v = .ref l ∧ H l = some (.lst vs) ∧ RepVs G.K as ow H vs xs ∧ g xs = some ys ∧
      ∀ vs', RepVs G.K as ow H vs' ys → D.nx σ (upd H l (.lst vs')) := by
  unfold updL at h
  split at h
  · rename_i n
    cases r with
    | @ref _ l ea =>
      split at h
      · rename_i xs ec
        obtain ⟨vs, h1, h2⟩ := B.rel.cell n _ _ ec ea
        split at h
        · rename_i ys hg
          refine ⟨l, vs, xs, ys, rfl, h1, h2, hg, fun vs' rv => ?_⟩
          exact h _ _ _ _ (B.updCell (x' := .lst ys) ec ea h1 rfl fun H2 c e => ⟨vs', e, rv.car c⟩)
        · exact h.elim
      · exact h.elim
  · rename_i xs
    obtain ⟨l, vs, rfl, w, h1, h2⟩ := r
    split at h
    · rename_i i
      obtain ⟨e1, e2⟩ := hv i rfl
      split at h
      · rename_i ys hg
        refine ⟨l, vs, xs, ys, rfl, h1, h2, hg, fun vs' rv => ?_⟩
        exact h _ _ _ _ (B.updSlot (d' := .ol ys) e1 rfl e2 h1 rfl rfl fun H2 c e => ⟨l, vs', rfl, w, e, rv.car c⟩)
      · exact h.elim
    · exact h.elim
  · exact h.elim
/-- what a method of lists asks -/
def MutR (X : Cx) (r : V → List V → Hp → VK → Prop) (g : List D → List D → Option (List D)) : Prop :=
  ∀ (as : List Addr) (ow : Addr → Prop) (H : Hp) (l : Addr) (vs ws : List V) (xs ds ys : List D) (Q : VK), H l = some (.lst vs) → RepVs X.K as ow H vs xs → RepVs X.K as ow H ws ds → g ds xs = some ys →
    (∀ vs', RepVs X.K as ow H vs' ys → Q .non (upd H l (.lst vs'))) → r (.ref l) ws H Q
theorem getS_at {i : Nat} {d : D} (e : getS ρ i = some d) : ρ[i]? = some (some d) := by
  unfold getS at e
  split at e
  · rename_i d' h; cases e; exact h
  · cases e
/-- a variable, and what its slot holds -/
theorem pe_slot {i : Nat} {x : Str} {pos : Pos} (Dc : Dy G.cA C c X) (hN : c.N[i]? = some x) (hv : visB c.sc x = true) (hx : okNm x = true) : PE X (.Name x pos) (tVar i) := by
  simp only [okNm, Bool.and_eq_true, Bool.not_eq_true'] at hx
  exact pe_var (i := i) (by rw [Dc.N]; exact hN) (by rw [Dc.sc]; exact vis_ok hv) hx.1 hx.2
/-- the receiver of a change: a variable, or any value -/
structure RecvE (cA : ClA) (C : Calls) (X : Cx) (o : E) (xo : Expr) : Prop where
  va : ∀ i, o = .var i → PE X xo (tVar i)
  vl : (∀ i, o ≠ .var i) → ValE cA C X o xo
/-- the receiver's value, then the rest -/
theorem recv_ok (hK : G.K = X.K) {o : E} {xo : Expr} (hr : RecvE G.cA C X o xo) {k : Slots → D → Sto → R Fw} : ∃ to : TE, PE X xo to ∧ ∀ D σ H QQ, semS G (fun ρ st => (evB C ρ o st).bind (k ρ)) D σ H →
    (∀ as ow H1 ρ st v x, BS G as ow H1 σ ρ st → RepX G.K as ow H1 v x → (∀ i, o = .var i → ρ[i]? = some (some x) ∧ σ[i]? = some (some v)) → PostS G (k ρ x st) D → QQ v H1) → to σ H QQ := by
  by_cases hi : ∃ i, o = .var i
  · obtain ⟨i, rfl⟩ := hi
    refine ⟨_, hr.va i rfl, fun D σ H QQ h go => ?_⟩
    obtain ⟨as, ow, ρ, st, B, h⟩ := h
    have h : PostS G ((ofO st (getS ρ i)).bind (k ρ)) D := h
    cases e : getS ρ i with
    | none => rw [e] at h; exact h.elim
    | some x =>
      rw [e] at h
      obtain ⟨v, a, b⟩ := B.env.get i x (getS_at e)
      exact ⟨v, a, go as ow H ρ st v x B b (fun j ej => by cases ej; exact ⟨getS_at e, a⟩) h⟩
  · refine ⟨_, hr.vl fun i z => hi ⟨i, z⟩, fun D σ H QQ h go => ?_⟩
    rw [← hK]
    have e0 : ∀ ρ st, evB C ρ o st = ev C ρ o st := fun ρ st => by
      cases o <;> first | rfl | exact absurd ⟨_, rfl⟩ hi
    have h : semS G (fun ρ st => (ev C ρ o st).bind (k ρ)) D σ H := by
      obtain ⟨as, ow, ρ, st, B, h⟩ := h
      have h : PostS G ((evB C ρ o st).bind (k ρ)) D := h
      rw [e0] at h
      exact ⟨as, ow, ρ, st, B, h⟩
    refine semS_bind h fun as ow ρ st B v d as1 ow1 H1 st1 p r f h3 => ?_
    exact go as1 ow1 H1 ρ st1 v d (B.step p) r (fun i z => absurd ⟨i, z⟩ hi) h3
theorem ss_mutL {name : Str} {mid : String} {r : V → List V → Hp → VK → Prop} {g : List D → List D → Option (List D)} {o : E} {es : List E} {xo x0 : Expr} {xs : List Expr} {apos cpos pos : Pos} (hK : G.K = X.K) (Dc : Dy G.cA C c X) (slot : Slot "list" name mid) (hty : typeOf (.builtin mid) = pure (.type "method_descriptor")) (hm : MtR X mid r) (hg : MutR X r g)
    (hb : noCall0 xo = true) (hl : (apos.endLine == cpos.line) = true) (h30 : (x0 :: xs).length < 30) (hh : (x0 :: xs).all okHead = true) (ho : RecvE G.cA C X o xo) (ha : PA X (x0 :: xs) (semL X.K G.cA fun ρ st => evs C ρ es st)) :
    PS X (.Expr (.Call (.Attribute xo name apos) (x0 :: xs) [] cpos) pos) (semS G fun ρ st => mutL C ρ o es st g) := by
  have hh0 := hh
  simp only [List.all_cons, Bool.and_eq_true] at hh
  obtain ⟨to, h1, h2⟩ := recv_ok (k := fun ρ x st => if (lsP st x).isSome then (evs C ρ es st).bind fun ds st => (updL o x ρ st (g ds)).bind fun ρ st => .ok (.next ρ) st else .bad) hK ho
  refine ps_imp (ps_expr (pe_bm PySem.F.plainAttrs_list slot hty hm h1 ha (base_ok hb) (few_ok hh0 h30) hl (star_one hh.1 _ _) (back_plain hh.2))) fun D σ H h => ?_
  refine h2 D σ H _ h fun as ow H1 ρ st v x B r1 hv h3 => ?_
  by_cases hs : (lsP st x).isSome = true
  · rw [if_pos hs] at h3
    refine ⟨hK ▸ lst_tyV B.rel r1 hs, ?_⟩
    rw [← hK]
    refine semL_evs B h3 fun ws ds as2 ow2 H2 st2 B2 p2 rw2 h4 => ?_
    have r2 : RepX G.K as2 ow2 H2 v x := r1.pst B.rel p2
    obtain ⟨l, vs, xs', ys, rfl, e1, e2, e3, e4⟩ := updL_ok B2 r2 hv h4
    exact hg as2 ow2 H2 l vs ws xs' ds ys _ e1 (hK ▸ e2) (hK ▸ rw2) e3 fun vs' rv => e4 vs' (hK ▸ rv)
  · rw [if_neg hs] at h3; exact h3.elim
end
end CM
end
section
set_option linter.all false
set_option maxRecDepth 100000
set_option maxHeartbeats 4000000
/-! Methods of lists; items stored; loops. -/
namespace CM
open PySem PySem.Spec PyProof.Rows L2
section
variable {G : Gd} {C : Calls} {c : Cs} {X : Cx} {as as' : List Addr} {ow ow' : Addr → Prop} {H H' : Hp} {st st' : Sto} {σ : L2.St} {ρ : Slots} {D0 : Ends}
theorem mut_append : MutR X rAppend fun ds xs => match ds with
    | [d] => if xs.length < 16777216 then some (xs ++ [d]) else none
    | _ => none := by
  intro as ow H l vs ws xs ds ys Q h r1 r2 e q
  match ds, e, r2 with
  | [d], e, r2 =>
    cases r2 with
    | cons a t =>
      cases t
      have e : (if xs.length < 16777216 then some (xs ++ [d]) else none) = some ys := e
      split at e
      · rename_i hl
        cases e
        exact ⟨l, vs, _, rfl, rfl, h, by rw [r1.length, sizeLine_eq]; exact hl, q _ (r1.append (.cons a .nil))⟩
      · cases e
theorem mut_insert0 : MutR X (fun x vs H Q => ∃ (l : Addr) (xs : List V) (i : Int) (y : V), x = .ref l ∧ vs = [.int i, y] ∧ H l = some (.lst xs) ∧ xs.length < sizeLine ∧ 0 ≤ i ∧ i < 2 ^ 63 ∧
    Q .non (upd H l (.lst (xs.take i.toNat ++ [y] ++ xs.drop i.toNat)))) fun ds xs => match ds with
    | [.int 0, d] => if xs.length < 16777216 then some (d :: xs) else none
    | _ => none := by
  intro as ow H l vs ws xs ds ys Q h r1 r2 e q
  match ds, e, r2 with
  | [.int 0, d], e, r2 =>
    cases r2 with
    | cons a t =>
      cases t with
      | cons b t =>
        cases t
        cases a
        have e : (if xs.length < 16777216 then some (d :: xs) else none) = some ys := e
        split at e
        · rename_i hl
          cases e
          exact ⟨l, vs, 0, _, rfl, rfl, h, by rw [r1.length, sizeLine_eq]; exact hl, by decide, by decide, q _ (.cons b r1)⟩
        · cases e
/-! ### x op= e, numbers -/
def augOk : Op → Operator → Bool
  | .add, .Add => true
  | .sub, .Sub => true
  | _, _ => false
def rIpS (K : PySem.W.Frag) (cA : ClA) (o : Op) : R2 := fun x y H Q => ∃ as ow st i j d, Rel K cA as ow H st ∧ x = .int i ∧ y = .int j ∧ opS st o (.int i) (.int j) = some d ∧ Out K cA as ow H st d Q
theorem ip_int {cA : ClA} {o : Op} {op : Operator} (ho : augOk o op = true) : PIp X op (rIpS X.K cA o) := by
  intro pins s σ H x y v u Q I rx ry h
  obtain ⟨as, ow, st, i, j, d, R, rfl, rfl, e, out⟩ := h
  cases o <;> cases op <;> first | (cases ho; done) | skip
  · cases e
    exact ip_add pins s σ H _ _ v u Q I rx ry ⟨i, j, rfl, rfl, out.here R (.int _) rfl⟩
  · cases e
    exact ip_sub pins s σ H _ _ v u Q I rx ry ⟨i, j, rfl, rfl, out.here R (.int _) rfl⟩
def isInt : D → Bool
  | .int _ => true
  | _ => false
theorem ss_aug {i : Nat} {o : Op} {op : Operator} {a : E} {x : Str} {xe : Expr} {p pos : Pos} (hK : G.K = X.K) (Dc : Dy G.cA C c X) (ho : augOk o op = true) (ht : chkN c i (.Name x p) = true) (ha : ValE G.cA C X a xe) :
    PS X (.AugAssign (.Name x p) op xe pos) (semS G fun ρ st => evS C (.aug i o a) ρ st) := by
  simp only [chkN, Bool.and_eq_true, decide_eq_true_eq] at ht
  obtain ⟨h1, h2⟩ := locB_ok Dc ht.2
  refine ps_imp (ps_aug (i := i) (by rw [Dc.N]; exact Dc.nd) (by rw [Dc.N]; exact ht.1) h1 ha (ip_int (cA := G.cA) ho) h2) fun D σ H h => ?_
  obtain ⟨as, ow, ρ, st, B, h⟩ := h
  have h : PostS G (match getS ρ i with
    | some x => if isI x then (ev C ρ a st).bind fun y st => if isI y then ofO st ((opS st o x y).map fun z => .next (ρ.set i (some z))) else .bad else .bad
    | none => .bad) D := h
  cases e : getS ρ i with
  | none => rw [e] at h; exact h.elim
  | some x0 =>
    rw [e] at h
    have h : PostS G (if isI x0 then (ev C ρ a st).bind fun y st => if isI y then ofO st ((opS st o x0 y).map fun z => .next (ρ.set i (some z))) else .bad else .bad) D := h
    cases x0 with
    | int n =>
      obtain ⟨v, e1, r1⟩ := B.env.get i _ (getS_at e)
      refine ⟨v, e1, ?_⟩
      rw [← hK]
      refine ⟨as, ow, ρ, st, B.env, B.rel, ?_⟩
      have h : PostS G ((ev C ρ a st).bind fun y st => if isI y then ofO st ((opS st o (.int n) y).map fun z => .next (ρ.set i (some z))) else .bad) D := h
      dsimp only
      cases ee : ev C ρ a st with
      | top => trivial
      | bad => rw [ee] at h; exact h.elim
      | err _ _ => rw [ee] at h; exact h.elim
      | ok y st1 =>
        rw [ee] at h
        have h : PostS G (if isI y then ofO st1 ((opS st1 o (.int n) y).map fun z => .next (ρ.set i (some z))) else .bad) D := h
        intro w as1 ow1 H1 p r f
        cases y with
        | int m =>
          have h : PostS G (ofO st1 ((opS st1 o (.int n) (.int m)).map fun z => .next (ρ.set i (some z)))) D := h
          cases eo : opS st1 o (.int n) (.int m) with
          | none => rw [eo] at h; exact h.elim
          | some d =>
            rw [eo] at h
            have h : PostS G (.ok (.next (ρ.set i (some d))) st1) D := h
            have B1 := B.step p
            exact ⟨as1, ow1, st1, n, m, d, B1.rel, int_rd r1, int_rd r, eo, fun z as2 ow2 H2 p2 r2 f2 => h as2 ow2 H2 _ (B1.set p2 r2 f2 i)⟩
        | _ => exact h.elim
    | _ => exact h.elim
/-! ### while -/
theorem whileGo_succ (t : Slots → Sto → R D) (b : Slots → Sto → R Fw) (n : Nat) (ρ : Slots) (st : Sto) : whileGo t b (n + 1) ρ st = (t ρ st).bind fun d st => match d with
    | .bl true => (b ρ st).bind fun fw st1 => match fw with
      | .next ρ2 => whileGo t b n ρ2 st1
      | .cont ρ2 => whileGo t b n ρ2 st1
      | .brk ρ2 => .ok (.next ρ2) st1
      | .ret d => .ok (.ret d) st1
    | .bl false => .ok (.next ρ) st
    | _ => .bad := rfl
theorem ss_while {t : E} {b : List S} {xt : Expr} {xb : List Stmt} {pos : Pos} (hK : G.K = X.K) (hp : PassesOwn (model X.prog X.w) X.A X.env X.xe) (ht : TesE G.cA C X t xt) (hb : PSs X xb (semS G fun ρ st => evSs C b ρ st)) :
    PS X (.While xt xb [] pos) (semS G fun ρ st => evS C (.while t b) ρ st) := by
  refine ps_imp (ps_while hp ht hb) fun D σ H h => ?_
  rw [← hK]
  obtain ⟨as, ow, ρ, st, B, h⟩ := h
  refine ⟨fun n σ H => ∃ as ow ρ st, BS G as ow H σ ρ st ∧ PostS G (whileGo (fun ρ st => ev C ρ t st) (fun ρ st => evSs C b ρ st) n ρ st) D, ⟨turns, as, ow, ρ, st, B, h⟩, ?_⟩
  rintro n σ1 H1 ⟨as1, ow1, ρ1, st1, B1, h1⟩
  cases n with
  | zero => exact h1.elim
  | succ n =>
    rw [whileGo_succ] at h1
    have h2 : semS G (fun ρ st => (ev C ρ t st).bind fun d st => match d with
      | .bl true => (evSs C b ρ st).bind fun fw st1 => match fw with
        | .next ρ2 => whileGo (fun ρ st => ev C ρ t st) (fun ρ st => evSs C b ρ st) n ρ2 st1
        | .cont ρ2 => whileGo (fun ρ st => ev C ρ t st) (fun ρ st => evSs C b ρ st) n ρ2 st1
        | .brk ρ2 => .ok (.next ρ2) st1
        | .ret d => .ok (.ret d) st1
      | .bl false => .ok (.next ρ) st
      | _ => .bad) D σ1 H1 := ⟨as1, ow1, ρ1, st1, B1, h1⟩
    refine semS_bindT (k := fun ρ d st => match d with
      | .bl true => (evSs C b ρ st).bind fun fw st1 => match fw with
        | .next ρ2 => whileGo (fun ρ st => ev C ρ t st) (fun ρ st => evSs C b ρ st) n ρ2 st1
        | .cont ρ2 => whileGo (fun ρ st => ev C ρ t st) (fun ρ st => evSs C b ρ st) n ρ2 st1
        | .brk ρ2 => .ok (.next ρ2) st1
        | .ret d => .ok (.ret d) st1
      | .bl false => .ok (.next ρ) st
      | _ => .bad) (fun ρ d st hd => by cases d <;> first | rfl | exact absurd rfl (hd _)) h2 fun as2 ow2 ρ2 st2 H2 k B2 h3 => ?_
    cases k with
    | false => rw [if_neg (by decide)]; exact h3 _ _ _ _ B2
    | true =>
      rw [if_pos rfl]
      refine ⟨fun σ H => ∃ as ow ρ st, BS G as ow H σ ρ st ∧ PostS G (whileGo (fun ρ st => ev C ρ t st) (fun ρ st => evSs C b ρ st) n ρ st) D, fun σ' H' w => ⟨n, Nat.lt_succ_self _, w⟩, as2, ow2, ρ2, st2, B2, ?_⟩
      have h3 : PostS G ((evSs C b ρ2 st2).bind fun fw st1 => match fw with
        | .next ρ2 => whileGo (fun ρ st => ev C ρ t st) (fun ρ st => evSs C b ρ st) n ρ2 st1
        | .cont ρ2 => whileGo (fun ρ st => ev C ρ t st) (fun ρ st => evSs C b ρ st) n ρ2 st1
        | .brk ρ2 => .ok (.next ρ2) st1
        | .ret d => .ok (.ret d) st1) D := h3
      dsimp only
      cases e : evSs C b ρ2 st2 with
      | ok fw st3 =>
        rw [e] at h3
        cases fw with
        | next ρ3 => exact fun as3 ow3 H3 σ3 B3 => ⟨as3, ow3, ρ3, st3, B3, h3⟩
        | cont ρ3 => exact fun as3 ow3 H3 σ3 B3 => ⟨as3, ow3, ρ3, st3, B3, h3⟩
        | brk ρ3 => exact h3
        | ret d => exact h3
      | top => trivial
      | bad => rw [e] at h3; exact h3.elim
      | err _ _ => rw [e] at h3; exact h3.elim
/-! ### for -/
theorem repVs_app {K : PySem.W.Frag} : ∀ {vs ws : List V} {ds es : List D}, vs.length = ds.length → RepVs K as ow H (vs ++ ws) (ds ++ es) → RepVs K as ow H vs ds ∧ RepVs K as ow H ws es
  | [], ws, [], es, _, h => ⟨.nil, h⟩
  | [], _, _ :: _, _, h, _ => by cases h
  | _ :: _, _, [], _, h, _ => by cases h
  | v :: vs, ws, d :: ds, es, hl, h => by
    cases h with
    | cons a r =>
      obtain ⟨b, e⟩ := repVs_app (by simpa using hl) r
      exact ⟨.cons a b, e⟩
theorem repXs_of {K : PySem.W.Frag} : ∀ {vs : List V} {ds : List D}, RepVs K as ow H vs ds → RepXs K as ow H vs ds
  | _, _, .nil => .nil
  | _, _, .cons a r => .cons (rxs_of a) (repXs_of r)
theorem asgT_own {tg : Tg} {d : D} {ρ1 : Slots} (B : BS G as ow H σ ρ st) {v : V} (r : RepV G.K as ow H v d) (ea : asgT tg d ρ = some ρ1) {σ' : L2.St} (E' : EnvR G.K as ow H σ' ρ1) (n : ∀ j, j ∉ tg.slots → σ'[j]? = σ[j]?) : BS G as ow H σ' ρ1 st := by
  cases tg with
  | one i =>
    cases ea
    refine ⟨E', fun j dj p e hf e2 => ?_, B.pst, B.mem, B.kept⟩
    by_cases hj : i = j
    · subst hj
      have hl : i < ρ.length := by have := (List.getElem?_eq_some_iff.mp e).1; rwa [List.length_set] at this
      rw [List.getElem?_set_self hl] at e; cases e
      rw [rep_free r] at hf; cases hf
    · rw [List.getElem?_set_ne hj] at e
      rw [n j (by simp [Tg.slots, Ne.symm hj])] at e2
      exact B.own j dj p e hf e2
  | many is =>
    cases d with
    | tup xs =>
      simp only [asgT] at ea
      split at ea
      · rename_i hl
        cases ea
        cases r with
        | tup hp rv => exact B.many (repVs_mem rv) E' n hl
      · cases ea
    | _ => cases ea
theorem evs_free (C : Calls) (ρ : Slots) : ∀ (es : List E) (st : Sto) (ds : List D) (st' : Sto), evs C ρ es st = .ok ds st' → ∀ d ∈ ds, free d = true
  | [], st, ds, st', h => by cases h; intro d h; cases h
  | e :: r, st, ds, st', h => by
    have h : ((ev C ρ e st).bind fun d st => (evs C ρ r st).bind fun ds st => .ok (frz d :: ds) st) = .ok ds st' := h
    cases e1 : ev C ρ e st with
    | ok d st1 =>
      rw [e1] at h
      have h : (evs C ρ r st1).bind (fun ds st => CM.R.ok (frz d :: ds) st) = .ok ds st' := h
      cases e2 : evs C ρ r st1 with
      | ok ds2 st2 =>
        rw [e2] at h
        cases h
        intro x hx
        rcases List.mem_cons.mp hx with hx | hx
        · rw [hx]; exact frz_free d
        · exact evs_free C ρ r _ _ _ e2 x hx
      | _ => rw [e2] at h; cases h
    | _ => rw [e1] at h; cases h
theorem repVs_of_X {K : PySem.W.Frag} : ∀ {vs : List V} {ds : List D}, RepXs K as ow H vs ds → (∀ d ∈ ds, free d = true) → RepVs K as ow H vs ds
  | _, _, .nil, _ => .nil
  | _, _, .cons a r, h => .cons (repV_of a (h _ (by simp))) (repVs_of_X r fun d hd => h d (by simp [hd]))
theorem ss_forL (L : L2.St → Hp → Prop) {tg : Tg} {k : Ik} {src : List E} {b : List S} {xt xi : Expr} {xb : List Stmt} {pos : Pos} (hK : G.K = X.K) (Dc : Dy G.cA C c X) (hp : PassesOwn (model X.prog X.w) X.A X.env X.xe) (htg : chkTg c tg xt = true) (hhd : okHead xi = true)
    (hi : PI X xt xi (fun σ H Rr => L σ H ∧ semI X.K G.cA k (fun ρ st => evs C ρ src st) σ H Rr)) (hb : ∀ G' : Gd, G'.K = G.K → G'.cA = G.cA → PSs X xb (semS G' fun ρ st => evSs C b ρ st)) : PS X (.For xt xi xb [] pos) (fun D σ H => L σ H ∧ semS G (fun ρ st => evS C (.for tg k src b) ρ st) D σ H) := by
  -- the body remembers the sources
  refine ⟨fun pins s σ H D I h => ?_⟩
  obtain ⟨hL, as, ow, ρ, st, B, h⟩ := h
  have h : PostS G ((evs C ρ src st).bind fun ds st0 => match itemsOf st0 k ds with
    | some items => if 16777216 < items.length then .top else forGo tg (fun ρ st => evSs C b ρ st) (fun st => still st0 st ds) items ρ st0
    | none => .bad) D := h
  -- the sources' values are not known before they are made: the rule is used for all of them at once
  have go : PS X (.For xt xi xb [] pos) (tFor (fun σ H Rr => L σ H ∧ semI X.K G.cA k (fun ρ st => evs C ρ src st) σ H Rr) (gTg X.K tg) (fun D σ H => ∃ G' : Gd, G'.K = G.K ∧ G'.cA = G.cA ∧ semS G' (fun ρ st => evSs C b ρ st) D σ H)) :=
    ps_for hp Dc.calm hi (snd_tg Dc htg) ⟨fun pins s σ H D I ⟨G', e1, e2, q⟩ => (hb G' e1 e2).run pins s σ H D I q⟩ (fold_ok hhd X.env)
  refine go.run pins s σ H D I ?_
  rw [← hK]
  refine ⟨hL, as, ow, ρ, st, B.env, B.rel, ?_⟩
  dsimp only
  cases es : evs C ρ src st with
  | top => trivial
  | bad => rw [es] at h; exact h.elim
  | err _ _ => rw [es] at h; exact h.elim
  | ok ds st0 =>
    rw [es] at h
    have h : PostS G (match itemsOf st0 k ds with
      | some items => if 16777216 < items.length then .top else forGo tg (fun ρ st => evSs C b ρ st) (fun st => still st0 st ds) items ρ st0
      | none => .bad) D := h
    cases ei : itemsOf st0 k ds with
    | none => rw [ei] at h; exact h.elim
    | some items =>
      rw [ei] at h
      have h : PostS G (if 16777216 < items.length then .top else forGo tg (fun ρ st => evSs C b ρ st) (fun st => still st0 st ds) items ρ st0) D := h
      refine ⟨items, ei, fun vs as0 ow0 H0 p0 rx hlen J ⟨fz, hfz, WK⟩ => ?_⟩
      rw [if_neg (by omega)] at h
      have hfree : ∀ d ∈ ds, free d = true := evs_free C ρ src st ds st0 es
      have rv : RepVs G.K as0 ow0 H0 vs ds := repVs_of_X rx hfree
      have B0 : BS { G with vm := vs ++ G.vm, dm := ds ++ G.dm, fz := fz ++ G.fz } as0 ow0 H0 σ ρ st0 := by
        have B1 := B.step p0
        exact ⟨B1.env, B1.own, B1.pst, rv.append B1.mem, fun q hq => (List.mem_append.mp hq).elim (hfz q) (B1.kept q)⟩
      have back : ∀ {as ow H σ ρ st}, BS { G with vm := vs ++ G.vm, dm := ds ++ G.dm, fz := fz ++ G.fz } as ow H σ ρ st → BS G as ow H σ ρ st := fun B => ⟨B.env, B.own, B.pst, (repVs_app rv.length B.mem).2, fun q hq => B.kept q (List.mem_append_right _ hq)⟩
      refine ⟨fun i m σ H => m = items.length - i ∧ i ≤ items.length ∧ ∃ as ow ρ st, BS { G with vm := vs ++ G.vm, dm := ds ++ G.dm, fz := fz ++ G.fz } as ow H σ ρ st ∧ itemsOf st k ds = some items ∧
        PostS G (forGo tg (fun ρ st => evSs C b ρ st) (fun st => still st0 st ds) (items.drop i) ρ st) D, ⟨items.length, by simp, Nat.zero_le _, as0, ow0, ρ, st0, B0, ei, h⟩, ?_⟩
      rintro i m σ1 H1 ⟨hm, hle, as1, ow1, ρ1, st1, B1, ei1, h1⟩
      have rx1 : RepXs G.K as1 ow1 H1 vs ds := repXs_of (repVs_app rv.length B1.mem).1
      obtain ⟨hstop, hgo⟩ := WK as1 ow1 H1 st1 B1.rel rx1 (fun q hq => (B1.kept q (List.mem_append_left _ hq)).1) ei1
      rcases Nat.lt_or_ge i items.length with hlt | hge
      · obtain ⟨gg, yld⟩ := hgo i hlt
        refine .inr ⟨gg, fun σ' H' => ∃ m', m' < m ∧ (m' = items.length - (i + 1) ∧ (i + 1) ≤ items.length ∧ ∃ as ow ρ st, BS { G with vm := vs ++ G.vm, dm := ds ++ G.dm, fz := fz ++ G.fz } as ow H' σ' ρ st ∧ itemsOf st k ds = some items ∧
          PostS G (forGo tg (fun ρ st => evSs C b ρ st) (fun st => still st0 st ds) (items.drop (i + 1)) ρ st) D), fun _ _ z => z, fun x H2 y => ?_⟩
        obtain ⟨d, hd, p2, rd⟩ := yld x H2 y
        have B2 := B1.step p2
        have hdrop : items.drop i = d :: items.drop (i + 1) := by
          obtain ⟨hl, e⟩ := List.getElem?_eq_some_iff.mp hd
          rw [List.drop_eq_getElem_cons hl, e]
        rw [hdrop] at h1
        have h1 : PostS G (match asgT tg d ρ1 with
          | some ρ1 => (evSs C b ρ1 st1).bind fun fw st1 => match fw with
            | .next ρ2 => if still st0 st1 ds then forGo tg (fun ρ st => evSs C b ρ st) (fun st => still st0 st ds) (items.drop (i + 1)) ρ2 st1 else .bad
            | .cont ρ2 => if still st0 st1 ds then forGo tg (fun ρ st => evSs C b ρ st) (fun st => still st0 st ds) (items.drop (i + 1)) ρ2 st1 else .bad
            | .brk ρ2 => .ok (.next ρ2) st1
            | .ret d => .ok (.ret d) st1
          | none => .bad) D := h1
        cases ea : asgT tg d ρ1 with
        | none => rw [ea] at h1; exact h1.elim
        | some ρ2 =>
          rw [ea] at h1
          have h1 : PostS G ((evSs C b ρ2 st1).bind fun fw st1 => match fw with
            | .next ρ2 => if still st0 st1 ds then forGo tg (fun ρ st => evSs C b ρ st) (fun st => still st0 st ds) (items.drop (i + 1)) ρ2 st1 else .bad
            | .cont ρ2 => if still st0 st1 ds then forGo tg (fun ρ st => evSs C b ρ st) (fun st => still st0 st ds) (items.drop (i + 1)) ρ2 st1 else .bad
            | .brk ρ2 => .ok (.next ρ2) st1
            | .ret d => .ok (.ret d) st1) D := h1
          refine gTg_ok B2.env rd ea fun σ3 E3 n3 _ => ⟨{ G with vm := vs ++ G.vm, dm := ds ++ G.dm, fz := fz ++ G.fz }, rfl, rfl, as1, ow1, ρ2, st1, asgT_own B2 rd ea E3 n3, ?_⟩
          dsimp only
          have again : ∀ {ρ3 : Slots} {st3 : Sto}, PostS G (if still st0 st3 ds then forGo tg (fun ρ st => evSs C b ρ st) (fun st => still st0 st ds) (items.drop (i + 1)) ρ3 st3 else .bad) D → ∀ (as' : List Addr) (ow' : Addr → Prop) (H' : Hp) (σ' : L2.St),
              BS { G with vm := vs ++ G.vm, dm := ds ++ G.dm, fz := fz ++ G.fz } as' ow' H' σ' ρ3 st3 → ∃ m', m' < m ∧ (m' = items.length - (i + 1) ∧ (i + 1) ≤ items.length ∧ ∃ as ow ρ st, BS { G with vm := vs ++ G.vm, dm := ds ++ G.dm, fz := fz ++ G.fz } as ow H' σ' ρ st ∧ itemsOf st k ds = some items ∧
                PostS G (forGo tg (fun ρ st => evSs C b ρ st) (fun st => still st0 st ds) (items.drop (i + 1)) ρ st) D) := by
            intro ρ3 st3 q as' ow' H' σ' B'
            by_cases hs : still st0 st3 ds = true
            · rw [if_pos hs] at q
              exact ⟨_, by omega, rfl, by omega, as', ow', ρ3, st3, B', still_items hs ei, q⟩
            · rw [if_neg hs] at q; exact q.elim
          cases eb : evSs C b ρ2 st1 with
          | top => trivial
          | bad => rw [eb] at h1; exact h1.elim
          | err _ _ => rw [eb] at h1; exact h1.elim
          | ok fw st3 =>
            rw [eb] at h1
            cases fw with
            | next ρ3 => exact again h1
            | cont ρ3 => exact again h1
            | brk ρ3 => exact fun as' ow' H' σ' B' => h1 as' ow' H' σ' (back B')
            | ret d => exact fun v a b c p r f k => h1 v a b c p r f fun q hq => k q (List.mem_append_right _ hq)
      · have e : i = items.length := by omega
        subst e
        rw [List.drop_length] at h1
        exact .inl ⟨hstop, h1 as1 ow1 H1 σ1 (back B1)⟩
theorem ss_for {tg : Tg} {k : Ik} {src : List E} {b : List S} {xt xi : Expr} {xb : List Stmt} {pos : Pos} (hK : G.K = X.K) (Dc : Dy G.cA C c X) (hp : PassesOwn (model X.prog X.w) X.A X.env X.xe) (htg : chkTg c tg xt = true) (hhd : okHead xi = true)
    (hi : PI X xt xi (semI X.K G.cA k fun ρ st => evs C ρ src st)) (hb : ∀ G' : Gd, G'.K = G.K → G'.cA = G.cA → PSs X xb (semS G' fun ρ st => evSs C b ρ st)) : PS X (.For xt xi xb [] pos) (semS G fun ρ st => evS C (.for tg k src b) ρ st) :=
  ps_imp (ss_forL (fun _ _ => True) hK Dc hp htg hhd (pi_mono hi fun σ H Rr h => h.2) hb) fun D σ H h => ⟨trivial, h⟩
end
end CM
end
section
set_option linter.all false
set_option maxRecDepth 100000
set_option maxHeartbeats 4000000
/-! Fields and items stored; dicts changed. -/
namespace CM
open PySem PySem.Spec PyProof.Rows L2
section
variable {G : Gd} {C : Calls} {c : Cs} {X : Cx} {as as' : List Addr} {ow ow' : Addr → Prop} {H H' : Hp} {st st' : Sto} {σ : L2.St} {ρ : Slots} {D0 : Ends}
theorem RepF.length {K : PySem.W.Frag} {gs : List (Str × V)} {fs : List (Fl × D)} (h : RepF K as ow H gs fs) : gs.length = fs.length := by
  induction h with
  | nil => rfl
  | cons _ _ ih => simp [ih]
theorem RepF.put {K : PySem.W.Frag} {f : Fl} {v : V} {d : D} (q : RepV K as ow H v d) : ∀ {gs : List (Str × V)} {fs : List (Fl × D)}, RepF K as ow H gs fs → RepF K as ow H (putF f.s v gs) (putFl f d fs)
  | _, _, .nil => .cons q .nil
  | _, _, .cons (f := g) a r => by
    by_cases e : g = f
    · subst e
      simp only [putF, putFl, if_true]
      exact .cons q r
    · have e2 : ¬ g.s = f.s := fun z => e (Fl.s_inj z)
      simp only [putF, putFl, e, e2, if_false]
      exact .cons a (RepF.put q r)
/-- o.f = e -/
theorem ss_setF {o e : E} {f : Fl} {xo xe : Expr} {y : Str} {p' pos : Pos} (hK : G.K = X.K) (Dc : Dy G.cA C c X) (hy : y = f.s) (hs : noComp xe = true) (he : ValE G.cA C X e xe) (ho : ValE G.cA C X o xo) :
    PS X (.Assign [.Attribute xo y p'] xe pos) (semS G fun ρ st => evS C (.setF o f e) ρ st) := by
  subst hy
  refine ps_imp (ps_fld ho he (swaps_no hs _ _ _)) fun D σ H h => ?_
  rw [← hK]
  refine semS_bind (k := fun ρ d st => (ev C ρ o st).bind fun x st => match setFld st x f (frz d) with
    | some st => .ok (.next ρ) st
    | none => .bad) h fun as ow ρ st B v d as1 ow1 H1 st1 p r fr h3 => ?_
  obtain ⟨ow2, B1, rv, p1⟩ := B.freeze p r fr
  refine ⟨as1, ow2, ρ, st1, B1.env, B1.rel, ?_⟩
  dsimp only
  cases eo : ev C ρ o st1 with
  | top => trivial
  | bad => rw [eo] at h3; exact h3.elim
  | err _ _ => rw [eo] at h3; exact h3.elim
  | ok x st2 =>
    rw [eo] at h3
    have h3 : PostS G (match setFld st2 x f (CM.frz d) with
      | some st => .ok (.next ρ) st
      | none => .bad) D := h3
    intro w as3 ow3 H3 p3 r3 f3
    have B2 := B1.step p3
    have rv3 := rv.car (p3.car B1.rel)
    cases x with
    | ref n =>
      cases r3 with
      | @ref _ ad ea =>
        cases ec : st2[n]? with
        | none => simp only [setFld, ec] at h3; exact h3.elim
        | some cell =>
          cases cell with
          | obj k fs =>
            simp only [setFld, ec] at h3
            by_cases hl : fs.length < 100
            · rw [if_pos hl] at h3
              obtain ⟨C', dx, gs, h0, h2, h4⟩ := B2.rel.cell n _ _ ec ea
              have io := Dc.ins k C' h0
              refine ⟨ad, C', dx, gs, rfl, h2, hK ▸ io.cl, hK ▸ io.noat f, by rw [h4.length]; omega, ?_⟩
              exact h3 _ _ _ _ (B2.updCell (x' := .obj k (putFl f (CM.frz d) fs)) ec ea h2 rfl fun H4 cc e => ⟨C', dx, _, h0, e, RepF.put (rv3.car cc) (h4.car cc)⟩)
            · rw [if_neg hl] at h3; exact h3.elim
          | _ => simp only [setFld, ec] at h3; exact h3.elim
    | _ => exact h3.elim
/-! ### dicts -/
theorem repK_any {K : PySem.W.Frag} (a : Kx) : ∀ {kvs : List (Key × V)} {ks : List (Ky × D)}, RepK K as ow H kvs ks → (kvs.any fun kv => decide (kv.1 = kxK a)) = (ks.any fun p => decide (p.1 = .k a))
  | _, _, .nil => rfl
  | _, _, .cons (a := b) q r => by
    simp only [List.any_cons, repK_any a r]
    congr 1
    by_cases e : b = a
    · subst e; simp
    · have : ¬ kxK b = kxK a := fun z => e (kxK_inj z)
      simp [e, this]
theorem repT_any {K : PySem.W.Frag} (a : List Kx) : ∀ {kvs : List (List Key × V)} {ks : List (Ky × D)}, RepT K as ow H kvs ks → (kvs.any fun kv => decide (kv.1 = a.map kxK)) = (ks.any fun p => decide (p.1 = .t a))
  | _, _, .nil => rfl
  | _, _, .cons (a := b) q r => by
    simp only [List.any_cons, repT_any a r]
    congr 1
    by_cases e : b = a
    · subst e; simp
    · have : ¬ b.map kxK = a.map kxK := fun z => e (map_kxK_inj z)
      simp [e, this]
theorem repK_map {K : PySem.W.Frag} {v : V} {d : D} (q : RepV K as ow H v d) (a : Kx) : ∀ {kvs : List (Key × V)} {ks : List (Ky × D)}, RepK K as ow H kvs ks → RepK K as ow H (kvs.map fun kv => if kv.1 = kxK a then (kv.1, v) else kv) (ks.map fun p => if p.1 = .k a then (p.1, d) else p)
  | _, _, .nil => .nil
  | _, _, .cons (a := b) x r => by
    by_cases e : b = a
    · subst e
      simp only [List.map_cons, if_true]
      exact .cons q (repK_map q b r)
    · have e1 : ¬ kxK b = kxK a := fun z => e (kxK_inj z)
      have e2 : ¬ Ky.k b = Ky.k a := fun z => e (by cases z; rfl)
      simp only [List.map_cons, e1, e2, if_false]
      exact .cons x (repK_map q a r)
theorem repT_map {K : PySem.W.Frag} {v : V} {d : D} (q : RepV K as ow H v d) (a : List Kx) : ∀ {kvs : List (List Key × V)} {ks : List (Ky × D)}, RepT K as ow H kvs ks → RepT K as ow H (kvs.map fun kv => if kv.1 = a.map kxK then (kv.1, v) else kv) (ks.map fun p => if p.1 = .t a then (p.1, d) else p)
  | _, _, .nil => .nil
  | _, _, .cons (a := b) x r => by
    by_cases e : b = a
    · subst e
      simp only [List.map_cons, if_true]
      exact .cons q (repT_map q b r)
    · have e1 : ¬ b.map kxK = a.map kxK := fun z => e (map_kxK_inj z)
      have e2 : ¬ Ky.t b = Ky.t a := fun z => e (by cases z; rfl)
      simp only [List.map_cons, e1, e2, if_false]
      exact .cons x (repT_map q a r)
theorem repK_app {K : PySem.W.Frag} : ∀ {kvs kvs' : List (Key × V)} {ks ks' : List (Ky × D)}, RepK K as ow H kvs ks → RepK K as ow H kvs' ks' → RepK K as ow H (kvs ++ kvs') (ks ++ ks')
  | _, _, _, _, .nil, s => s
  | _, _, _, _, .cons x r, s => .cons x (repK_app r s)
theorem repT_app {K : PySem.W.Frag} : ∀ {kvs kvs' : List (List Key × V)} {ks ks' : List (Ky × D)}, RepT K as ow H kvs ks → RepT K as ow H kvs' ks' → RepT K as ow H (kvs ++ kvs') (ks ++ ks')
  | _, _, _, _, .nil, s => s
  | _, _, _, _, .cons x r, s => .cons x (repT_app r s)
theorem repK_put {K : PySem.W.Frag} {a : Kx} {v : V} {d : D} (q : RepV K as ow H v d) {kvs : List (Key × V)} {ks : List (Ky × D)} (h : RepK K as ow H kvs ks) : RepK K as ow H (putK kvs (kxK a) v) (dPut (.k a) d ks) := by
  unfold putK dPut
  rw [repK_any a h]
  split
  · exact repK_map q a h
  · exact repK_app h (.cons q .nil)
theorem repT_put {K : PySem.W.Frag} {a : List Kx} {v : V} {d : D} (q : RepV K as ow H v d) {kvs : List (List Key × V)} {ks : List (Ky × D)} (h : RepT K as ow H kvs ks) : RepT K as ow H (putK kvs (a.map kxK) v) (dPut (.t a) d ks) := by
  unfold putK dPut
  rw [repT_any a h]
  split
  · exact repT_map q a h
  · exact repT_app h (.cons q .nil)
theorem repT_drop {K : PySem.W.Frag} (a : List Kx) : ∀ {kvs : List (List Key × V)} {ks : List (Ky × D)}, RepT K as ow H kvs ks → RepT K as ow H (dropK kvs (a.map kxK)) (dDrop (.t a) ks)
  | _, _, .nil => .nil
  | _, _, .cons (a := b) x r => by
    have ih := repT_drop a r
    unfold dropK dDrop at ih ⊢
    by_cases e : b = a
    · subst e; simpa using ih
    · have e1 : ¬ b.map kxK = a.map kxK := fun z => e (map_kxK_inj z)
      have e2 : ¬ Ky.t b = Ky.t a := fun z => e (by cases z; rfl)
      simp only [List.filter_cons, decide_eq_true (show (b.map kxK) ≠ a.map kxK from e1), decide_eq_true (show Ky.t b ≠ Ky.t a from e2), if_true]
      exact .cons x ih
theorem updD_ok {o : E} {x : D} {g : Bool → List (Ky × D) → Option (List (Ky × D))} {v : V} {D : Ends} (B : BS G as ow H σ ρ st) (r : RepX G.K as ow H v x) (hv : ∀ i, o = .var i → ρ[i]? = some (some x) ∧ σ[i]? = some (some v))
    (h : PostS G ((updD o x ρ st g).bind fun ρ st => .ok (.next ρ) st) D) : ∃ l t ks ys, v = .ref l ∧ g t ks = some ys ∧
      ((t = false ∧ ∃ kvs, H l = some (.dK kvs) ∧ RepK G.K as ow H kvs ks ∧ ∀ kvs', RepK G.K as ow H kvs' ys → D.nx σ (upd H l (.dK kvs'))) ∨
       (t = true ∧ ∃ kvs, H l = some (.dT kvs) ∧ RepT G.K as ow H kvs ks ∧ ∀ kvs', RepT G.K as ow H kvs' ys → D.nx σ (upd H l (.dT kvs')))) := by
  unfold updD at h
  split at h
  · rename_i n
    cases r with
    | @ref _ l ea =>
      split at h
      · rename_i t ks ec
        have rc := B.rel.cell n _ _ ec ea
        split at h
        · rename_i ys hg
          refine ⟨l, t, ks, ys, rfl, hg, ?_⟩
          cases t with
          | false =>
            obtain ⟨kvs, h1, h2⟩ := rc
            exact .inl ⟨rfl, kvs, h1, h2, fun kvs' rv => h _ _ _ _ (B.updCell (x' := .dct false ys) ec ea h1 rfl fun H2 c e => ⟨kvs', e, rv.car c⟩)⟩
          | true =>
            obtain ⟨kvs, h1, h2⟩ := rc
            exact .inr ⟨rfl, kvs, h1, h2, fun kvs' rv => h _ _ _ _ (B.updCell (x' := .dct true ys) ec ea h1 rfl fun H2 c e => ⟨kvs', e, rv.car c⟩)⟩
        · exact h.elim
      · exact h.elim
  · rename_i t ks
    split at h
    · rename_i i
      obtain ⟨e1, e2⟩ := hv i rfl
      split at h
      · rename_i ys hg
        cases t with
        | false =>
          obtain ⟨l, kvs, rfl, w, h1, h2⟩ := r
          exact ⟨l, false, ks, ys, rfl, hg, .inl ⟨rfl, kvs, h1, h2, fun kvs' rv => h _ _ _ _ (B.updSlot (d' := .od false ys) e1 rfl e2 h1 rfl rfl fun H2 c e => ⟨l, kvs', rfl, w, e, rv.car c⟩)⟩⟩
        | true =>
          obtain ⟨l, kvs, rfl, w, h1, h2⟩ := r
          exact ⟨l, true, ks, ys, rfl, hg, .inr ⟨rfl, kvs, h1, h2, fun kvs' rv => h _ _ _ _ (B.updSlot (d' := .od true ys) e1 rfl e2 h1 rfl rfl fun H2 c e => ⟨l, kvs', rfl, w, e, rv.car c⟩)⟩⟩
      · exact h.elim
    · exact h.elim
  · exact h.elim
/-- one more value is remembered -/
def Gd.rem (G : Gd) (v : V) (d : D) : Gd := { G with vm := v :: G.vm, dm := d :: G.dm }
theorem BS.rem (B : BS G as ow H σ ρ st) {v : V} {d : D} (r : RepV G.K as ow H v d) : BS (G.rem v d) as ow H σ ρ st := ⟨B.env, B.own, B.pst, .cons r B.mem, B.kept⟩
theorem BS.unrem {v : V} {d : D} (B : BS (G.rem v d) as ow H σ ρ st) : BS G as ow H σ ρ st ∧ RepV G.K as ow H v d := by
  have m := B.mem
  cases m with
  | cons a r => exact ⟨⟨B.env, B.own, B.pst, r, B.kept⟩, a⟩
theorem PostS.rem {v : V} {d : D} {r : R Fw} {D : Ends} (h : PostS G r D) : PostS (G.rem v d) r D := by
  cases r with
  | ok fw st =>
    cases fw with
    | next ρ => exact fun a b c e B => h a b c e B.unrem.1
    | brk ρ => exact fun a b c e B => h a b c e B.unrem.1
    | cont ρ => exact fun a b c e B => h a b c e B.unrem.1
    | ret d => exact h
  | _ => exact h
/-- the receiver's value, then the rest; whatever is remembered -/
theorem recv_okG (hK : G.K = X.K) {o : E} {xo : Expr} (hr : RecvE G.cA C X o xo) : ∃ to : TE, PE X xo to ∧ ∀ (G' : Gd) (k : Slots → D → Sto → R Fw), G'.K = G.K → G'.cA = G.cA → ∀ D σ H QQ, semS G' (fun ρ st => (evB C ρ o st).bind (k ρ)) D σ H →
    (∀ as ow H1 ρ st v x, BS G' as ow H1 σ ρ st → RepX G'.K as ow H1 v x → (∀ i, o = .var i → ρ[i]? = some (some x) ∧ σ[i]? = some (some v)) → PostS G' (k ρ x st) D → QQ v H1) → to σ H QQ := by
  by_cases hi : ∃ i, o = .var i
  · obtain ⟨i, rfl⟩ := hi
    refine ⟨_, hr.va i rfl, fun G' k _ _ D σ H QQ h go => ?_⟩
    obtain ⟨as, ow, ρ, st, B, h⟩ := h
    have h : PostS G' ((ofO st (getS ρ i)).bind (k ρ)) D := h
    cases e : getS ρ i with
    | none => rw [e] at h; exact h.elim
    | some x =>
      rw [e] at h
      obtain ⟨v, a, b⟩ := B.env.get i x (getS_at e)
      exact ⟨v, a, go as ow H ρ st v x B b (fun j ej => by cases ej; exact ⟨getS_at e, a⟩) h⟩
  · refine ⟨_, hr.vl fun i z => hi ⟨i, z⟩, fun G' k h1 h2 D σ H QQ h go => ?_⟩
    rw [← hK, ← h1, ← h2]
    have e0 : ∀ ρ st, evB C ρ o st = ev C ρ o st := fun ρ st => by
      cases o <;> first | rfl | exact absurd ⟨_, rfl⟩ hi
    have h : semS G' (fun ρ st => (ev C ρ o st).bind (k ρ)) D σ H := by
      obtain ⟨as, ow, ρ, st, B, h⟩ := h
      have h : PostS G' ((evB C ρ o st).bind (k ρ)) D := h
      rw [e0] at h
      exact ⟨as, ow, ρ, st, B, h⟩
    refine semS_bind h fun as ow ρ st B v d as1 ow1 H1 st1 p r f h3 => ?_
    exact go as1 ow1 H1 ρ st1 v d (B.step p) r (fun i z => absurd ⟨i, z⟩ hi) h3
/-- o[k] = e, a list's or a dict's -/
theorem set_both (hu : X.A.units + 1 < cLine) : PSet X (fun o i v H Q => rSetL o i v H Q ∨ rSetD o i v H Q) := fun pins s σ H o i v ov iv u Q I ro ri rv h =>
  h.elim (fun h => set_list pins s σ H o i v ov iv u Q I ro ri rv h) fun h => set_dict hu pins s σ H o i v ov iv u Q I ro ri rv h
theorem ss_setI {o k e : E} {xo xk xe : Expr} {p' pos : Pos} (hK : G.K = X.K) (Dc : Dy G.cA C c X) (hs : noComp xe = true) (hk0 : okHead xk = true) (ho : RecvE G.cA C X o xo) (hk : ValE G.cA C X k xk) (he : ValE G.cA C X e xe) :
    PS X (.Assign [.Subscript xo xk p'] xe pos) (semS G fun ρ st => evS C (.setI o k e) ρ st) := by
  obtain ⟨to, h1, h2⟩ := recv_okG hK ho
  refine ps_imp (ps_asg he (pg_sub h1 hk (set_both (by have := Dc.hu; omega)) (by intro v; cases xk <;> first | rfl | cases hk0)) (by show swapsWith xe (some (.Subscript xo xk p')) pos.line X.env = pure false; exact swaps_no hs _ _ _) (by cases xe <;> rfl) rfl) fun D σ H h => ?_
  rw [← hK]
  refine semS_bind (k := fun ρ d st => (evB C ρ o st).bind fun x st => (ev C ρ k st).bind fun y st => (setIdx o x y (CM.frz d) ρ st).bind fun ρ st => .ok (.next ρ) st) h fun as ow ρ st B v d as1 ow1 H1 st1 p r fr h3 => ?_
  obtain ⟨ow2, B1, rv, p1⟩ := B.freeze p r fr
  refine h2 (G.rem v (CM.frz d)) (fun ρ x st => (ev C ρ k st).bind fun y st => (setIdx o x y (CM.frz d) ρ st).bind fun ρ st => .ok (.next ρ) st) rfl rfl D σ H1 _ ⟨as1, ow2, ρ, st1, B1.rem rv, PostS.rem h3⟩ fun as3 ow3 H3 ρ3 st3 vo x B3 rx hv h4 => ?_
  refine ⟨as3, ow3, ρ3, st3, B3.env, B3.rel, ?_⟩
  dsimp only
  cases eo : ev C ρ3 k st3 with
  | top => trivial
  | bad => rw [eo] at h4; exact h4.elim
  | err _ _ => rw [eo] at h4; exact h4.elim
  | ok y st4 =>
    rw [eo] at h4
    have h4 : PostS (G.rem v (CM.frz d)) ((setIdx o x y (CM.frz d) ρ3 st4).bind fun ρ st => .ok (.next ρ) st) D := h4
    intro w as4 ow4 H4 p4 r4 f4
    have B4 := B3.step p4
    have rx4 := rx.pst B3.rel p4
    obtain ⟨_, rv4⟩ := B4.unrem
    have dict : PostS (G.rem v (CM.frz d)) ((updD o x ρ3 st4 fun t kvs => (keyOf t y).bind fun z => if kvs.length < 16777216 then some (dPut z (CM.frz d) kvs) else none).bind fun ρ st => .ok (.next ρ) st) D →
        rSetL vo w v H4 (D.nx σ) ∨ rSetD vo w v H4 (D.nx σ) := fun h5 => by
      obtain ⟨l, t, ks, ys, rfl, hg, q⟩ := updD_ok B4 rx4 hv h5
      refine .inr ?_
      cases hy : keyOf t y with
      | none => rw [hy] at hg; cases hg
      | some z =>
        rw [hy] at hg
        have hg : (if ks.length < 16777216 then some (dPut z (CM.frz d) ks) else none) = some ys := hg
        split at hg
        · rename_i hl
          cases hg
          obtain ⟨k1, k2⟩ := key_rd r4 hy
          rcases q with ⟨rfl, kvs, q1, q2, q3⟩ | ⟨rfl, kvs, q1, q2, q3⟩
          · obtain ⟨a, rfl, rfl⟩ := k1 rfl
            exact ⟨l, _, rfl, DPut.k q1 (by rw [q2.length, sizeLine_eq]; exact hl), q3 _ (repK_put rv4 q2)⟩
          · obtain ⟨a, b, rfl, rfl, hb⟩ := k2 rfl
            exact ⟨l, _, rfl, DPut.t q1 hb (by rw [q2.length, sizeLine_eq]; exact hl), q3 _ (repT_put rv4 q2)⟩
        · cases hg
    unfold setIdx at h4
    split at h4
    · rename_i i _ _ _
      obtain ⟨l, vs, xs, ys, rfl, e1, e2, e3, e4⟩ := updL_ok B4 rx4 hv h4
      cases hj : L2.ixN xs.length i with
      | none => rw [hj] at e3; cases e3
      | some j =>
        rw [hj] at e3
        cases e3
        cases r4
        exact .inl ⟨l, vs, i, j, rfl, rfl, e1, by rw [e2.length]; exact hj, e4 _ (e2.set rv4 j)⟩
    · exact dict h4
end
end CM
end
section
set_option linter.all false
set_option maxRecDepth 100000
set_option maxHeartbeats 4000000
/-! Methods that change lists and dicts. -/
namespace CM
open PySem PySem.Spec PyProof.Rows L2
section
variable {G : Gd} {C : Calls} {c : Cs} {X : Cx} {as as' : List Addr} {ow ow' : Addr → Prop} {H H' : Hp} {st st' : Sto} {σ : L2.St} {ρ : Slots} {D0 : Ends}
/-! ### d.update(e) -/
def mergeT (kvs more : List (List L2.Key × V)) : List (List L2.Key × V) := more.foldl (fun acc kv => putK acc kv.1 kv.2) kvs
theorem mergeT_len : ∀ (more kvs : List (List L2.Key × V)), (mergeT kvs more).length ≤ kvs.length + more.length
  | [], kvs => by simp [mergeT]
  | p :: r, kvs => by
    have h1 := mergeT_len r (putK kvs p.1 p.2)
    have h2 := length_putK kvs p.1 p.2
    simp only [mergeT, List.foldl_cons, List.length_cons] at h1 ⊢
    omega
theorem kt_merge {H : Hp} : ∀ {more : List (List L2.Key × V)} {ys : List (List L2.Key × Addr × Value)}, KT H more ys → ∀ {kvs : List (List L2.Key × V)} {xs : List (List L2.Key × Addr × Value)}, KT H kvs xs → KT H (mergeT kvs more) (storedAllH xs ys)
  | _, _, .nil, _, _, r => r
  | _, _, .cons q t, kvs, xs, r => by
    obtain ⟨q1, q2, q3⟩ := q
    have := kt_merge t (r.put _ q2 q3)
    simp only [mergeT, List.foldl_cons, storedAllH] at this ⊢
    rw [← q1]; exact this
def rUpdT : V → List V → Hp → VK → Prop := fun x xs H Q => ∃ (a b : Addr) (kvs more : List (List L2.Key × V)), x = .ref a ∧ xs = [.ref b] ∧ H a = some (.dT kvs) ∧ Rd H b (.dT more) ∧ a ≠ b ∧ kvs ≠ [] ∧ kvs.length + more.length ≤ sizeLine ∧
  Q .non (upd H a (.dT (mergeT kvs more)))
theorem mt_updT (hu : X.A.units + 1 < cLine) : MtR X "dict.update" rUpdT := by
  intro pins s σ H x xs v us Q I rx rxs h
  obtain ⟨a, b, kvs, more, rfl, rfl, ha, hb, hab, h0, hl, q⟩ := h
  cases rx
  cases rxs with
  | cons r1 r2 =>
    cases r2
    cases r1
    obtain ⟨z, hd, xs1, rel, dd⟩ := dt_of I.hok ha
    obtain ⟨z2, hd2, xs2, rel2, dd2⟩ := dt_rd I.hok hb
    have e1 : kvs.length = xs1.length := Paired.length rel
    have e2 : more.length = xs2.length := Paired.length rel2
    refine call_update_dictH (knd := tupleKind (mixKind X.prog X.w)) (tupleKind_room_in1 hu) hab hd2 dd dd2 (.inl fun e => h0 (List.length_eq_zero_iff.mp (by rw [e1, e]; rfl))) (by omega) fun h' dd' _ hs => ?_
    obtain ⟨o, es, ep, hq, h2, h3, h4, _, h5⟩ := dd'
    have I2 : Inv X pins σ (upd H a (.dT (mergeT kvs more))) { s with heap := h' } :=
      d_write I (by rw [ha]; trivial) hs ⟨o, hq⟩ ⟨by have := mergeT_len more kvs; omega, hd, _, (kt_merge rel2 rel).keeps (fun k ys ec => by rw [upd_ne (ne_of ec ha (fun z => nomatch z))]; exact ec), o, es, ep, hq, h2, h3, h4, h5⟩
    exact ⟨.non, _, I2, rfl, q⟩
theorem repT_merge {K : PySem.W.Frag} : ∀ {more : List (List L2.Key × V)} {ms : List (Ky × D)}, RepT K as ow H more ms → ∀ {kvs : List (List L2.Key × V)} {ks : List (Ky × D)}, RepT K as ow H kvs ks → RepT K as ow H (mergeT kvs more) (ms.foldl (fun acc p => dPut p.1 p.2 acc) ks)
  | _, _, .nil, _, _, r => r
  | _, _, .cons (a := a) q t, kvs, ks, r => by
    have := repT_merge t (repT_put (a := a) q r)
    simp only [mergeT, List.foldl_cons] at this ⊢
    exact this
/-! ### d.pop(k), k is there -/
def rPop1 : V → List V → Hp → VK → Prop := fun x xs H Q => ∃ (a : Addr) (kvs : List (List L2.Key × V)) (k : List L2.Key) (b : Addr) (v : V), x = .ref a ∧ xs = [.ref b] ∧ H a = some (.dT kvs) ∧ H b = some (.tup (k.map kV)) ∧ valV kvs k = some v ∧
  Q v (upd H a (.dT (dropK kvs k)))
theorem mt_pop1 (hu : X.A.units + 1 < cLine) : MtR X "dict.pop" rPop1 := by
  intro pins s σ H x xs v us Q I rx rxs h
  obtain ⟨a, kvs, k, b, v0, rfl, rfl, ha, hb, ev, q⟩ := h
  cases rx
  cases rxs with
  | cons r1 r2 =>
    cases r2
    cases r1
    obtain ⟨z, hd, xs1, rel, dd⟩ := dt_of I.hok ha
    have e1 : kvs.length = xs1.length := Paired.length rel
    have r := rel.val k
    rw [ev] at r
    cases hp : atKey xs1 k with
    | none => rw [hp] at r; exact r.elim
    | some p =>
      rw [hp] at r
      have rv : RelV v0 p.2 := r
      have ne : xs1 ≠ [] := fun e => by rw [e] at hp; cases hp
      have M : MeetsIn X.prog X.w (Builtin.«dict.pop» ⟨[.ref a, .ref b], []⟩) (fun A R s2 => A = X.A ∧ s2 = s ∧ ∀ h' tk, h'.DictOfH (tupleKind (mixKind X.prog X.w)) a (DT.dropH xs1 k) → Heap.SameBut a s.heap h' → R (.ok (.ret p.2)) { s with heap := h', toks := tk }) :=
        .of_wp fun A R s2 hS => by
          obtain ⟨rfl, rfl, hq⟩ := hS
          obtain ⟨o, es, ep, ho, hc, hdat, he, his, hn⟩ := id dd
          have hes : es.size = xs1.length := size_of_entries he
          have hem : es.isEmpty = false := by
            cases hh : es.isEmpty with
            | false => rfl
            | true =>
              have : es.size = 0 := by simpa using hh
              exact absurd (List.length_eq_zero_iff.mp (by omega)) ne
          unfold Builtin.«dict.pop»
          refine wpAny_bind ?_
          unfold Builtin.Dict.keyAndDefault
          refine wpAny_bind (wpAny_notOrdered_dict dd.typeIs ?_)
          show wpAny _ _ (pure (a, Value.ref b, (none : Option Value))) _ _ _
          refine wpAny_pure ?_
          have hk0 : (keyPart (Value.ref b)).isSome = false := rfl
          simp only [hk0, Bool.false_eq_true, if_false]
          refine wpAny_bind (wpAny_dictEntries ho hdat (wpAny_bind (wpAny_pure ?_)))
          simp only [hem, Bool.false_eq_true, if_false]
          refine wpAny_bind (DT.takeH (tupleKind_room_in1 hu) (key_of I.hok hb) dd (by omega) (fun hno => by rw [hp] at hno; cases hno) fun p' e hp' hev h' hm' hs' => ?_)
          rw [hp] at hp'; cases hp'
          simp only [Option.isNone_some, Bool.false_eq_true, if_false]
          exact wpAny_bind (wpAny_letGo (wpAny_pure ⟨e.val, rfl, by rw [hev]; exact hq h' _ hm' hs'⟩))
      refine call_meetsIn PySem.F.slot_dict_pop dd.typeIs PySem.F.entry_dict_pop (PySem.F.args_dict_pop_2 _ _) M ⟨rfl, rfl, fun h' tk dd' hs => ?_⟩
      obtain ⟨o, es, ep, hq, h2, h3, h4, _, h5⟩ := dd'
      have I2 : Inv X pins σ (upd H a (.dT (dropK kvs k))) { s with heap := h', toks := tk } :=
        d_write I (by rw [ha]; trivial) hs ⟨o, hq⟩ ⟨Nat.le_trans (dropK_le kvs k) z, hd, _, (L2.DX.KT_drop k rel).keeps (fun c ys ec => by rw [upd_ne (ne_of ec ha (fun z => nomatch z))]; exact ec), o, es, ep, hq, h2, h3, h4, h5⟩
      exact ⟨v0, _, I2, rv, q⟩
theorem repT_val {K : PySem.W.Frag} (a : List Kx) {kvs : List (List L2.Key × V)} {ks : List (Ky × D)} (h : RepT K as ow H kvs ks) (hh : dHas (.t a) ks = true) : ∃ v, valV kvs (a.map kxK) = some v := by
  rcases repT_get a h with ⟨_, e⟩ | ⟨v, d, e, _, _⟩
  · simp [dHas, e] at hh
  · exact ⟨v, e⟩
/-! ### statements -/
theorem dc_ref {K : PySem.W.Frag} {cA : ClA} (R : Rel K cA as ow H st) {v : V} {d : D} (r : RepX K as ow H v d) (e : (dcOf st d).isSome = true) : ∃ l, v = .ref l ∧ IsD H l := by
  cases hd : dcOf st d with
  | none => rw [hd] at e; cases e
  | some z =>
    obtain ⟨t, ks⟩ := z
    cases d with
    | od t' ks' =>
      cases t' with
      | false => obtain ⟨p, kvs, rfl, _, h, _⟩ := r; exact ⟨p, rfl, .inl ⟨kvs, .of h⟩⟩
      | true => obtain ⟨p, kvs, rfl, _, h, _⟩ := r; exact ⟨p, rfl, .inr ⟨kvs, .of h⟩⟩
    | fd t' ks' =>
      cases r with
      | fdk a _ _ _ => exact ⟨_, rfl, .inl ⟨_, a⟩⟩
      | fdt a _ _ _ => exact ⟨_, rfl, .inr ⟨_, a⟩⟩
    | ref n =>
      cases r with
      | ref ea =>
        cases ec : st[n]? with
        | none => simp [dcOf, ec] at hd
        | some cell =>
          simp only [dcOf, ec] at hd
          cases cell with
          | dct t' ks' =>
            have rc := R.cell n _ _ ec ea
            cases t' with
            | false => obtain ⟨kvs, h, _⟩ := rc; exact ⟨_, rfl, .inl ⟨kvs, .of h⟩⟩
            | true => obtain ⟨kvs, h, _⟩ := rc; exact ⟨_, rfl, .inr ⟨kvs, .of h⟩⟩
          | _ => cases hd
    | _ => cases hd
/-- what a method of dicts asks -/
def MutDR (X : Cx) (r : V → List V → Hp → VK → Prop) (g : List D → Bool → List (Ky × D) → Option (List (Ky × D))) : Prop :=
  ∀ (as : List Addr) (ow : Addr → Prop) (H : Hp) (l : Addr) (ws : List V) (ds : List D) (t : Bool) (ks ys : List (Ky × D)) (Q : VK), RepVs X.K as ow H ws ds → g ds t ks = some ys →
    ((t = false ∧ ∃ kvs, H l = some (.dK kvs) ∧ RepK X.K as ow H kvs ks ∧ ∀ kvs' v, RepK X.K as ow H kvs' ys → Q v (upd H l (.dK kvs'))) ∨
     (t = true ∧ ∃ kvs, H l = some (.dT kvs) ∧ RepT X.K as ow H kvs ks ∧ ∀ kvs' v, RepT X.K as ow H kvs' ys → Q v (upd H l (.dT kvs')))) → r (.ref l) ws H Q
theorem mut_pop : MutDR X rPop1 fun ds t kvs => match ds with
    | [d] => (keyOf t d).bind fun y => if dHas y kvs = true ∧ t = true then some (dDrop y kvs) else none
    | _ => none := by
  intro as ow H l ws ds t ks ys Q r e q
  match ds, e, r with
  | [d], e, r =>
    cases r with
    | cons a tl =>
      cases tl
      cases hk : keyOf t d with
      | none => simp only [hk] at e; cases e
      | some y =>
        simp only [hk] at e
        have e5 : (if dHas y ks = true ∧ t = true then some (dDrop y ks) else none) = some ys := e
        clear e
        by_cases hh : dHas y ks = true ∧ t = true
        · rw [if_pos hh] at e5
          have h1 := hh.1
          have h2 := hh.2
          subst h2
          obtain rfl := Option.some.inj e5
          rcases q with ⟨z, _⟩ | ⟨_, kvs, q1, q2, q3⟩
          · cases z
          · obtain ⟨a', b, rfl, rfl, hb⟩ := (key_rd (rxs_of a) hk).2 rfl
            obtain ⟨v, hv⟩ := repT_val a' q2 h1
            exact ⟨l, kvs, _, b, v, rfl, rfl, q1, hb, hv, q3 _ v (repT_drop a' q2)⟩
        · rw [if_neg hh] at e5; cases e5
theorem ss_mutD {name : Str} {mid : String} {r : V → List V → Hp → VK → Prop} {g : List D → Bool → List (Ky × D) → Option (List (Ky × D))} {o : E} {es : List E} {xo x0 : Expr} {xs : List Expr} {apos cpos pos : Pos} (hK : G.K = X.K) (slot : Slot "dict" name mid) (hty : typeOf (.builtin mid) = pure (.type "method_descriptor")) (hm : MtR X mid r) (hg : MutDR X r g)
    (hb : noCall0 xo = true) (hl : (apos.endLine == cpos.line) = true) (h30 : (x0 :: xs).length < 30) (hh : (x0 :: xs).all okHead = true) (ho : RecvE G.cA C X o xo) (ha : PA X (x0 :: xs) (semL X.K G.cA fun ρ st => evs C ρ es st)) :
    PS X (.Expr (.Call (.Attribute xo name apos) (x0 :: xs) [] cpos) pos) (semS G fun ρ st => mutD C ρ o es st g) := by
  have hh0 := hh
  simp only [List.all_cons, Bool.and_eq_true] at hh
  obtain ⟨to, h1, h2⟩ := recv_okG hK ho
  refine ps_imp (ps_expr (pe_bm PySem.F.plainAttrs_dict slot hty hm h1 ha (base_ok hb) (few_ok hh0 h30) hl (star_one hh.1 _ _) (back_plain hh.2))) fun D σ H h => ?_
  refine h2 G (fun ρ x st => if (dcP st x).isSome then (evs C ρ es st).bind fun ds st => (updD o x ρ st (g ds)).bind fun ρ st => .ok (.next ρ) st else .bad) rfl rfl D σ H _ h fun as ow H1 ρ st v x B r1 hv h3 => ?_
  by_cases hs : (dcP st x).isSome = true
  · rw [if_pos hs] at h3
    have ty : tyV X.K "dict" v H1 := by
      cases x with
      | od t' ks' =>
        cases t' with
        | false => obtain ⟨p, kvs, rfl, _, h, _⟩ := r1; exact .inr (.inr (.inl ⟨rfl, .inl ⟨kvs, h⟩⟩))
        | true => obtain ⟨p, kvs, rfl, _, h, _⟩ := r1; exact .inr (.inr (.inl ⟨rfl, .inr ⟨kvs, h⟩⟩))
      | ref n =>
        cases r1 with
        | ref ea =>
          cases ec : st[n]? with
          | none => simp [dcP, dcOf, ec] at hs
          | some cell =>
            simp only [dcP, dcOf, ec] at hs
            cases cell with
            | dct t' ks' =>
              have rc := B.rel.cell n _ _ ec ea
              cases t' with
              | false => obtain ⟨kvs, h, _⟩ := rc; exact .inr (.inr (.inl ⟨rfl, .inl ⟨kvs, h⟩⟩))
              | true => obtain ⟨kvs, h, _⟩ := rc; exact .inr (.inr (.inl ⟨rfl, .inr ⟨kvs, h⟩⟩))
            | _ => cases hs
      | _ => cases hs
    have run : semL X.K G.cA (fun ρ st => evs C ρ es st) σ H1 fun ws H2 => r v ws H2 fun _ H3 => D.nx σ H3 := by
      rw [← hK]
      refine semL_evs B h3 fun ws ds as2 ow2 H2 st2 B2 p2 rw2 h4 => ?_
      have r2 : RepX G.K as2 ow2 H2 v x := r1.pst B.rel p2
      obtain ⟨l, t, ks, ys, rfl, e3, q⟩ := updD_ok B2 r2 hv h4
      refine hg as2 ow2 H2 l ws ds t ks ys _ (hK ▸ rw2) e3 ?_
      rcases q with ⟨rfl, kvs, q1, q2, q3⟩ | ⟨rfl, kvs, q1, q2, q3⟩
      · exact .inl ⟨rfl, kvs, q1, hK ▸ q2, fun kvs' v rv => q3 kvs' (hK ▸ rv)⟩
      · exact .inr ⟨rfl, kvs, q1, hK ▸ q2, fun kvs' v rv => q3 kvs' (hK ▸ rv)⟩
    exact ⟨ty, run⟩
  · rw [if_neg hs] at h3; exact h3.elim
end
end CM
end
section
set_option linter.all false
set_option maxRecDepth 100000
set_option maxHeartbeats 4000000
/-! Methods that change lists and dicts: statements. -/
namespace CM
open PySem PySem.Spec PyProof.Rows L2
section
variable {G : Gd} {C : Calls} {c : Cs} {X : Cx} {as as' : List Addr} {ow ow' : Addr → Prop} {H H' : Hp} {st st' : Sto} {σ : L2.St} {ρ : Slots} {D0 : Ends}
theorem dcP_dc {d : D} (h : (dcP st d).isSome = true) : (dcOf st d).isSome = true := by
  cases d <;> first | exact h | cases h
theorem dcP_ty {cA : ClA} {K : PySem.W.Frag} (R : Rel K cA as ow H st) {v : V} {x : D} (r1 : RepX K as ow H v x) (hs : (dcP st x).isSome = true) : tyV K "dict" v H := by
  cases x with
  | od t' ks' =>
    cases t' with
    | false => obtain ⟨p, kvs, rfl, _, h, _⟩ := r1; exact .inr (.inr (.inl ⟨rfl, .inl ⟨kvs, h⟩⟩))
    | true => obtain ⟨p, kvs, rfl, _, h, _⟩ := r1; exact .inr (.inr (.inl ⟨rfl, .inr ⟨kvs, h⟩⟩))
  | ref n =>
    cases r1 with
    | ref ea =>
      cases ec : st[n]? with
      | none => simp [dcP, dcOf, ec] at hs
      | some cell =>
        simp only [dcP, dcOf, ec] at hs
        cases cell with
        | dct t' ks' =>
          have rc := R.cell n _ _ ec ea
          cases t' with
          | false => obtain ⟨kvs, h, _⟩ := rc; exact .inr (.inr (.inl ⟨rfl, .inl ⟨kvs, h⟩⟩))
          | true => obtain ⟨kvs, h, _⟩ := rc; exact .inr (.inr (.inl ⟨rfl, .inr ⟨kvs, h⟩⟩))
        | _ => cases hs
  | _ => cases hs
theorem upd_eta {H : Hp} {a : Addr} {o : HO} (h : H a = some o) : upd H a o = H := by
  funext b
  by_cases z : b = a
  · subst z; rw [upd_same, h]
  · rw [upd_ne z]
/-- an argument, let go and remembered -/
theorem arg_rem (B : BS G as ow H σ ρ st) {e : E} {k : D → Sto → R Fw} {D : Ends} {QQ : VK} (h : PostS G ((ev C ρ e st).bind fun d st => k (CM.frz d) st) D)
    (go : ∀ v d as1 ow1 H1 st1, BS (G.rem v d) as1 ow1 H1 σ ρ st1 → Pst G.K G.cA as ow H as1 ow1 H1 st1 → PostS (G.rem v d) (k d st1) D → QQ v H1) : semE G.K G.cA (fun ρ st => ev C ρ e st) σ H QQ := by
  refine ⟨as, ow, ρ, st, B.env, B.rel, ?_⟩
  dsimp only
  cases eo : ev C ρ e st with
  | top => trivial
  | bad => rw [eo] at h; exact h.elim
  | err _ _ => rw [eo] at h; exact h.elim
  | ok d st1 =>
    rw [eo] at h
    intro v as1 ow1 H1 p r f
    obtain ⟨ow2, B1, rv, p1⟩ := B.freeze p r f
    exact go v (CM.frz d) as1 ow2 H1 st1 (B1.rem rv) p1 (PostS.rem h)
/-- d.setdefault(k, e) -/
theorem ss_setd {o k e : E} {xo xk xe : Expr} {apos cpos pos : Pos} (hK : G.K = X.K) (hb : noCall0 xo = true) (hl : (apos.endLine == cpos.line) = true) (hk0 : okHead xk = true) (he0 : okHead xe = true) (ho : RecvE G.cA C X o xo) (hk : ValE G.cA C X k xk) (he : ValE G.cA C X e xe) :
    PS X (.Expr (.Call (.Attribute xo "setdefault" apos) [xk, xe] [] cpos) pos) (semS G fun ρ st => evS C (.setd o k e) ρ st) := by
  obtain ⟨to, h1, h2⟩ := recv_okG hK ho
  have hh : [xk, xe].all okHead = true := by simp [hk0, he0]
  refine ps_imp (ps_expr (pe_dsetd h1 hk he ⟨base_ok hb, few_ok hh (by simp), hl, by rw [star_all hh]; rfl⟩)) fun D σ H h => ?_
  refine h2 G (fun ρ x st => if (dcP st x).isSome then (evs C ρ [k, e] st).bind fun ds st => (updD o x ρ st fun t kvs => match ds with
    | [d, v] => (keyOf t d).bind fun y => if kvs.length < 16777216 ∧ t = false then some (if dHas y kvs then kvs else dPut y v kvs) else none
    | _ => none).bind fun ρ st => .ok (.next ρ) st else .bad) rfl rfl D σ H _ h fun as ow H1 ρ st v x B r1 hv h3 => ?_
  by_cases hs : (dcP st x).isSome = true
  · rw [if_pos hs] at h3
    obtain ⟨l, rfl, hd⟩ := dc_ref B.rel r1 (dcP_dc hs)
    refine ⟨l, rfl, hd, ?_⟩
    rw [← hK]
    have e1 : ∀ st, evs C ρ [k, e] st = (ev C ρ k st).bind fun d st => (ev C ρ e st).bind fun d2 st => .ok [CM.frz d, CM.frz d2] st := fun st => by
      show (ev C ρ k st).bind _ = _
      congr 1; funext d st
      show (((ev C ρ e st).bind fun d2 st => (CM.R.ok [] st).bind fun ds st => CM.R.ok (CM.frz d2 :: ds) st).bind _) = _
      cases ev C ρ e st <;> rfl
    rw [e1] at h3
    refine arg_rem (k := fun d st => ((ev C ρ e st).bind fun d2 st => .ok [d, CM.frz d2] st).bind fun ds st => (updD o x ρ st fun t kvs => match ds with
      | [d, v] => (keyOf t d).bind fun y => if kvs.length < 16777216 ∧ t = false then some (if dHas y kvs then kvs else dPut y v kvs) else none
      | _ => none).bind fun ρ st => .ok (.next ρ) st) B (by
        cases ee : ev C ρ k st <;> (rw [ee] at h3; exact h3)) fun w d as2 ow2 H2 st2 B2 p2 h4 => ?_
    refine arg_rem (G := G.rem w d) (k := fun d2 st => (updD o x ρ st fun t kvs => (keyOf t d).bind fun y => if kvs.length < 16777216 ∧ t = false then some (if dHas y kvs then kvs else dPut y d2 kvs) else none).bind fun ρ st => .ok (.next ρ) st) B2 (by
        cases ee : ev C ρ e st2 <;> (rw [ee] at h4; exact h4)) fun w2 d2 as3 ow3 H3 st3 B3 p3 h5 => ?_
    have r3 : RepX G.K as3 ow3 H3 (.ref l) x := (r1.pst B.rel p2).pst B2.rel p3
    obtain ⟨B4, rv2⟩ := B3.unrem
    obtain ⟨_, rv1⟩ := B4.unrem
    obtain ⟨l', t, ks, ys, el, hg, q⟩ := updD_ok B3 r3 hv h5
    cases el
    cases hy : keyOf t d with
    | none => rw [hy] at hg; cases hg
    | some y =>
      rw [hy] at hg
      have hg5 : (if ks.length < 16777216 ∧ t = false then some (if dHas y ks then ks else dPut y d2 ks) else none) = some ys := hg
      clear hg
      by_cases hc : ks.length < 16777216 ∧ t = false
      · rw [if_pos hc] at hg5
        obtain ⟨hc1, hc2⟩ := hc
        subst hc2
        obtain rfl := Option.some.inj hg5
        rcases q with ⟨_, kvs, q1, q2, q3⟩ | ⟨z, _⟩
        · obtain ⟨a, rfl, rfl⟩ := (key_rd (rxs_of rv1) hy).1 rfl
          refine ⟨kvs, kxK a, q1, rfl, by rw [q2.length, sizeLine_eq]; exact hc1, fun u hu => ?_, fun hn => ?_⟩
          · rcases repK_get a q2 with ⟨z, _⟩ | ⟨u', d', z1, z2, _⟩
            · rw [hu] at z; cases z
            · have : dHas (.k a) ks = true := by simp [dHas, z2]
              have q3 := q3 kvs (by rw [if_pos this]; exact q2)
              rw [upd_eta q1] at q3
              exact q3
          · rcases repK_get a q2 with ⟨_, z⟩ | ⟨u', d', z1, z2, _⟩
            · have : ¬ dHas (.k a) ks = true := by simp [dHas, z]
              exact q3 _ (by rw [if_neg this]; exact repK_put rv2 q2)
            · rw [hn] at z1; cases z1
        · cases z
      · rw [if_neg hc] at hg5; cases hg5
  · rw [if_neg hs] at h3; exact h3.elim
/-- an argument, looked at -/
theorem arg_bor (B : BS G as ow H σ ρ st) {e : E} {k : D → Sto → R Fw} {D : Ends} {QQ : List V → Hp → Prop} (h : PostS G ((evB C ρ e st).bind k) D)
    (go : ∀ v d as1 ow1 H1 st1, BS G as1 ow1 H1 σ ρ st1 → Pst G.K G.cA as ow H as1 ow1 H1 st1 → RepX G.K as1 ow1 H1 v d → PostS G (k d st1) D → QQ [v] H1) : semBL G.K G.cA (fun ρ st => evBs C ρ [e] st) σ H QQ := by
  refine ⟨as, ow, ρ, st, B.env, B.rel, ?_⟩
  dsimp only
  rw [evBs_one]
  have h : PostS G ((CM.bor ρ e (ev C ρ e) st).bind k) D := h
  cases eo : CM.bor ρ e (ev C ρ e) st with
  | top => trivial
  | bad => rw [eo] at h; exact h.elim
  | err _ _ => rw [eo] at h; exact h.elim
  | ok d st1 =>
    rw [eo] at h
    intro vs as1 ow1 H1 p r
    obtain ⟨v, rfl, r1⟩ := rx1 r
    exact go v d as1 ow1 H1 st1 (B.step p) p r1 h
/-- xs.extend(e) -/
theorem ss_extend {o e : E} {xo xe : Expr} {apos cpos pos : Pos} (hK : G.K = X.K) (hb : noCall0 xo = true) (hl : (apos.endLine == cpos.line) = true) (he0 : okHead xe = true) (ho : RecvE G.cA C X o xo) (he : BorE G.cA C X e xe) :
    PS X (.Expr (.Call (.Attribute xo "extend" apos) [xe] [] cpos) pos) (semS G fun ρ st => evS C (.extend o e) ρ st) := by
  obtain ⟨to, h1, h2⟩ := recv_okG hK ho
  have hh : [xe].all okHead = true := by simp [he0]
  refine ps_imp (ps_expr (pe_bm PySem.F.plainAttrs_list PySem.F.slot_list_extend PySem.F.type_list_extend mt_extend h1 (snd_consB he snd_nilB he0) (base_ok hb) (few_ok hh (by simp)) hl (star_one he0 _ _) (back_plain (by rfl)))) fun D σ H h => ?_
  refine h2 G (fun ρ x st => if (lsP st x).isSome then (evB C ρ e st).bind fun d st => match lsP st d with
    | some ys => (updL o x ρ st fun xs => if xs.length + ys.length ≤ 16777216 then some (xs ++ ys) else none).bind fun ρ st => .ok (.next ρ) st
    | none => .bad else .bad) rfl rfl D σ H _ h fun as ow H1 ρ st v x B r1 hv h3 => ?_
  by_cases hs : (lsP st x).isSome = true
  · rw [if_pos hs] at h3
    refine ⟨hK ▸ lst_tyV B.rel r1 hs, ?_⟩
    rw [← hK]
    refine arg_bor (k := fun d st => match lsP st d with
      | some ys => (updL o x ρ st fun xs => if xs.length + ys.length ≤ 16777216 then some (xs ++ ys) else none).bind fun ρ st => .ok (.next ρ) st
      | none => .bad) B h3 fun w d as2 ow2 H2 st2 B2 p2 rw2 h4 => ?_
    cases hd : lsP st2 d with
    | none => rw [hd] at h4; exact h4.elim
    | some ys =>
      rw [hd] at h4
      have r2 : RepX G.K as2 ow2 H2 v x := r1.pst B.rel p2
      obtain ⟨q, zs, rfl, q1, q2⟩ := lsP_rd B2.rel rw2 hd
      obtain ⟨l, vs, xs', ys', rfl, e1, e2, e3, e4⟩ := updL_ok B2 r2 hv h4
      by_cases hc : xs'.length + ys.length ≤ 16777216
      · rw [if_pos hc] at e3
        cases e3
        exact ⟨l, q, vs, zs, rfl, rfl, e1, q1, by rw [e2.length, q2.length, sizeLine_eq]; exact hc, e4 _ (e2.append q2)⟩
      · rw [if_neg hc] at e3; cases e3
  · rw [if_neg hs] at h3; exact h3.elim
/-- d.update(e) -/
theorem ss_update {o e : E} {xo xe : Expr} {apos cpos pos : Pos} (hK : G.K = X.K) (hu : X.A.units + 65 < cLine) (hb : noCall0 xo = true) (hl : (apos.endLine == cpos.line) = true) (he0 : okHead xe = true) (ho : RecvE G.cA C X o xo) (he : ValE G.cA C X e xe) :
    PS X (.Expr (.Call (.Attribute xo "update" apos) [xe] [] cpos) pos) (semS G fun ρ st => evS C (.update o e) ρ st) := by
  obtain ⟨to, h1, h2⟩ := recv_okG hK ho
  have hh : [xe].all okHead = true := by simp [he0]
  have pa1 : PA X [xe] (fun σ H Q => semE X.K G.cA (fun ρ st => ev C ρ e st) σ H fun v H1 => Q [v] H1) := pa_imp (pa_cons he pa_nil (by exact star_one he0 _ _)) fun σ H Q h => h
  refine ps_imp (ps_expr (pe_bm PySem.F.plainAttrs_dict PySem.F.slot_dict_update PySem.F.type_dict_update (mt_updT (by omega)) h1 pa1 (base_ok hb) (few_ok hh (by simp)) hl (star_one he0 _ _) (back_plain (by rfl)))) fun D σ H h => ?_
  refine h2 G (fun ρ x st => match x with
    | .od _ _ => (ev C ρ e st).bind fun d st => (match CM.frz d with
      | .fd t' more => (updD o x ρ st fun t kvs => if t = true ∧ t' = true ∧ kvs.isEmpty = false ∧ kvs.length + more.length ≤ 16777216 then some (more.foldl (fun acc p => dPut p.1 p.2 acc) kvs) else none).bind fun ρ st => .ok (.next ρ) st
      | _ => .bad)
    | _ => .bad) rfl rfl D σ H _ h fun as ow H1 ρ st v x B r1 hv h3 => ?_
  cases x with
  | od t ks =>
    refine ⟨hK ▸ dcP_ty B.rel r1 rfl, ?_⟩
    rw [← hK]
    refine arg_rem (k := fun d st => match d with
      | .fd t' more => (updD o (.od t ks) ρ st fun t kvs => if t = true ∧ t' = true ∧ kvs.isEmpty = false ∧ kvs.length + more.length ≤ 16777216 then some (more.foldl (fun acc p => dPut p.1 p.2 acc) kvs) else none).bind fun ρ st => .ok (.next ρ) st
      | _ => .bad) B h3 fun w d as2 ow2 H2 st2 B2 p2 h4 => ?_
    cases d with
    | fd t' more =>
      have r2 : RepX G.K as2 ow2 H2 v (.od t ks) := r1.pst B.rel p2
      obtain ⟨B3, rw2⟩ := B2.unrem
      obtain ⟨l, t2, ks2, ys, rfl, e3, q⟩ := updD_ok B2 r2 hv h4
      by_cases hc : t2 = true ∧ t' = true ∧ ks2.isEmpty = false ∧ ks2.length + more.length ≤ 16777216
      · rw [if_pos hc] at e3
        obtain ⟨c1, c2, c3, c4⟩ := hc
        subst c1 c2
        obtain rfl := Option.some.inj e3
        rcases q with ⟨z, _⟩ | ⟨_, kvs, q1, q2, q3⟩
        · cases z
        · obtain ⟨l2, el, hw⟩ := own_ow r2 (by rfl)
          cases el
          cases rw2 with
          | @fdt p kvs2 _ a na nw rt =>
            refine ⟨l, p, kvs, kvs2, rfl, rfl, q1, a, fun z => nw (by rw [← z]; exact hw), fun z => ?_, by rw [q2.length, rt.length, sizeLine_eq]; exact c4, q3 _ (repT_merge rt q2)⟩
            have := q2.length
            rw [z] at this
            cases ks2 with
            | nil => cases c3
            | cons _ _ => cases this
      · rw [if_neg hc] at e3; cases e3
    | _ => exact h4.elim
  | _ => exact h3.elim
/-- xs.clear() -/
theorem ss_clear {o : E} {xo : Expr} {apos cpos pos : Pos} (hK : G.K = X.K) (hb : noCall0 xo = true) (hl : (apos.endLine == cpos.line) = true) (ho : RecvE G.cA C X o xo) :
    PS X (.Expr (.Call (.Attribute xo "clear" apos) [] [] cpos) pos) (semS G fun ρ st => evS C (.clear o) ρ st) := by
  obtain ⟨to, h1, h2⟩ := recv_okG hK ho
  refine ps_imp (ps_expr (pe_bm0 PySem.F.plainAttrs_list PySem.F.slot_list_clear PySem.F.type_list_clear mt_clear h1 (base_ok hb) hl)) fun D σ H h => ?_
  refine h2 G (fun ρ x st => if (lsP st x).isSome then (evs C ρ [] st).bind fun ds st => (updL o x ρ st fun _ => some []).bind fun ρ st => .ok (.next ρ) st else .bad) rfl rfl D σ H _ h fun as ow H1 ρ st v x B r1 hv h3 => ?_
  by_cases hs : (lsP st x).isSome = true
  · rw [if_pos hs] at h3
    refine ⟨hK ▸ lst_tyV B.rel r1 hs, ?_⟩
    have h4 : PostS G ((updL o x ρ st fun _ => some []).bind fun ρ st => .ok (.next ρ) st) D := h3
    obtain ⟨l, vs, xs', ys', rfl, e1, e2, e3, e4⟩ := updL_ok B r1 hv h4
    cases e3
    exact ⟨l, vs, rfl, rfl, e1, e4 _ .nil⟩
  · rw [if_neg hs] at h3; exact h3.elim
end
end CM
end
section
set_option linter.all false
set_option maxRecDepth 100000
set_option maxHeartbeats 4000000
/-! A statement that walks a dict. -/
namespace CM
open PySem PySem.Spec PyProof.Rows L2
section
variable {G : Gd} {C : Calls} {c : Cs} {X : Cx} {as as' : List Addr} {ow ow' : Addr → Prop} {H H' : Hp} {st st' : Sto} {σ : L2.St} {ρ : Slots} {D0 : Ends} {d : Addr} {o : Obj} {u : HO}
/-- the walk's ground: d is locked -/
def Gd.lock (G : Gd) (d : Addr) (o : Obj) (u : HO) (H0 : Hp) : Gd := { G with H0 := H0, fz := (d, .frz o u) :: G.fz }
theorem base_lock (G : Gd) (B : BS G as ow H σ ρ st) (hd : H d = some u) (hu : LkU u) (n1 : d ∉ as) (o : Obj) : ∃ H0' : Hp, (∀ p, p ≠ d → H0' p = G.H0 p) ∧ ((G.H0 d = some u ∧ H0' d = some (.frz o u)) ∨ (G.H0 d = none ∧ H0' d = none)) := by
  cases e : G.H0 d with
  | none => exact ⟨G.H0, fun _ _ => rfl, .inr ⟨rfl, e⟩⟩
  | some x =>
    have n0 : d ∉ G.as0 := fun z => by
      obtain ⟨t, ht⟩ := B.pst.pre
      exact n1 (by rw [← ht]; exact List.mem_append_left _ z)
    have := (B.pst.keep d x e n0).1
    rw [hd] at this; cases this
    exact ⟨upd G.H0 d (.frz o u), fun p n => upd_ne n, .inl ⟨rfl, upd_same⟩⟩
theorem BS.lock (B : BS G as ow H σ ρ st) (hd : H d = some u) (hu : LkU u) (n1 : d ∉ as) (n2 : ¬ ow d) {H0' : Hp} (h1 : ∀ p, p ≠ d → H0' p = G.H0 p) (h2 : (G.H0 d = some u ∧ H0' d = some (.frz o u)) ∨ (G.H0 d = none ∧ H0' d = none)) :
    BS (G.lock d o u H0') as ow (upd H d (.frz o u)) σ ρ st := by
  have c := Lk.lock (o := o) hd hu
  refine ⟨B.env.lk c n2, B.own, ⟨B.pst.pre, B.pst.pw, fun p x e n => ?_, B.rel.lk c n1 n2⟩, RepVs.lk c B.mem, fun q hq => ?_⟩
  · by_cases z : p = d
    · subst z
      rcases h2 with ⟨_, h2⟩ | ⟨_, h2⟩
      · have e : H0' p = some x := e
        rw [h2] at e; cases e
        exact ⟨upd_same, n1, fun z => (n2 z).elim⟩
      · have e : H0' p = some x := e
        rw [h2] at e; cases e
    · obtain ⟨a, b, f⟩ := B.pst.keep p x ((h1 p z).symm.trans e) n
      exact ⟨by rw [upd_ne z]; exact a, b, f⟩
  · have hq : q ∈ (d, HO.frz o u) :: G.fz := hq
    rcases List.mem_cons.mp hq with rfl | hq
    · exact ⟨upd_same, rfl⟩
    · obtain ⟨a, b⟩ := B.kept q hq
      refine ⟨?_, b⟩
      rw [upd_ne (fun z => by rw [z, hd] at a; cases a; rw [hu.mut] at b; cases b)]; exact a
theorem BS.unlock {H0' : Hp} (hu : LkU u) (hz : ∀ q ∈ G.fz, q.1 ≠ d) (h1 : ∀ p, p ≠ d → H0' p = G.H0 p) (h2 : (G.H0 d = some u ∧ H0' d = some (.frz o u)) ∨ (G.H0 d = none ∧ H0' d = none)) (B : BS (G.lock d o u H0') as ow H σ ρ st) :
    H d = some (.frz o u) ∧ BS G as ow (upd H d u) σ ρ st := by
  have k : H d = some (.frz o u) := (B.kept (d, .frz o u) List.mem_cons_self).1
  obtain ⟨n1, n2⟩ := B.rel.notTup k rfl
  have c := Lk.unlock k hu
  refine ⟨k, B.env.lk c n2, B.own, ⟨B.pst.pre, B.pst.pw, fun p x e n => ?_, B.rel.lk c n1 n2⟩, RepVs.lk c B.mem, fun q hq => ?_⟩
  · by_cases z : p = d
    · subst z
      rcases h2 with ⟨g, _⟩ | ⟨g, _⟩
      · rw [g] at e; cases e
        exact ⟨upd_same, n1, fun z => (n2 z).elim⟩
      · rw [g] at e; cases e
    · obtain ⟨a, b, f⟩ := B.pst.keep p x ((h1 p z).trans e) n
      exact ⟨by rw [upd_ne z]; exact a, b, f⟩
  · obtain ⟨a, b⟩ := B.kept q (List.mem_cons_of_mem _ hq)
    exact ⟨by rw [upd_ne (hz q hq)]; exact a, b⟩
theorem PostS.lock {H0' : Hp} {r : CM.R Fw} {D : Ends} (hu : LkU u) (hz : ∀ q ∈ G.fz, q.1 ≠ d) (h1 : ∀ p, p ≠ d → H0' p = G.H0 p) (h2 : (G.H0 d = some u ∧ H0' d = some (.frz o u)) ∨ (G.H0 d = none ∧ H0' d = none)) (h : PostS G r D) :
    PostS (G.lock d o u H0') r ⟨fun σ' H' => H' d = some (.frz o u) ∧ D.nx σ' (upd H' d u), fun v H' => H' d = some (.frz o u) ∧ D.rt v (upd H' d u), fun σ' H' => H' d = some (.frz o u) ∧ D.bk σ' (upd H' d u), fun σ' H' => H' d = some (.frz o u) ∧ D.ct σ' (upd H' d u)⟩ := by
  cases r with
  | ok fw st =>
    cases fw with
    | next ρ => exact fun a b c e B => let ⟨k, B'⟩ := B.unlock hu hz h1 h2; ⟨k, h a b _ e B'⟩
    | brk ρ => exact fun a b c e B => let ⟨k, B'⟩ := B.unlock hu hz h1 h2; ⟨k, h a b _ e B'⟩
    | cont ρ => exact fun a b c e B => let ⟨k, B'⟩ := B.unlock hu hz h1 h2; ⟨k, h a b _ e B'⟩
    | ret x =>
      intro v as1 ow1 H1 p rx f k
      have kd : H1 d = some (.frz o u) := (k (d, .frz o u) List.mem_cons_self).1
      obtain ⟨n1, n2⟩ := p.rel.notTup kd rfl
      have c := Lk.unlock kd hu
      refine ⟨kd, h v as1 ow1 _ ⟨p.pre, p.pw, fun q y e n => ?_, p.rel.lk c n1 n2⟩ (rx.lk c n2) f fun q hq => ?_⟩
      · by_cases z : q = d
        · subst z
          rcases h2 with ⟨g, _⟩ | ⟨g, _⟩
          · rw [g] at e; cases e
            exact ⟨upd_same, n1, fun z => (n2 z).elim⟩
          · rw [g] at e; cases e
        · obtain ⟨a, b, f⟩ := p.keep q y ((h1 q z).trans e) n
          exact ⟨by rw [upd_ne z]; exact a, b, f⟩
      · obtain ⟨a, b⟩ := k q (List.mem_cons_of_mem _ hq)
        exact ⟨by rw [upd_ne (hz q hq)]; exact a, b⟩
  | _ => exact h
theorem ss_lockS {i : Nat} {f : Slots → Sto → CM.R Fw} {x : Stmt} (h : ∀ G' : Gd, G'.K = G.K → G'.cA = G.cA → PS X x (fun D σ H => LkAt i σ H ∧ semS G' f D σ H)) (hf : ∀ ρ st, (∀ t ks, getS ρ i ≠ some (.fd t ks)) → f ρ st = .bad) : PS X x (semS G f) := by
  have h2 : PS X x (fun D σ H => ∃ G' : Gd, G'.K = G.K ∧ G'.cA = G.cA ∧ LkAt i σ H ∧ semS G' f D σ H) := ⟨fun pins s σ H D I ⟨G', e1, e2, q⟩ => (h G' e1 e2).run pins s σ H D I q⟩
  have or_ : PS X x (fun D σ H => (LkAt i σ H ∧ semS G f D σ H) ∨ tLock (fun D σ H => ∃ G' : Gd, G'.K = G.K ∧ G'.cA = G.cA ∧ LkAt i σ H ∧ semS G' f D σ H) D σ H) :=
    ⟨fun pins s σ H D I q => q.elim ((h G rfl rfl).run pins s σ H D I) ((ps_lock h2).run pins s σ H D I)⟩
  refine ps_imp or_ fun D σ H q => ?_
  obtain ⟨as, ow, ρ, st, B, q⟩ := q
  by_cases hz : ∃ t ks, getS ρ i = some (.fd t ks)
  · obtain ⟨t, ks, e⟩ := hz
    obtain ⟨d, u, g1, g2, hu, n1, n2⟩ := fd_slot B.env e
    rcases g2 with g2 | ⟨o, g2⟩
    · refine .inr ⟨d, u, g2, hu.mut2, fun od => ?_⟩
      obtain ⟨H0', b1, b2⟩ := base_lock G B g2 hu n1 od
      have hq : ∀ q ∈ G.fz, q.1 ≠ d := fun q hq z => by
        obtain ⟨a, b⟩ := B.kept q hq
        rw [z, g2] at a; cases a; rw [hu.mut] at b; cases b
      exact ⟨G.lock d od u H0', rfl, rfl, ⟨d, od, u, g1, upd_same, hu⟩, as, ow, ρ, st, B.lock g2 hu n1 n2 b1 b2, PostS.lock hu hq b1 b2 q⟩
    · exact .inl ⟨⟨d, o, u, g1, g2, hu⟩, as, ow, ρ, st, B, q⟩
  · have := hf ρ st fun t ks e => hz ⟨t, ks, e⟩
    rw [this] at q; exact q.elim
/-- for over a dict -/
theorem ss_forK {tg : Tg} {k : Ik} {src : List E} {b : List S} {i : Nat} {xt xi : Expr} {xb : List Stmt} {pos : Pos} (hK : G.K = X.K) (Dc : Dy G.cA C c X) (hp : PassesOwn (model X.prog X.w) X.A X.env X.xe) (htg : chkTg c tg xt = true) (hhd : okHead xi = true)
    (hi : chkL c k xt src xi = some i) (hb : ∀ G' : Gd, G'.K = G.K → G'.cA = G.cA → PSs X xb (semS G' fun ρ st => evSs C b ρ st)) : PS X (.For xt xi xb [] pos) (semS G fun ρ st => evS C (.for tg k src b) ρ st) := by
  obtain ⟨hsrc, hk, _, _⟩ := snd_lkB Dc hi
  refine ss_lockS (i := i) (fun G' e1 e2 => ss_forL (LkAt i) (G := G') (e1.trans hK) (by rw [e2]; exact Dc) hp htg hhd (by rw [e2]; exact (snd_lkB Dc hi).2.2.2) fun G2 f1 f2 => hb G2 (f1.trans e1) (f2.trans e2)) fun ρ st hn => ?_
  subst hsrc
  show ((ofO st ((getS ρ i).filter free)).bind fun d st => R.ok [frz d] st).bind (fun ds st0 => match itemsOf st0 k ds with
    | some items => if 16777216 < items.length then .top else forGo tg (fun ρ st => evSs C b ρ st) (fun st => still st0 st ds) items ρ st0
    | none => .bad) = .bad
  rcases srcV C (i := i) hk ρ st with ⟨t, ks, e, _⟩ | hno
  · exact absurd e (hn t ks)
  · have e0 : evs C ρ [.var i] st = (ofO st ((getS ρ i).filter free)).bind fun d st => R.ok [frz d] st := rfl
    dsimp only at hno
    rw [e0] at hno
    cases hg : (getS ρ i).filter free with
    | none => rfl
    | some d =>
      rw [hg] at hno
      have := hno [frz d] st rfl
      show (match itemsOf st k [frz d] with
        | some items => _
        | none => R.bad) = .bad
      rw [this]
end
end CM
end
section
set_option linter.all false
set_option maxRecDepth 100000
set_option maxHeartbeats 4000000
/-! The checker of statements, and that it is right. -/
namespace CM
open PySem PySem.Spec PyProof.Rows L2
def isDoc : Stmt → Bool
  | .Expr (.Constant (.str _) _ _) _ => true
  | _ => false
def dropDoc : List Stmt → List Stmt
  | [] => []
  | x :: r => if isDoc x then dropDoc r else x :: r
def isFrz : S → Bool
  | .frz _ => true
  | _ => false
/-- is a comprehension's list stored from within -/
def swV (c : Cs) (y : Str) (p : Pos) : Expr → Bool
  | .ListComp _ _ scope pos => (match c.sc.names.lookup y with
    | some .local => true
    | _ => false) && (p.line == pos.line) && !(scope.names.any fun (n, k) => n == y && (k == .local || k == .cell))
  | _ => false
def kindF (c : Cs) : Bool := match c.sc.kind with
  | .function => true
  | _ => false
def notTup : Expr → Bool
  | .Tuple _ _ _ => false
  | _ => true
def notSetComp : Expr → Bool
  | .SetComp _ _ _ _ => false
  | .DictComp _ _ _ _ _ => false
  | _ => true
def chkR (c : Cs) : E → Expr → Bool := fun o xo => chk c o xo
mutual
def chkS (c : Cs) : S → Stmt → Bool
  | .asg t e, x => (match t, x with
    | .one i, .Assign [.Name y p] xe _ => chkN c i (.Name y p) && chk c e xe && kindF c && notSetComp xe && (!swV c y p xe || (match e with
      | .comp _ _ _ _ _ => true
      | _ => false))
    | .many is, .Assign [.Tuple xs _ _] xe _ => chkNs c is xs && noComp xe && notTup xe && chk c e xe
    | _, _ => false)
  | .expr e, x => (match x with
    | .Expr xe _ => noComp xe && chk c e xe
    | _ => false)
  | .aug i o e, x => (match x with
    | .AugAssign (.Name y p) op xe _ => augOk o op && chkN c i (.Name y p) && chk c e xe
    | _ => false)
  | .append o e, x => (match x with
    | .Expr (.Call (.Attribute xo m apos) [xe] [] cpos) _ => decide (m = "append") && noCall0 xo && (apos.endLine == cpos.line) && okHead xe && chk c o xo && chk c e xe
    | _ => false)
  | .setF o f e, x => (match x with
    | .Assign [.Attribute xo y _] xe _ => decide (y = f.s) && noComp xe && chk c e xe && chk c o xo
    | _ => false)
  | .setI o k e, x => (match x with
    | .Assign [.Subscript xo xk _] xe _ => noComp xe && okHead xk && chk c o xo && chk c k xk && chk c e xe
    | _ => false)
  | .extend o e, x => (match x with
    | .Expr (.Call (.Attribute xo m apos) [xe] [] cpos) _ => decide (m = "extend") && noCall0 xo && (apos.endLine == cpos.line) && okHead xe && chk c o xo && chk c e xe
    | _ => false)
  | .update o e, x => (match x with
    | .Expr (.Call (.Attribute xo m apos) [xe] [] cpos) _ => decide (m = "update") && noCall0 xo && (apos.endLine == cpos.line) && okHead xe && chk c o xo && chk c e xe
    | _ => false)
  | .pop o e, x => (match x with
    | .Expr (.Call (.Attribute xo m apos) [xe] [] cpos) _ => decide (m = "pop") && noCall0 xo && (apos.endLine == cpos.line) && okHead xe && chk c o xo && chk c e xe
    | _ => false)
  | .setd o k e, x => (match x with
    | .Expr (.Call (.Attribute xo m apos) [xk, xe] [] cpos) _ => decide (m = "setdefault") && noCall0 xo && (apos.endLine == cpos.line) && okHead xk && okHead xe && chk c o xo && chk c k xk && chk c e xe
    | _ => false)
  | .clear o, x => (match x with
    | .Expr (.Call (.Attribute xo m apos) [] [] cpos) _ => decide (m = "clear") && noCall0 xo && (apos.endLine == cpos.line) && chk c o xo
    | _ => false)
  | .insert0 o e, x => (match x with
    | .Expr (.Call (.Attribute xo m apos) [xz, xe] [] cpos) _ => decide (m = "insert") && noCall0 xo && (apos.endLine == cpos.line) && okHead xz && okHead xe && chk c o xo && chk c (.int 0) xz && chk c e xe
    | _ => false)
  | .ret e, x => (match x with
    | .Return (some xe) _ => chk c e xe
    | _ => false)
  | .retN, x => (match x with
    | .Return none _ => true
    | _ => false)
  | .iff t a b, x => (match x with
    | .If xt xa xb _ => chkT c t xt && chkSs c a xa && chkSs c b xb
    | _ => false)
  | .for tg k src b, x => (match x with
    | .For xt xi xb [] _ => chkTg c tg xt && okHead xi && (if isLk k then (chkL c k xt src xi).isSome else (match argsW c k xt xi with
      | some args => chks c src args
      | none => false)) && chkSs c b xb
    | _ => false)
  | .while t b, x => (match x with
    | .While xt xb [] _ => chkT c t xt && chkSs c b xb
    | _ => false)
  | .cont, x => (match x with
    | .Continue _ => true
    | _ => false)
  | .brk, x => (match x with
    | .Break _ => true
    | _ => false)
  | .pass, x => (match x with
    | .Pass _ => true
    | _ => false)
  | .raise _ _ _, x => (match x with
    | .Raise _ _ _ => true
    | _ => false)
  | .tryE b _ _ _ els, x => (match x with
    | .Try xb (_ :: _) xe [] _ => chkSs c b xb && chkSs c els xe
    | _ => false)
  | _, _ => false
termination_by structural s => s
def chkSs (c : Cs) : List S → List Stmt → Bool
  | [], xs => xs.all isDoc
  | s :: r, xs => if isFrz s then chkSs c r xs else (match dropDoc xs with
    | x :: xr => chkS c s x && chkSs c r xr
    | [] => false)
termination_by structural s => s
end
section
variable {G : Gd} {C : Calls} {c : Cs} {X : Cx}
theorem swV_ok {e : Expr} {y : Str} {p : Pos} {n : Nat} (Dc : Dy G.cA C c X) (hk : kindF c = true) (hs : notSetComp e = true) : swapsWith e (some (.Name y p)) n X.env = pure (swV c y p e) := by
  cases e with
  | ListComp elt gs scope pos =>
    have hk' : X.env.scope.kind = .function := by
      rw [Dc.sc]
      unfold kindF at hk
      split at hk
      · assumption
      · cases hk
    have hb : X.env.blockKind = .function := by unfold Env.blockKind; rw [hk']; rfl
    unfold swapsWith
    simp only [hb, Env.kindOf, Dc.sc, Expr.pos, swV]
    congr 1
    have e1 : (ScopeKind.function == ScopeKind.function) = true := rfl
    rw [e1, Bool.true_and]
    cases hl : c.sc.names.lookup y with
    | none => rfl
    | some k => cases k <;> rfl
  | SetComp _ _ _ _ => cases hs
  | DictComp _ _ _ _ _ => cases hs
  | _ => rfl
theorem ss_asgLcL (L : L2.St → Hp → Prop) {G : Gd} {i : Nat} {elt : E} {tg : Tg} {k : Ik} {src ifs : List E} {x : Str} {xe xt xi : Expr} {xifs : List Expr} {scope : Scope} {lpos p pos : Pos} (hK : G.K = X.K) (Dc : Dy G.cA C c X) (ht : c.N[i]? = some x) (hyl : X.env.scope.names.lookup x = some .local)
    (hsx : swapsWith (.ListComp xe [⟨xt, xi, xifs, 0⟩] scope lpos) (some (.Name x p)) pos.line X.env = pure true) (h1 : blkC c.N c.sc scope (ownOf c tg) = true) (h2 : chkTg (c.blk scope) tg xt = true) (h3 : okHead xi = true) (hi : PI X xt xi (fun σ H Rr => L σ H ∧ semI X.K G.cA k (fun ρ st => evBs C ρ src st) σ H Rr))
    (hts : ∀ X, Dy G.cA C (c.blk scope) X → PTs X xifs (semTs X.K G.cA fun ρ st => evTs C ρ ifs st)) (h6 : chk (c.blk scope) elt xe = true) :
    PS X (.Assign [.Name x p] (.ListComp xe [⟨xt, xi, xifs, 0⟩] scope lpos) pos) (fun D σ H => L σ H ∧ semS G (fun ρ st => evS C (.asg (.one i) (.comp elt tg k src ifs)) ρ st) D σ H) := by
  have := ps_setLc (i := i) (pos := lpos) (spos := pos) (own := ownOf c tg) (g := gTg X.K tg) (tt := semTs X.K G.cA fun ρ st => evTs C ρ ifs st) (te := semE X.K G.cA fun ρ st => ev C ρ elt st) Dc.calm (by rw [Dc.N]; exact Dc.nd) (by rw [Dc.N]; exact ht) hyl hsx hi (by rw [Dc.N, Dc.sc]; exact blkOk_by h1)
    (fun s H A cl fp => snd_tg (Dc.blk s H scope A cl fp) h2) (fun s H A cl fp => hts _ (Dc.blk s H scope A cl fp)) (fun s H A cl fp => (sndE_all elt).v _ _ h6 G.cA C _ (Dc.blk s H scope A cl fp)) (fold_ok h3 X.env)
  rw [own_snd] at this
  refine ps_imp this fun D σ H q => ⟨q.1, ?_⟩
  have z : semE G.K G.cA (fun ρ st => ev C ρ (.comp elt tg k src ifs) st) σ H (fun x H1 => gName i x σ H1 D.nx) := by
    refine semS_bind (k := fun ρ d st => ofO st ((asgT (.one i) d ρ).map .next)) q.2 fun as ow ρ st B v d as1 ow1 H1 st1 p r f h3 => ?_
    exact h3 as1 ow1 H1 _ (B.set p r f i)
  rw [hK] at z
  exact lc_ok z
theorem ss_asgLc {i : Nat} {elt : E} {tg : Tg} {k : Ik} {src ifs : List E} {x : Str} {xe : Expr} {p pos : Pos} (hK : G.K = X.K) (Dc : Dy G.cA C c X) (ht : chkN c i (.Name x p) = true) (hk : kindF c = true) (hs : notSetComp xe = true) (hsw : swV c x p xe = true) (h : chk c (.comp elt tg k src ifs) xe = true) :
    PS X (.Assign [.Name x p] xe pos) (semS G fun ρ st => evS C (.asg (.one i) (.comp elt tg k src ifs)) ρ st) := by
  have hsx := swV_ok (y := x) (n := pos.line) (p := p) Dc hk hs
  rw [hsw] at hsx
  simp only [chkN, Bool.and_eq_true, decide_eq_true_eq] at ht
  unfold chk at h
  split at h
  · rename_i xe xt xi xifs scope lpos
    simp only [Bool.and_eq_true] at h
    obtain ⟨⟨⟨⟨⟨⟨h1, h2⟩, h3⟩, h4⟩, hone⟩, h5⟩, h6⟩ := h
    have hone := of_decide_eq_true hone
    have hyl : X.env.scope.names.lookup x = some .local := by
      rw [Dc.sc]
      simp only [swV, Bool.and_eq_true] at hsw
      have := hsw.1.1
      split at this
      · assumption
      · cases this
    have hts : ∀ X, Dy G.cA C (c.blk scope) X → PTs X xifs (semTs X.K G.cA fun ρ st => evTs C ρ ifs st) := fun X' D' => by
      cases ifs with
      | nil => rw [chkTs_nil h5]; exact snd_ts0
      | cons i r =>
        obtain ⟨y, yr, rfl, h7, h8⟩ := chkTs_cons h5
        cases r with
        | nil => rw [chkTs_nil h8]; exact snd_ts1 ((sndE_all i).t _ _ h7 G.cA C X' D')
        | cons j r => simp at hone
    split at h4
    · rename_i hlk
      obtain ⟨j, hj⟩ := Option.isSome_iff_exists.mp h4
      obtain ⟨hsrc, _, _, _⟩ := snd_lkB Dc hj
      refine ss_lockS (i := j) (fun G' e1 e2 => ss_asgLcL (LkAt j) (e1.trans hK) (by rw [e2]; exact Dc) ht.1 hyl hsx h1 h2 h3 (by rw [e2]; exact (snd_lkB Dc hj).2.2.1) (by rw [e2]; exact hts) h6) fun ρ st hn => ?_
      subst hsrc
      have e0 : ev C ρ (.comp elt tg k [.var j] ifs) st = .bad := comp_bad hlk hn
      show (ev C ρ (.comp elt tg k [.var j] ifs) st).bind _ = .bad
      rw [e0]; rfl
    · split at h4
      · rename_i args ha
        exact ps_imp (ss_asgLcL (fun _ _ => True) hK Dc ht.1 hyl hsx h1 h2 h3 (pi_mono (snd_walkB Dc (walk_of ha h4) fun a y hs hc => (sndE_all a).b hc Dc) fun σ H Rr h => h.2) hts h6) fun D σ H h => ⟨trivial, h⟩
      · cases h4
  · cases h
theorem Dy.nox {cA : ClA} (Dc : Dy cA C c X) : Dy cA C c X.nox := ⟨Dc.N, Dc.nd, Dc.sc, Dc.calm, Dc.fn, Dc.hu, Dc.free, Dc.glob, Dc.globi, Dc.call, Dc.meth, Dc.ins, Dc.cty, Dc.kit, Dc.skey⟩
end
structure SndS (s : S) : Prop where
  v : ∀ (c : Cs) (x : Stmt), chkS c s x = true → ∀ (G : Gd) (C : Calls) (X : Cx), G.K = X.K → Dy G.cA C c X → PassesOwn (model X.prog X.w) X.A X.env X.xe → PS X x (semS G fun ρ st => evS C s ρ st)
structure SndSs (ss : List S) : Prop where
  v : ∀ (c : Cs) (xs : List Stmt), chkSs c ss xs = true → ∀ (G : Gd) (C : Calls) (X : Cx), G.K = X.K → Dy G.cA C c X → PassesOwn (model X.prog X.w) X.A X.env X.xe → PSs X xs (semS G fun ρ st => evSs C ss ρ st)
section
variable {G : Gd} {C : Calls} {c : Cs} {X : Cx}
theorem doc_cons {x : Stmt} (h : isDoc x = true) {ss : List S} {xs : List Stmt} (q : PSs X xs (semS G fun ρ st => evSs C ss ρ st)) : PSs X (x :: xs) (semS G fun ρ st => evSs C ss ρ st) := by
  unfold isDoc at h
  split at h
  · exact ss_doc q
  · cases h
theorem doc_all {xs : List Stmt} (h : xs.all isDoc = true) : PSs X xs (semS G fun ρ st => evSs C [] ρ st) := by
  induction xs with
  | nil => exact ss_nil
  | cons x r ih =>
    simp only [List.all_cons, Bool.and_eq_true] at h
    exact doc_cons h.1 (ih h.2)
theorem doc_drop {ss : List S} {xs ys : List Stmt} (e : dropDoc xs = ys) (q : PSs X ys (semS G fun ρ st => evSs C ss ρ st)) : PSs X xs (semS G fun ρ st => evSs C ss ρ st) := by
  induction xs with
  | nil => rw [← e] at q; exact q
  | cons x r ih =>
    by_cases h : isDoc x = true
    · have e2 : dropDoc (x :: r) = dropDoc r := if_pos h
      rw [e2] at e
      exact doc_cons h (ih e)
    · have e2 : dropDoc (x :: r) = x :: r := if_neg h
      rw [e2] at e; rw [e]; exact q
end
theorem ss_all_nil : SndSs [] := ⟨fun c xs h G C X hK Dc hp => doc_all h⟩
theorem ss_all_cons {s : S} {r : List S} (Hs : SndS s) (Hr : SndSs r) : SndSs (s :: r) := ⟨fun c xs h G C X hK Dc hp => by
  unfold chkSs at h
  by_cases hf : isFrz s = true
  · rw [if_pos hf] at h
    cases s with
    | frz i => exact ss_frz (Hr.v c xs h G C X hK Dc hp)
    | _ => cases hf
  · rw [if_neg hf] at h
    split at h
    · rename_i x xr e
      simp only [Bool.and_eq_true] at h
      exact doc_drop e (ss_cons (Hs.v c x h.1 G C X hK Dc hp) (Hr.v c xr h.2 G C X hK Dc hp))
    · cases h⟩
theorem none_s {s : S} (h : ∀ c x, chkS c s x = true → False) : SndS s := ⟨fun c x q _ _ _ _ _ _ => (h c x q).elim⟩
theorem S_asg (t : Tg) (e : E) : SndS (.asg t e) := ⟨fun c x h G C X hK Dc hp => by
  unfold chkS at h
  split at h
  · rename_i i y p xe pos
    simp only [Bool.and_eq_true] at h
    obtain ⟨⟨⟨⟨h1, h2⟩, h3⟩, h4⟩, h5⟩ := h
    cases hsw : swV c y p xe with
    | false => exact ss_asg1 hK Dc h1 (by rw [swV_ok Dc h3 h4, hsw]) ((sndE_all e).v c xe h2 G.cA C X Dc)
    | true =>
      rw [hsw] at h5
      simp only [Bool.not_true, Bool.false_or] at h5
      split at h5
      · exact ss_asgLc hK Dc h1 h3 h4 hsw h2
      · cases h5
  · rename_i is xs k p xe pos
    simp only [Bool.and_eq_true] at h
    obtain ⟨⟨⟨h1, h2⟩, h3⟩, h4⟩ := h
    exact ss_asgM hK Dc h1 h2 (fun es k p z => by subst z; cases h3) ((sndE_all e).v c xe h4 G.cA C X Dc)
  · cases h⟩
theorem S_expr (e : E) : SndS (.expr e) := ⟨fun c x h G C X hK Dc hp => by
  unfold chkS at h
  split at h
  · simp only [Bool.and_eq_true] at h
    exact ss_expr hK h.1 ((sndE_all e).v c _ h.2 G.cA C X Dc)
  · cases h⟩
theorem S_aug (i : Nat) (o : Op) (e : E) : SndS (.aug i o e) := ⟨fun c x h G C X hK Dc hp => by
  unfold chkS at h
  split at h
  · simp only [Bool.and_eq_true] at h
    exact ss_aug hK Dc h.1.1 h.1.2 ((sndE_all e).v c _ h.2 G.cA C X Dc)
  · cases h⟩
theorem recv_of {G : Gd} {C : Calls} {c : Cs} {X : Cx} (Dc : Dy G.cA C c X) {o : E} {xo : Expr} (h : chk c o xo = true) : RecvE G.cA C X o xo := ⟨fun i e => by
  subst e
  obtain ⟨y, pos, rfl, h1, h2, h3⟩ := var_shape h
  exact pe_slot (G := G) Dc h1 h2 h3, fun _ => (sndE_all o).v c xo h G.cA C X Dc⟩
theorem S_append (o e : E) : SndS (.append o e) := ⟨fun c x h G C X hK Dc hp => by
  unfold chkS at h
  split at h
  · rename_i xo m apos xe cpos pos
    simp only [Bool.and_eq_true, decide_eq_true_eq] at h
    obtain ⟨⟨⟨⟨⟨h1, h2⟩, h3⟩, h4⟩, h5⟩, h6⟩ := h
    subst h1
    exact ss_mutL (xs := []) hK Dc PySem.F.slot_list_append PySem.F.type_list_append mt_append mut_append h2 h3 (by simp) (by simp [h4]) (recv_of Dc h5) (snd_cons ((sndE_all e).v c xe h6 G.cA C X Dc) snd_nil h4)
  · cases h⟩
theorem S_setF (o : E) (f : Fl) (e : E) : SndS (.setF o f e) := ⟨fun c x h G C X hK Dc hp => by
  unfold chkS at h
  split at h
  · simp only [Bool.and_eq_true, decide_eq_true_eq] at h
    exact ss_setF hK Dc h.1.1.1 h.1.1.2 ((sndE_all e).v c _ h.1.2 G.cA C X Dc) ((sndE_all o).v c _ h.2 G.cA C X Dc)
  · cases h⟩
theorem S_setI (o k e : E) : SndS (.setI o k e) := ⟨fun c x h G C X hK Dc hp => by
  unfold chkS at h
  split at h
  · simp only [Bool.and_eq_true] at h
    exact ss_setI hK Dc h.1.1.1.1 h.1.1.1.2 (recv_of Dc h.1.1.2) ((sndE_all k).v c _ h.1.2 G.cA C X Dc) ((sndE_all e).v c _ h.2 G.cA C X Dc)
  · cases h⟩
theorem S_extend (o e : E) : SndS (.extend o e) := ⟨fun c x h G C X hK Dc hp => by
  unfold chkS at h
  split at h
  · simp only [Bool.and_eq_true, decide_eq_true_eq] at h
    obtain ⟨⟨⟨⟨⟨h1, h2⟩, h3⟩, h4⟩, h5⟩, h6⟩ := h
    subst h1
    exact ss_extend hK h2 h3 h4 (recv_of Dc h5) ((sndE_all e).b h6 Dc)
  · cases h⟩
theorem S_update (o e : E) : SndS (.update o e) := ⟨fun c x h G C X hK Dc hp => by
  unfold chkS at h
  split at h
  · simp only [Bool.and_eq_true, decide_eq_true_eq] at h
    obtain ⟨⟨⟨⟨⟨h1, h2⟩, h3⟩, h4⟩, h5⟩, h6⟩ := h
    subst h1
    exact ss_update hK Dc.hu h2 h3 h4 (recv_of Dc h5) ((sndE_all e).v c _ h6 G.cA C X Dc)
  · cases h⟩
theorem S_pop (o e : E) : SndS (.pop o e) := ⟨fun c x h G C X hK Dc hp => by
  unfold chkS at h
  split at h
  · simp only [Bool.and_eq_true, decide_eq_true_eq] at h
    obtain ⟨⟨⟨⟨⟨h1, h2⟩, h3⟩, h4⟩, h5⟩, h6⟩ := h
    subst h1
    exact ss_mutD (xs := []) hK PySem.F.slot_dict_pop PySem.F.type_dict_pop (mt_pop1 (by have := Dc.hu; omega)) mut_pop h2 h3 (by simp) (by simp [h4]) (recv_of Dc h5) (snd_cons ((sndE_all e).v c _ h6 G.cA C X Dc) snd_nil h4)
  · cases h⟩
theorem S_setd (o k e : E) : SndS (.setd o k e) := ⟨fun c x h G C X hK Dc hp => by
  unfold chkS at h
  split at h
  · simp only [Bool.and_eq_true, decide_eq_true_eq] at h
    obtain ⟨⟨⟨⟨⟨⟨⟨h1, h2⟩, h3⟩, h4⟩, h5⟩, h6⟩, h7⟩, h8⟩ := h
    subst h1
    exact ss_setd hK h2 h3 h4 h5 (recv_of Dc h6) ((sndE_all k).v c _ h7 G.cA C X Dc) ((sndE_all e).v c _ h8 G.cA C X Dc)
  · cases h⟩
theorem S_clear (o : E) : SndS (.clear o) := ⟨fun c x h G C X hK Dc hp => by
  unfold chkS at h
  split at h
  · simp only [Bool.and_eq_true, decide_eq_true_eq] at h
    obtain ⟨⟨⟨h1, h2⟩, h3⟩, h4⟩ := h
    subst h1
    exact ss_clear hK h2 h3 (recv_of Dc h4)
  · cases h⟩
theorem S_insert0 (o e : E) : SndS (.insert0 o e) := ⟨fun c x h G C X hK Dc hp => by
  unfold chkS at h
  split at h
  · simp only [Bool.and_eq_true, decide_eq_true_eq] at h
    obtain ⟨⟨⟨⟨⟨⟨⟨h1, h2⟩, h3⟩, h4⟩, h5⟩, h6⟩, h7⟩, h8⟩ := h
    subst h1
    exact ss_mutL hK Dc PySem.F.slot_list_insert PySem.F.type_list_insert mt_insert mut_insert0 h2 h3 (by simp) (by simp [h4, h5]) (recv_of Dc h6) (snd_cons ((sndE_all (.int 0)).v c _ h7 G.cA C X Dc) (snd_cons ((sndE_all e).v c _ h8 G.cA C X Dc) snd_nil h5) h4)
  · cases h⟩
theorem S_ret (e : E) : SndS (.ret e) := ⟨fun c x h G C X hK Dc hp => by
  unfold chkS at h
  split at h
  · by_cases hi : ∃ i, e = .var i
    · obtain ⟨i, rfl⟩ := hi
      obtain ⟨y, pos, rfl, h1, h2, h3⟩ := var_shape h
      exact ss_retV hK Dc h1 h2 h3
    · exact ss_ret hK (fun i z => hi ⟨i, z⟩) ((sndE_all e).v c _ h G.cA C X Dc)
  · cases h⟩
theorem S_retN : SndS .retN := ⟨fun c x h G C X hK Dc hp => by
  unfold chkS at h
  split at h
  · exact ss_retN
  · cases h⟩
theorem S_iff (t : E) {a b : List S} (Ha : SndSs a) (Hb : SndSs b) : SndS (.iff t a b) := ⟨fun c x h G C X hK Dc hp => by
  unfold chkS at h
  split at h
  · simp only [Bool.and_eq_true] at h
    exact ss_if hK ((sndE_all t).t c _ h.1.1 G.cA C X Dc) (Ha.v c _ h.1.2 G C X hK Dc hp) (Hb.v c _ h.2 G C X hK Dc hp)
  · cases h⟩
theorem S_for (tg : Tg) (k : Ik) (src : List E) {b : List S} (Hb : SndSs b) : SndS (.for tg k src b) := ⟨fun c x h G C X hK Dc hp => by
  unfold chkS at h
  split at h
  · simp only [Bool.and_eq_true] at h
    obtain ⟨⟨⟨h1, h2⟩, h3⟩, h4⟩ := h
    split at h3
    · obtain ⟨i, hi⟩ := Option.isSome_iff_exists.mp h3
      exact ss_forK hK Dc hp h1 h2 hi fun G' e1 e2 => Hb.v c _ h4 G' C X (e1.trans hK) (by rw [e2]; exact Dc) hp
    · split at h3
      · rename_i args ha
        refine ss_for hK Dc hp h1 h2 (snd_walkV Dc (walk_of ha h3) fun a y hs hc => (sndE_all a).v c y hc G.cA C X Dc) fun G' e1 e2 => Hb.v c _ h4 G' C X (e1.trans hK) (by rw [e2]; exact Dc) hp
      · cases h3
  · cases h⟩
theorem S_while (t : E) {b : List S} (Hb : SndSs b) : SndS (.while t b) := ⟨fun c x h G C X hK Dc hp => by
  unfold chkS at h
  split at h
  · simp only [Bool.and_eq_true] at h
    exact ss_while hK hp ((sndE_all t).t c _ h.1 G.cA C X Dc) (Hb.v c _ h.2 G C X hK Dc hp)
  · cases h⟩
theorem S_cont : SndS .cont := ⟨fun c x h G C X hK Dc hp => by
  unfold chkS at h
  split at h
  · exact ss_cont
  · cases h⟩
theorem S_brk : SndS .brk := ⟨fun c x h G C X hK Dc hp => by
  unfold chkS at h
  split at h
  · exact ss_brk
  · cases h⟩
theorem S_pass : SndS .pass := ⟨fun c x h G C X hK Dc hp => by
  unfold chkS at h
  split at h
  · exact ss_pass
  · cases h⟩
theorem S_raise (k : Cl) (n : Option Nat) (es : List E) : SndS (.raise k n es) := ⟨fun c x h G C X hK Dc hp => ss_raise (x := none) (pos := ⟨0, 0, 0, 0⟩)⟩
theorem S_try {b els : List S} {cs : List Cl} {nm : Option Nat} {hh : List S} (Hb : SndSs b) (He : SndSs els) : SndS (.tryE b cs nm hh els) := ⟨fun c x h G C X hK Dc hp => by
  unfold chkS at h
  split at h
  · simp only [Bool.and_eq_true] at h
    refine ps_imp (ps_try_thru (Hb.v c _ h.1 G C X.nox hK Dc.nox PassesOwn.never) (He.v c _ h.2 G C X hK Dc hp)) fun D σ H q => ?_
    obtain ⟨as, ow, ρ, st, B, q⟩ := q
    refine ⟨as, ow, ρ, st, B, ?_⟩
    have q : PostS G (match evSs C b ρ st with
      | .ok (.next ρ) st => evSs C els ρ st
      | .ok fw st => .ok fw st
      | .top => .top
      | _ => .bad) D := q
    dsimp only
    cases e : evSs C b ρ st with
    | ok fw st1 =>
      rw [e] at q
      cases fw with
      | next ρ1 => exact fun as1 ow1 H1 σ1 B1 => ⟨as1, ow1, ρ1, st1, B1, q⟩
      | brk ρ1 => exact q
      | cont ρ1 => exact q
      | ret d => exact q
    | top => trivial
    | bad => rw [e] at q; exact q.elim
    | err _ _ => rw [e] at q; exact q.elim
  · cases h⟩
mutual
theorem sndS_all : ∀ s : S, SndS s
  | .asg t e => S_asg t e
  | .expr e => S_expr e
  | .aug i o e => S_aug i o e
  | .append o e => S_append o e
  | .ret e => S_ret e
  | .retN => S_retN
  | .iff t a b => S_iff t (sndSs_all a) (sndSs_all b)
  | .for tg k src b => S_for tg k src (sndSs_all b)
  | .while t b => S_while t (sndSs_all b)
  | .cont => S_cont
  | .brk => S_brk
  | .pass => S_pass
  | .raise k n es => S_raise k n es
  | .tryE b _ _ _ els => S_try (sndSs_all b) (sndSs_all els)
  | .setF o f e => S_setF o f e
  | .setI o k e => S_setI o k e
  | .extend o e => S_extend o e
  | .update o e => S_update o e
  | .pop o e => S_pop o e
  | .setd o k e => S_setd o k e
  | .clear o => S_clear o
  | .insert0 o e => S_insert0 o e
  | .frz _ => none_s fun c x h => by cases h
  | .bxv _ => none_s fun c x h => by cases h
termination_by structural s => s
theorem sndSs_all : ∀ ss : List S, SndSs ss
  | [] => ss_all_nil
  | s :: r => ss_all_cons (sndS_all s) (sndSs_all r)
termination_by structural ss => ss
end
end CM
end
section
set_option linter.all false
set_option maxRecDepth 100000
set_option maxHeartbeats 4000000
/-! Defs. -/
namespace CM
open PySem PySem.Spec PyProof.Rows L2
/-- what a def that does F promises -/
def spF (K : PySem.W.Frag) (cA : ClA) (np : Nat) (F : Fn) : Sp := fun vs H Q _ => vs.length = np ∧ CallPre K cA F vs H Q
theorem RepVs.free {K : PySem.W.Frag} {as : List Addr} {ow : Addr → Prop} {H : Hp} : ∀ {vs : List V} {ds : List D} {i : Nat} {d : D}, RepVs K as ow H vs ds → ds[i]? = some d → CM.free d = true
  | _, _, i, d, .nil, e => by simp at e
  | _, _, 0, d, .cons a r, e => by simp at e; subst e; exact rep_free a
  | _, _, i + 1, d, .cons a r, e => RepVs.free r (by simpa using e)
theorem start_get {N : List Str} {vs : List V} {i : Nat} {v : V} (h : vs[i]? = some v) : (L2.start N vs)[i]? = some (some v) := by
  unfold L2.start
  have hl := (List.getElem?_eq_some_iff.mp h).1
  rw [List.getElem?_append_left (by rw [List.length_map]; exact hl), List.getElem?_map, h]; rfl
theorem args_get {ds : List D} {k i : Nat} {d : D} (h : (ds.map some ++ List.replicate k none)[i]? = some (some d)) : ds[i]? = some d := by
  rw [List.getElem?_append] at h
  split at h
  · rw [List.getElem?_map] at h
    cases e : ds[i]? with
    | none => rw [e] at h; cases h
    | some x => rw [e] at h; cases h; rfl
  · rw [List.getElem?_replicate] at h
    split at h <;> cases h
section
variable {P : Program} {w : World} {K : PySem.W.Frag} {mg : Str → Option Value} {base : Heap} {cA : ClA}
/-- a def whose text is the mini-program keeps its promise -/
theorem fn_sound {k np : Nat} {x qual : Str} {params : Arguments} {body : List Stmt} {scope : Scope} {dvs : List V} {kws : List (Str × V)} {f : Addr} {fd : FuncData} {N ps : List Str} {ss : List S} {c : Cs} {C : Calls}
    (F : FunD K x qual params body scope dvs kws f fd) (S : FnScope N ps scope) (hN : c.N = N) (hs : c.sc = scope) (hps : ps.length = np) (h : chkSs c ss body = true)
    (hD : ∀ X : Cx, X.prog = P → X.w = w → X.K = K → X.mg = mg → X.base = base → X.N = N → X.env.scope = scope → X.calm = true → (∀ x, X.fn x = true) → Room k X.A → Dy cA C c X) : FnOk P w K mg base CX0 (k + 1) f fd ps (spF K cA np (runFn C np N.length ss)) := by
  refine F.ok S (fun vs H Q E h => h.1.trans hps.symm) fun cdv A outer s H vs Q E hr hsp => ?_
  obtain ⟨hlen, as, ow, st, ds, R, rv, q⟩ := hsp
  refine ⟨semS ⟨K, cA, as, ow, H, [], [], []⟩ fun ρ st => evSs C ss ρ st, PSs.nox ((sndSs_all ss).v c body h ⟨K, cA, as, ow, H, [], [], []⟩ C _ rfl (hD _ rfl rfl rfl rfl rfl rfl rfl rfl (fun _ => rfl) hr) PassesOwn.never), ?_⟩
  have hl : ds.length = np := by rw [← rv.length]; exact hlen
  have q : PostE K cA as ow H (match evSs C ss (ds.map some ++ List.replicate (N.length - ds.length) none) st with
    | .ok (.ret d) st => .ok d st
    | .ok (.next _) st => .ok .non st
    | .err x st => .err x st
    | .top => .top
    | _ => .bad) Q := by
    have q' : PostE K cA as ow H (if ds.length = np then _ else .bad) Q := q
    rw [if_pos hl] at q'; exact q'
  refine ⟨as, ow, ds.map some ++ List.replicate (N.length - ds.length) none, st, ⟨⟨?_, fun i d e => ?_, fun i j di dj p _ e1 _ f1 _ _ => ?_⟩, fun i d p e f1 _ => ?_, Pst.refl R, .nil, fun _ z => (nomatch z)⟩, ?_⟩
  · show (L2.start N vs).length = _
    unfold L2.start
    rw [List.length_append, List.length_map, List.length_replicate, List.length_append, List.length_map, List.length_replicate, rv.length]
  · have e := args_get e
    obtain ⟨v, h1, h2⟩ := rv.get e
    exact ⟨v, start_get h1, rxs_of h2⟩
  · rw [rv.free (args_get e1)] at f1; cases f1
  · rw [rv.free (args_get e)] at f1; cases f1
  · dsimp only
    cases e : evSs C ss (ds.map some ++ List.replicate (N.length - ds.length) none) st with
    | ok fw st1 =>
      rw [e] at q
      cases fw with
      | next ρ1 => exact fun as1 ow1 H1 σ1 B1 => q .non as1 ow1 H1 B1.pst .non fun z => by cases z
      | ret d => exact fun v as1 ow1 H1 p r f => fun _ => q v as1 ow1 H1 p r f
      | brk _ => exact q.elim
      | cont _ => exact q.elim
    | top => trivial
    | bad => rw [e] at q; exact q.elim
    | err _ _ => rw [e] at q; exact q.elim
/-- a def that never is met -/
theorem fn_never {k np : Nat} {f : Addr} {fd : FuncData} {ps : List Str} : FnOk P w K mg base CX0 k f fd ps (spF K cA np fun _ _ => .bad) :=
  ⟨fun vs H Q E h => by obtain ⟨_, _, _, _, _, _, _, q⟩ := h; exact q.elim, fun A outer s H args us vs Q E _ _ _ _ h => by obtain ⟨_, _, _, _, _, _, _, q⟩ := h; exact q.elim⟩
/-! ### calls -/
/-- values for parameters left out -/
def constV : D → Option V
  | .non => some .non
  | .bl b => some (.bl b)
  | .int i => some (.int i)
  | _ => none
theorem const_rep {as : List Addr} {ow : Addr → Prop} {H : Hp} : ∀ {dd : List D} {dvs : List V}, dd.map constV = dvs.map some → RepVs K as ow H dvs dd
  | [], [], _ => .nil
  | [], _ :: _, h => by cases h
  | _ :: _, [], h => by cases h
  | d :: dd, v :: dvs, h => by
    simp only [List.map_cons, List.cons.injEq] at h
    refine .cons ?_ (const_rep h.2)
    have := h.1
    cases d <;> simp [constV] at this <;> subst this
    · exact .non
    · exact .bl _
    · exact .int _
theorem pass0' {X : Cx} : Passes CX0 X E0 := fun _ _ _ _ _ _ _ h => h.elim
theorem call_fn' {k np : Nat} {A : Around} {f : Addr} {fd : FuncData} {ps : List Str} {x : Str} {F : Fn} {dd : List D} {dvs : List V} {us0 : List Value} (hF : FnOk P w K mg base CX0 k f fd ps (spF K cA np F)) (hr : Room k A) (hm : mg x = some (.ref f)) (hk : PySem.W.keepIn K (.ref f) = true)
    (hb : Binds K fd ps us0) (hd : Vals dvs us0) (hc : dd.map constV = dvs.map some) (hnp : ∀ ds st, ds.length ≠ np → F ds st = .bad) : CallOk cA P w K mg base A x (fun ds st => F (ds ++ dd) st) := by
  refine ⟨f, hm, hk, fun X e1 e2 e3 e4 e5 e6 pins s σ H Q us vs I r h => ?_⟩
  subst e1 e2 e3 e4 e5 e6
  obtain ⟨as, ow, st, ds, R, rv, q⟩ := h
  dsimp only at q
  have rv2 : RepVs X.K as ow H (vs ++ dvs) (ds ++ dd) := rv.append (const_rep hc)
  have hl : (ds ++ dd).length = np := Decidable.byContradiction fun z => by
    rw [hnp _ _ z] at q; exact q
  exact run_fn hF hr hb hd pass0' I r ⟨by rw [rv2.length]; exact hl, as, ow, st, ds ++ dd, R, rv2, q⟩
theorem meth_fn {k np : Nat} {A : Around} {f C' : Addr} {fd : FuncData} {ps : List Str} {m : Str} {F : Fn} (hF : FnOk P w K mg base CX0 k f fd ps (spF K cA np F)) (hr : Room k A) (hm : Meth K C' m f) (hn : ∀ fl : Fl, fl.s ≠ m)
    (hb : Binds K fd ps []) (hnp : ∀ ds st, ds.length ≠ np → F ds st = .bad) : MethOk cA P w K mg base A m C' F := by
  refine ⟨f, hm, hn, fun X e1 e2 e3 e4 e5 e6 pins s σ H Q us vs I r h => ?_⟩
  subst e1 e2 e3 e4 e5 e6
  obtain ⟨as, ow, st, ds, R, rv, q⟩ := h
  have hl : ds.length = np := Decidable.byContradiction fun z => by
    rw [hnp _ _ z] at q; exact q
  have := run_fn (dvs := []) (Q := Q) hF hr hb .nil pass0' I r (by rw [List.append_nil]; exact ⟨by rw [rv.length]; exact hl, as, ow, st, ds, R, rv, q⟩)
  exact this
/-- a new instance in the store -/
theorem Pst.made {as : List Addr} {ow : Addr → Prop} {H : Hp} {st : Sto} (R : Rel K cA as ow H st) {x dx C' : Addr} {cl : Cl} (hc : cA cl = some C') (hx : H x = none) (hdx : H dx = none) (ne : dx ≠ x) :
    Pst K cA as ow H (as ++ [x]) ow (upd (upd H dx (.own x)) x (.ins C' dx [])) (st ++ [.obj cl []]) := by
  obtain ⟨n1, n2⟩ := R.freshN hx
  have P1 := Pst.lay (o := .own x) R hdx
  have R1 := P1.rel
  have hx1 : upd H dx (.own x) x = none := by rw [upd_ne (Ne.symm ne)]; exact hx
  have c1 : Car as ow (upd H dx (.own x)) (as ++ [x]) ow (upd (upd H dx (.own x)) x (.ins C' dx [])) := by
    refine ⟨List.prefix_append _ _, fun q vs e => by rw [upd_ne (ne_of_none e hx1)]; exact e, fun q ob u e => by rw [upd_ne (ne_of_none e hx1)]; exact e, fun q ob e a b => ⟨by rw [upd_ne (ne_of_none e hx1)]; exact e, ?_, b⟩⟩
    intro z
    rcases List.mem_append.mp z with z | z
    · exact a z
    · simp at z; subst z; rw [hx1] at e; cases e
  refine ⟨List.prefix_append _ _, fun _ z => z, fun q ob e n => ⟨by rw [upd_ne (ne_of_none e hx), upd_ne (ne_of_none e hdx)]; exact e, ?_, fun z => z⟩, ⟨by simp [R.len], ?_, fun a ha z => ?_, fun a ha => ?_, fun a ha => ?_, fun n y a e1 e2 => ?_⟩⟩
  · intro z
    rcases List.mem_append.mp z with z | z
    · exact n z
    · simp at z; subst z; rw [hx] at e; cases e
  · rw [List.nodup_append]
    exact ⟨R.nd, by simp, fun a ha b hb z => by simp at hb; subst hb; subst z; exact n1 ha⟩
  · rcases List.mem_append.mp z with z | z
    · exact R.dis a ha z
    · simp at z; subst z; exact n2 ha
  · rcases List.mem_append.mp ha with z | z
    · obtain ⟨o, e, m⟩ := R1.mta a z
      exact ⟨o, by rw [upd_ne (ne_of_none e hx1)]; exact e, m⟩
    · simp at z; subst z; exact ⟨_, upd_same, rfl⟩
  · obtain ⟨o, e, m⟩ := R1.mto a ha
    exact ⟨o, by rw [upd_ne (ne_of_none e hx1)]; exact e, m⟩
  · by_cases hn : n < st.length
    · rw [List.getElem?_append_left hn] at e1
      rw [List.getElem?_append_left (by rw [R.len]; exact hn)] at e2
      have hne : a ≠ x := fun z => by
        have := List.mem_of_getElem? e2
        rw [z] at this; exact n1 this
      exact (R1.cell n y a e1 e2).car c1 (upd_ne hne)
    · rw [List.getElem?_append_right (by omega)] at e1
      rw [List.getElem?_append_right (by rw [R.len]; omega)] at e2
      have h0 : n - st.length = 0 := by
        have := (List.getElem?_eq_some_iff.mp e1).1
        simp at this; omega
      rw [h0] at e1
      rw [R.len, h0] at e2
      simp at e1 e2
      subst e1 e2
      exact ⟨C', dx, [], hc, upd_same, .nil⟩
theorem call_mk {k np : Nat} {A : Around} {f C' : Addr} {fd : FuncData} {ps : List Str} {x : Str} {F : Fn} {cl : Cl} (hF : FnOk P w K mg base CX0 k f fd ps (spF K cA np F)) (hr : Room (k + 1) A) (hm : mg x = some (.ref C')) (hcl : cA cl = some C') (M : Mk K C' f)
    (hb : Binds K fd ps []) (hnp : ∀ ds st, ds.length ≠ np → F ds st = .bad) :
    CallOk cA P w K mg base A x (fun ds st => (F (.ref st.length :: ds) (st ++ [.obj cl []])).bind fun r st2 => if isNon r then .ok (.ref st.length) st2 else .bad) := by
  refine ⟨C', hm, M.kp, fun X e1 e2 e3 e4 e5 e6 pins s σ H Q us vs I r h => ?_⟩
  subst e1 e2 e3 e4 e5 e6
  obtain ⟨as, ow, st, ds, R, rv, q⟩ := h
  dsimp only at q
  have hl : (D.ref st.length :: ds).length = np := Decidable.byContradiction fun z => by
    rw [hnp _ _ z] at q; exact q
  refine run_make (dvs := []) M hF hr hb .nil pass0' I r fun y dx hy hdx ne => ?_
  rw [List.append_nil]
  have PM := Pst.made (cl := cl) R hcl hy hdx ne
  have R2 := PM.rel
  have ea : (as ++ [y])[st.length]? = some y := by rw [← R.len]; simp
  have rv2 : RepVs X.K (as ++ [y]) ow (upd (upd H dx (.own y)) y (.ins C' dx [])) (V.ref y :: vs) (D.ref st.length :: ds) := .cons (.ref ea) (rv.car (PM.car R))
  refine ⟨by rw [rv2.length]; exact hl, as ++ [y], ow, st ++ [.obj cl []], _, R2, rv2, ?_⟩
  refine post_bind (P := fun r => PostE X.K cA as ow H r Q) id (fun _ _ => id) q trivial fun d st1 v as1 ow1 H1 p1 r1 _ h1 => ?_
  by_cases hd : isNon d = true
  · rw [if_pos hd] at h1
    cases d with
    | non =>
      cases r1
      refine ⟨rfl, ?_⟩
      exact Out.here (Out.pst (as2 := as) (ow2 := ow) (H2 := H) (PM.trans p1) (show Out X.K cA as ow H st1 (.ref st.length) Q from h1)) p1.rel (.ref (prefix_get p1.pre ea)) rfl
    | _ => cases hd
  · rw [if_neg hd] at h1; exact h1.elim
end
end CM
end
section
set_option linter.all false
set_option maxRecDepth 100000
set_option maxHeartbeats 4000000
/-! Programs. -/
namespace CM
open PySem PySem.Spec PyProof.Rows L2
/-- a def's text -/
structure Txt where
  at_ : Str × Option Str
  qual : Str
  st : Stmt
  N : List Str
  fsN : List Str := []
  msN : List Str := []
  dfl : List He.Dv := []
def Txt.name (t : Txt) : Str := match t.at_.2 with
  | some m => m
  | none => t.at_.1
def Txt.ps (t : Txt) : List Str := (defArgs t.st).args.map fun a => a.arg
def Txt.dd (t : Txt) : He.DefD := ⟨t.at_, t.name, t.qual, defArgs t.st, defBody t.st, defScope t.st, t.dfl, []⟩
abbrev Txt.FD (K : PySem.W.Frag) (t : Txt) (fd : FuncData) : Prop := FunD K t.name t.qual (defArgs t.st) (defBody t.st) (defScope t.st) (t.dfl.map (He.Dv.v K)) [] (He.fAd K t.at_) fd
structure PG where
  ds : List Def
  ts : List Txt
  gs : List (Str × List Char) := []
  gi : List (Str × Int) := []
  ty : List Ty := []
  cls : List Cl := []
def clN (c : Cl) : Str := Ty.nm (.cl c)
def PG.cA (pg : PG) (K : PySem.W.Frag) : ClA := fun c => if pg.cls.contains c then some (He.ga K (clN c)) else none
def Txt.cs (t : Txt) (pg : PG) : Cs := { N := t.N, sc := defScope t.st, fs := t.fsN, ms := t.msN, gs := pg.gs, gi := pg.gi, ts := pg.ty }
def BindOk (t : Txt) (dd : List D) : Prop := ∀ K fd, t.FD K fd → ∃ dvs us0, Vals dvs us0 ∧ Binds K fd t.ps us0 ∧ dd.map constV = dvs.map some
structure TxtOk (pg : PG) (t : Txt) (d : Def) : Prop where
  S : FnScope t.N t.ps (defScope t.st)
  np : t.ps.length = d.np
  n : t.N.length = d.n
  chk : chkSs (t.cs pg) d.body (defBody t.st) = true
/-- every def's text is right -/
def TxtsOk (pg : PG) : List Txt → List Def → Prop
  | [], [] => True
  | t :: ts, d :: ds => (TxtOk pg t d ∧ BindOk t []) ∧ TxtsOk pg ts ds
  | _, _ => False
theorem TxtsOk.get {pg : PG} : ∀ {ts : List Txt} {ds : List Def} {q : Nat} {t : Txt} {d : Def}, TxtsOk pg ts ds → ts[q]? = some t → ds[q]? = some d → TxtOk pg t d ∧ BindOk t []
  | [], _, q, t, d, _, e, _ => by simp at e
  | _ :: _, [], q, t, d, h, _, e => by simp at e
  | t :: ts, d :: ds, 0, t', d', h, e1, e2 => by simp at e1 e2; subst e1 e2; exact h.1
  | t :: ts, d :: ds, q + 1, t', d', h, e1, e2 => TxtsOk.get h.2 (by simpa using e1) (by simpa using e2)
theorem TxtsOk.has {pg : PG} : ∀ {ts : List Txt} {ds : List Def} {q : Nat} {t : Txt}, TxtsOk pg ts ds → ts[q]? = some t → ∃ d, ds[q]? = some d
  | [], _, q, t, _, e => by simp at e
  | _ :: _, [], q, t, h, _ => h.elim
  | t :: ts, d :: ds, 0, t', h, e1 => ⟨d, by simp⟩
  | t :: ts, d :: ds, q + 1, t', h, e1 => by
    obtain ⟨d', e⟩ := TxtsOk.has (q := q) h.2 (by simpa using e1)
    exact ⟨d', by simpa using e⟩
/-- calls with defaults bind -/
def DdOk (pg : PG) : Callee → Prop
  | .fn q dd => dd = [] ∨ ∀ t, pg.ts[q]? = some t → BindOk t dd
  | _ => True
def AllP {α : Type} (p : α → Prop) : List α → Prop
  | [] => True
  | a :: r => p a ∧ AllP p r
theorem AllP.get {α : Type} {p : α → Prop} : ∀ {l : List α} {i : Nat} {a : α}, AllP p l → l[i]? = some a → p a
  | [], i, a, _, e => by simp at e
  | b :: r, 0, a, h, e => by simp at e; subst e; exact h.1
  | b :: r, i + 1, a, h, e => AllP.get h.2 (by simpa using e)
def all2 {α β : Type} (f : α → β → Bool) : List α → List β → Bool
  | [], [] => true
  | a :: r, b :: s => f a b && all2 f r s
  | _, _ => false
theorem all2_get {α β : Type} {f : α → β → Bool} : ∀ {as : List α} {bs : List β} {i : Nat} {a : α}, all2 f as bs = true → as[i]? = some a → ∃ b, bs[i]? = some b ∧ f a b = true
  | [], _, i, a, _, e => by simp at e
  | a :: r, [], i, x, h, _ => by simp [all2] at h
  | a :: r, b :: s, 0, x, h, e => by
    simp only [all2, Bool.and_eq_true] at h
    simp at e; subst e; exact ⟨b, by simp, h.1⟩
  | a :: r, b :: s, i + 1, x, h, e => by
    simp only [all2, Bool.and_eq_true] at h
    obtain ⟨y, e1, e2⟩ := all2_get (i := i) h.2 (by simpa using e)
    exact ⟨y, by simpa using e1, e2⟩
/-! ### facts of the heap -/
def flAll : List Fl := [.tree, .line, .place, .old, .new, .words, .node, .why, .name, .book]
theorem fl_all (f : Fl) : f ∈ flAll := by cases f <;> decide
def calleeB (pg : PG) (K : PySem.W.Frag) (x : Str) : Callee → Bool
  | .fn q _ => (match pg.ts[q]? with
    | some t => decide (t.at_ = (x, none)) && (He.Fa.glo x).ok K
    | none => false)
  | .mk c q => (match pg.ts[q]? with
    | some t => decide (x = clN c) && (pg.cls.contains c && ((He.Fa.glo x).ok K && ((He.Fa.mkr x).ok K && decide (He.ma K (He.ga K x) "__init__" = He.fAd K t.at_))))
    | none => false)
  | .kw _ _ => false
def methB (pg : PG) (K : PySem.W.Frag) (m : Str) (p : Cl × Nat) : Bool := match pg.ts[p.2]? with
  | some t => decide (He.ma K (He.ga K (clN p.1)) m = He.fAd K t.at_) && (He.Fa.meth (clN p.1) m).ok K
  | none => false
def kinds (pg : PG) : List Kd := [.non, .bl, .int, .str, .tup, .lst, .dct] ++ pg.cls.map .cl
def insB (K : PySem.W.Frag) (x : Str) : Bool := (He.Fa.cls x).ok K && (flAll.all (fun f => (He.Fa.noat x f.s).ok K) && (He.eqO (PySem.W.findIn K (.ref (He.ga K x)) "__class__") (some (some (.builtin "object.__class__"))) && decide (PySem.W.mroIn K (He.ga K x) (.type "object") = some true)))
def tyB (pg : PG) (K : PySem.W.Frag) (t : Ty) : Bool := (match t with
  | .cl c => pg.cls.contains c && (He.Fa.glo (clN c)).ok K
  | _ => true) && (kinds pg).all fun k => (match t.val (pg.cA K), k.val (pg.cA K) with
  | some u, some v => decide (PySem.W.kitOne K v u = some (k.isT t))
  | _, _ => true)
def clsB (K : PySem.W.Frag) : Bool := He.eqO (PySem.W.specialIn K (.builtin "object.__class__") "__get__") (some (some (.builtin "getset_descriptor.__get__"))) && decide (PySem.W.takesIn K (.builtin "object.__class__") = some true)
def defB (pg : PG) (K : PySem.W.Frag) (t : Txt) (d : Def) : Bool := all2 (calleeB pg K) t.fsN d.fs && all2 (fun m l => flAll.all (fun f => decide (f.s ≠ m)) && l.all (methB pg K m)) t.msN d.ms
def pOk (pg : PG) (K : PySem.W.Frag) : Bool := bltNames.all (fun x => (He.Fa.free x).ok K) && (pg.gs.all (fun p => (He.Fa.str p.1 (toStr p.2)).ok K) && (pg.gi.all (fun p => (He.Fa.int p.1 p.2).ok K) && (pg.cls.all (fun c => insB K (clN c)) && ((pg.cls.isEmpty || clsB K) && (pg.ty.all (tyB pg K) && all2 (defB pg K) pg.ts pg.ds)))))
theorem cA_ok {pg : PG} {K : PySem.W.Frag} {c : Cl} {C : Addr} (h : pg.cA K c = some C) : c ∈ pg.cls ∧ C = He.ga K (clN c) := by
  unfold PG.cA at h
  split at h
  · rename_i e
    exact ⟨by simpa using e, (Option.some.inj h).symm⟩
  · cases h
theorem cA_in {pg : PG} {K : PySem.W.Frag} {c : Cl} (h : pg.cls.contains c = true) : pg.cA K c = some (He.ga K (clN c)) := if_pos h
section
theorem prog_sound {P : Program} {w : World} {K : PySem.W.Frag} {mg : Str → Option Value} {base : Heap} {pg : PG} (X0 : K.In base) (G0 : base.Ns mainGlobals mg) (hp : pOk pg K = true) (hT : TxtsOk pg pg.ts pg.ds) (hB : AllP (fun d => AllP (DdOk pg) d.fs) pg.ds) (hD : ∀ (q : Nat) (t : Txt), pg.ts[q]? = some t → ∃ fd, t.FD K fd) :
    ∀ (n q : Nat) (t : Txt) (d : Def) (fd : FuncData), pg.ts[q]? = some t → pg.ds[q]? = some d → t.FD K fd → FnOk P w K mg base CX0 (4 * n + 1) (He.fAd K t.at_) fd t.ps (spF K (pg.cA K) d.np (runP pg.ds n q))
  | 0, q, t, d, fd, ht, hd, F => fn_never
  | n + 1, q, t, d, fd, ht, hd, F => by
    have IH := prog_sound (P := P) (w := w) X0 G0 hp hT hB hD n
    obtain ⟨T, B0⟩ := hT.get ht hd
    simp only [pOk, Bool.and_eq_true] at hp
    obtain ⟨p1, p2, p3, p4, p5, p6, p7⟩ := hp
    have hnp : ∀ (q' : Nat) (d' : Def), pg.ds[q']? = some d' → ∀ ds st, ds.length ≠ d'.np → runP pg.ds n q' ds st = .bad := fun q' d' e ds st z => by
      cases n with
      | zero => rfl
      | succ n => show (match pg.ds[q']? with | some d => runFn (callsOf (runP pg.ds n) d) d.np d.n d.body | none => fun _ _ => R.bad) ds st = .bad; rw [e]; exact if_neg z
    have er : runP pg.ds (n + 1) q = runFn (callsOf (runP pg.ds n) d) d.np t.N.length d.body := by
      show (match pg.ds[q]? with | some d => runFn (callsOf (runP pg.ds n) d) d.np d.n d.body | none => fun _ _ => R.bad) = _
      rw [hd, T.n]
    rw [er]
    obtain ⟨d2, hd2, p8⟩ := all2_get p7 ht
    rw [hd] at hd2; cases hd2
    simp only [defB, Bool.and_eq_true] at p8
    obtain ⟨p8, p9⟩ := p8
    have hBd := hB.get hd
    refine fn_sound (k := 4 * n + 4) (c := t.cs pg) F T.S rfl rfl T.np T.chk fun X e1 e2 e3 e4 e5 e6 e7 e8 e9 hr => ?_
    subst e1 e2 e3 e4 e5
    have hr0 : Room (4 * n + 1) X.A := hr.mono (by omega)
    have CO : ∀ (A : Around), Room (4 * n + 2) A → ∀ (k : Nat) (x : Str), t.fsN[k]? = some x → CallOk (pg.cA X.K) X.prog X.w X.K X.mg X.base A x ((callsOf (runP pg.ds n) d).f k) := fun A hrA k x h => by
      have hrA0 : Room (4 * n + 1) A := hrA.mono (by omega)
      obtain ⟨ce, hce, b⟩ := all2_get p8 h
      have hdd := hBd.get hce
      show CallOk _ _ _ _ _ _ _ x (callF (runP pg.ds n) d.fs[k]?)
      rw [hce]
      cases ce with
      | kw _ _ => cases b
      | fn q' dd =>
        dsimp only [calleeB] at b
        cases ht' : pg.ts[q']? with
        | none => rw [ht'] at b; cases b
        | some t' =>
          rw [ht'] at b
          simp only [Bool.and_eq_true, decide_eq_true_eq] at b
          obtain ⟨fd', F'⟩ := hD q' t' ht'
          obtain ⟨d', hd'⟩ := hT.has ht'
          obtain ⟨T', B'⟩ := hT.get ht' hd'
          have IH' := IH q' t' d' fd' ht' hd' F'
          have ha : He.fAd X.K t'.at_ = He.ga X.K x := by rw [b.1]; rfl
          have Bd : BindOk t' dd := by
            rcases hdd with e | e
            · rw [e]; exact B'
            · exact e t' ht'
          obtain ⟨dvs, us0, v1, v2, v3⟩ := Bd _ _ F'
          have kp := F'.kp
          exact call_fn' IH' hrA0 (by rw [He.glo_ok X0 G0 b.2, ha]) kp v2 v1 v3 (hnp q' d' hd')
      | mk c q' =>
        dsimp only [calleeB] at b
        cases ht' : pg.ts[q']? with
        | none => rw [ht'] at b; cases b
        | some t' =>
          rw [ht'] at b
          simp only [Bool.and_eq_true, decide_eq_true_eq] at b
          obtain ⟨b1, b2, b3, b4, b5⟩ := b
          obtain ⟨fd', F'⟩ := hD q' t' ht'
          obtain ⟨d', hd'⟩ := hT.has ht'
          obtain ⟨T', B'⟩ := hT.get ht' hd'
          have IH' := IH q' t' d' fd' ht' hd' F'
          obtain ⟨dvs, us0, v1, v2, v3⟩ := B' _ _ F'
          have e0 : dvs = [] := by cases dvs with
            | nil => rfl
            | cons _ _ => cases v3
          subst e0
          cases v1
          have M := He.mkr_ok b4
          rw [b5] at M
          subst b1
          exact call_mk IH' hrA (He.glo_ok X0 G0 b3) (cA_in b2) M v2 (hnp q' d' hd')
    refine ⟨e6, T.S.nd, e7, e8, fun x _ => e9 x, by have := hr.un; omega, fun x hx => He.free_ok X0 G0 (List.all_eq_true.mp p1 x hx), fun x s h => He.str_ok X0 G0 (List.all_eq_true.mp p2 _ h), fun x i h => He.int_ok X0 G0 (List.all_eq_true.mp p3 _ h), fun k x h => CO X.A (hr.mono (by omega)) k x h, fun k m h cl C' F' hcl hF => ?_, fun c C' hcl => ?_, fun ty hty => ?_, fun ty hty k u v hu hv => ?_, fun k x h => CO X.A.in1.in1 ((hr.mono (show 4 * n + 2 + 1 + 1 ≤ 4 * n + 4 by omega)).in1.in1) k x h⟩
    · obtain ⟨l, hl, b⟩ := all2_get p9 (show t.msN[k]? = some m from h)
      simp only [Bool.and_eq_true] at b
      obtain ⟨b0, b⟩ := b
      have hF : (d.ms[k]?.bind fun l => l.lookup cl).map (runP pg.ds n) = some F' := hF
      rw [hl] at hF
      cases hq : l.lookup cl with
      | none =>
        have hF : (l.lookup cl).map (runP pg.ds n) = some F' := hF
        rw [hq] at hF; cases hF
      | some q' =>
        have hF : (l.lookup cl).map (runP pg.ds n) = some F' := hF
        rw [hq] at hF
        have hF : runP pg.ds n q' = F' := Option.some.inj hF
        subst hF
        have hm : (cl, q') ∈ l := by
          have : ∀ l : List (Cl × Nat), l.lookup cl = some q' → (cl, q') ∈ l := by
            intro l
            induction l with
            | nil => intro h; cases h
            | cons a r ih =>
              intro h
              rw [List.lookup_cons] at h
              split at h
              · rename_i e; cases h; rw [beq_iff_eq.mp e]; exact List.mem_cons_self
              · exact List.mem_cons_of_mem _ (ih h)
          exact this l hq
        have b1 := List.all_eq_true.mp b _ hm
        dsimp only [methB] at b1
        cases ht' : pg.ts[q']? with
        | none => rw [ht'] at b1; cases b1
        | some t' =>
          rw [ht'] at b1
          simp only [Bool.and_eq_true, decide_eq_true_eq] at b1
          obtain ⟨fd', F'⟩ := hD q' t' ht'
          obtain ⟨d', hd'⟩ := hT.has ht'
          obtain ⟨T', B'⟩ := hT.get ht' hd'
          have IH' := IH q' t' d' fd' ht' hd' F'
          obtain ⟨dvs, us0, v1, v2, v3⟩ := B' _ _ F'
          have e0 : dvs = [] := by cases dvs with
            | nil => rfl
            | cons _ _ => cases v3
          subst e0
          cases v1
          have M := He.meth_ok b1.2
          rw [b1.1] at M
          obtain ⟨_, rfl⟩ := cA_ok hcl
          exact meth_fn IH' hr0 M (fun fl => of_decide_eq_true (List.all_eq_true.mp b0 fl (fl_all fl))) v2 (hnp q' d' hd')
    · obtain ⟨hc, rfl⟩ := cA_ok hcl
      have b := List.all_eq_true.mp p4 c hc
      simp only [insB, Bool.and_eq_true, decide_eq_true_eq] at b
      have p5' : clsB X.K = true := by
        cases hh : pg.cls with
        | nil => rw [hh] at hc; cases hc
        | cons _ _ => rw [hh] at p5; simpa using p5
      simp only [clsB, Bool.and_eq_true, decide_eq_true_eq] at p5'
      exact ⟨He.cls_ok b.1, fun f => He.noat_ok (List.all_eq_true.mp b.2.1 f (fl_all f)), He.eqO_ok b.2.2.1, He.eqO_ok p5'.1, p5'.2, b.2.2.2⟩
    · have b := List.all_eq_true.mp p6 ty hty
      simp only [tyB, Bool.and_eq_true] at b
      cases ty with
      | cl c =>
        have b1 := b.1
        simp only [Bool.and_eq_true] at b1
        refine ⟨.ref (He.ga X.K (clN c)), by show (pg.cA X.K c).map Value.ref = _; rw [cA_in b1.1]; rfl, fun cl e => ?_⟩
        exact ⟨_, rfl, He.glo_ok X0 G0 b1.2⟩
      | _ => exact ⟨_, rfl, fun cl e => by cases e⟩
    · have b := List.all_eq_true.mp p6 ty hty
      simp only [tyB, Bool.and_eq_true] at b
      have hk : k ∈ kinds pg := by
        unfold kinds
        cases k with
        | cl c =>
          refine List.mem_append_right _ (List.mem_map_of_mem ?_)
          have hv : (pg.cA X.K c).map Value.ref = some v := hv
          cases hc : pg.cA X.K c with
          | none => rw [hc] at hv; cases hv
          | some _ => exact (cA_ok hc).1
        | _ => exact List.mem_append_left _ (by simp)
      have b2 := List.all_eq_true.mp b.2 k hk
      rw [show ty.val (pg.cA X.K) = some u from hu, show k.val (pg.cA X.K) = some v from hv] at b2
      exact of_decide_eq_true b2
end
/-! ### the head's Hook -/
def txD (pg : PG) : List He.DefD := pg.ts.map Txt.dd
abbrev AlP : Type := Bool × He.AlD
def obsP (pg : PG) (K : PySem.W.Frag) : AlP := (pOk pg K && (He.Fa.glo "law").ok K, He.obsD [] (txD pg) K)
def valP (pg : PG) : AlP := (true, He.valD (txD pg))
def SaysP (pg : PG) (K : PySem.W.Frag) : Prop := obsP pg K = valP pg
def obsPG (n : Nat) (pg : PG) (g : Addr → Option Obj) : AlP := obsP pg (He.frG g (He.asD g n))
def hookP (n : Nat) (pg : PG) : PySem.W.Hook where
  α := AlP
  obs := fun s => obsPG n pg s.heap.get?
  val := fun _ => valP pg
  says := fun _ h => ∃ K : PySem.W.Frag, K.In h ∧ SaysP pg K
  of := fun _ _ e => ⟨_, He.frG_in, e⟩
  keeps := fun _ _ _ ⟨K, hK, c⟩ k => ⟨K, PySem.W.Frag.In.keeps hK k, c⟩
theorem obsPG_eq {n : Nat} {pg : PG} {g : Addr → Option Obj} {s : Shared} (h : ∀ a, g a = s.heap.get? a) : obsPG n pg g = (hookP n pg).obs s := by
  have e : g = s.heap.get? := funext h
  rw [e] <;> rfl
theorem SaysP.both {pg : PG} {K : PySem.W.Frag} (c : SaysP pg K) : (pOk pg K && (He.Fa.glo "law").ok K) = true := congrArg (fun z : AlP => z.1) c
theorem SaysP.ok {pg : PG} {K : PySem.W.Frag} (c : SaysP pg K) : pOk pg K = true := (Bool.and_eq_true_iff.mp c.both).1
theorem SaysP.law {pg : PG} {K : PySem.W.Frag} (c : SaysP pg K) : (He.Fa.glo "law").ok K = true := (Bool.and_eq_true_iff.mp c.both).2
theorem SaysP.d {pg : PG} {K : PySem.W.Frag} (c : SaysP pg K) : He.SaysD [] (txD pg) K := congrArg (fun z : AlP => z.2) c
theorem SaysP.def_ {pg : PG} {K : PySem.W.Frag} (c : SaysP pg K) {q : Nat} {t : Txt} (h : pg.ts[q]? = some t) : ∃ fd, t.FD K fd := by
  have := c.d.def_ q (d := t.dd) (by show (pg.ts.map Txt.dd)[q]? = _; rw [List.getElem?_map, h]; rfl)
  exact this
/-- the law's end: what its last def answers -/
theorem walk_ofEB {l : PySem.W.OpenLaw} {n k : Nat} {q : Program} {loose : List Str} {XP : (Str → Option Value) → Heap → Prop} {YP : World → Heap → Prop} {d : DefRec} {CX : CXT} {x : Str}
    (hn : l.most = some n) (hn2 : n ≤ sizeLine) (hdf : d.params.defaults = []) (hr : Room k callerA)
    (F : ∀ (w : World) (mg : Str → Option Value) (fa : Addr) (h : Heap), YP w h → h.Ns mainGlobals mg → mg d.name = some (.ref fa) →
      ∃ (K : PySem.W.Frag) (fd : FuncData) (sp : Sp), K.In h ∧ (∀ (s : Shared) (u : Value), BindsTo s fd ⟨[u], []⟩ [(x, u)]) ∧
        (∀ (H : Hp) (a : Addr) (ns : List Int), ns.length ≤ n → (∀ z ∈ ns, Builtin.Int.intBits z ≤ 1048576) → Only H → SqL K H a (ns.map V.int) → sp [.ref a] H (fun v _ => v = .bl true) fun _ _ _ => False) ∧
        ∀ base : Heap, K.In base → base.Ns mainGlobals mg → FnOk l.prog w K mg base CX k fa fd [x] sp)
    (hCX : ∀ (H : Hp) (s : Shared) (e : Value) (s' : Shared), CX [] H s (fun _ _ _ => False) e s' → False) :
    PySem.W.WalkO q loose XP YP l.row.toRowW d [] (fun f vs => PySem.call f vs) := by
  refine Att.attach_callB hn hdf fun w s₀ s₁ mg mb fa o pm cd doc a vs ns G Y ho hd hcd hmg hobj hints hlen hbits hg => ?_
  obtain ⟨K, fd, sp, KX, hb, hsp, hF⟩ := F w mg fa _ Y G.T.g hmg
  exact law_call KX G.T.g G.T.b G.T.builtins G.T.nolimit hg hobj hints (Nat.le_trans hlen hn2) hr hF hb (fun H hO hS => hsp H a ns hlen hbits hO hS) fun H e s' => hCX H s₁ e s'
theorem rep_ints {K : PySem.W.Frag} {as : List Addr} {ow : Addr → Prop} {H : Hp} : ∀ ns : List Int, RepVs K as ow H (ns.map V.int) (ns.map D.int)
  | [] => .nil
  | n :: r => .cons (.int n) (rep_ints r)
theorem sc_of {K : PySem.W.Frag} {H : Hp} {a : Addr} {xs : List V} (hO : Only H) (h : SqL K H a xs) : ScL K H a xs := by
  rcases h with (h | h) | h
  · rcases hO a with e | ⟨o, ys, e⟩
    · rw [e] at h; cases h
    · rw [e] at h; cases h
  · exact .inl h
  · exact .inr h
/-- what must be shown of the last def -/
def LawOk (pg : PG) (n q : Nat) : Prop := ∀ ns : List Int, ns.length ≤ 63 → (∀ z ∈ ns, Builtin.Int.intBits z ≤ 1048576) → match runP pg.ds n q [.sc (ns.map .int)] [] with
  | .ok (.bl true) _ => True
  | .top => True
  | _ => False
theorem law_sp {pg : PG} {n q : Nat} (L : LawOk pg n q) {K : PySem.W.Frag} {H : Hp} {a : Addr} {ns : List Int} (hl : ns.length ≤ 63) (hb : ∀ z ∈ ns, Builtin.Int.intBits z ≤ 1048576) (hO : Only H) (hS : SqL K H a (ns.map V.int)) :
    spF K (pg.cA K) 1 (runP pg.ds n q) [.ref a] H (fun v _ => v = .bl true) fun _ _ _ => False := by
  refine ⟨rfl, [], fun _ => False, [], [.sc (ns.map .int)], ⟨rfl, .nil, fun _ h => h.elim, fun _ h => (nomatch h), fun _ h => h.elim, fun n c a e => by simp at e⟩, .cons (.sc (sc_of hO hS) (rep_ints ns)) .nil, ?_⟩
  have h := L ns hl hb
  cases e : runP pg.ds n q [.sc (ns.map .int)] [] with
  | ok d st =>
    rw [e] at h
    cases d with
    | bl b =>
      cases b with
      | true => exact fun v as1 ow1 H1 p r f => by cases r; rfl
      | false => exact h.elim
    | _ => exact h.elim
  | top => trivial
  | bad => rw [e] at h; exact h.elim
  | err _ _ => rw [e] at h; exact h.elim
theorem law_facts {P : Program} {w : World} {K : PySem.W.Frag} {h : Heap} {mg : Str → Option Value} {f : Addr} {pg : PG} {n q : Nat} {t : Txt} {d : Def} {x : Str} (X : K.In h) (G : h.Ns mainGlobals mg) (hfa : mg "law" = some (.ref f)) (c : SaysP pg K)
    (hT : TxtsOk pg pg.ts pg.ds) (hB : AllP (fun d => AllP (DdOk pg) d.fs) pg.ds) (ht : pg.ts[q]? = some t) (hd : pg.ds[q]? = some d) (ha : t.at_ = (("law" : Str), (none : Option Str))) (hdf : t.dfl = []) (hps : t.ps = [x])
    (hb : ∀ K fd, FunD K t.name t.qual (defArgs t.st) (defBody t.st) (defScope t.st) [] [] (He.fAd K t.at_) fd → ∀ (s : Shared) (us : List Value), us.length = t.ps.length → BindsTo s fd ⟨us, []⟩ (t.ps.zip us)) :
    ∃ fd : FuncData, (∀ (s : Shared) (v : Value), BindsTo s fd ⟨[v], []⟩ [(x, v)]) ∧ ∀ base : Heap, K.In base → base.Ns mainGlobals mg → FnOk P w K mg base CX0 (4 * n + 1) f fd [x] (spF K (pg.cA K) d.np (runP pg.ds n q)) := by
  obtain ⟨fd, F⟩ := c.def_ ht
  have e := hfa.symm.trans (He.glo_ok X G c.law)
  have e2 : f = He.fAd K t.at_ := by rw [ha]; cases e; rfl
  subst e2
  refine ⟨fd, fun s v => ?_, fun base X0 G0 => ?_⟩
  · have F' := F
    unfold Txt.FD at F'
    rw [hdf] at F'
    have := hb K fd F' s [v] (by rw [hps]; rfl)
    rw [hps] at this; exact this
  · have := prog_sound (P := P) (w := w) X0 G0 c.ok hT hB (fun q t h => c.def_ h) n q t d fd ht hd F
    rw [hps] at this
    exact this
end CM
end
section
set_option linter.all false
set_option maxRecDepth 100000
/-! Reasoning about runs. -/
namespace CM
/-- r ends so (or can't be met) -/
def wpT {α : Type} (r : R α) (Q : α → Sto → Prop) : Prop := match r with
  | .ok a st => Q a st
  | _ => False
/-- .. closed, so that nothing looks in by itself -/
structure wp {α : Type} (r : R α) (Q : α → Sto → Prop) : Prop where
  of ::
  run : wpT r Q
@[simp] theorem wp_ok {α : Type} {a : α} {st : Sto} {Q : α → Sto → Prop} : wp (.ok a st) Q = Q a st := propext ⟨fun h => h.run, fun h => .of h⟩
@[simp] theorem wp_top {α : Type} {Q : α → Sto → Prop} : wp (.top : R α) Q = False := propext ⟨fun h => h.run, fun h => h.elim⟩
@[simp] theorem wp_bad {α : Type} {Q : α → Sto → Prop} : wp (.bad : R α) Q = False := propext ⟨fun h => h.run, fun h => h.elim⟩
@[simp] theorem wp_err {α : Type} {x : Nat} {st : Sto} {Q : α → Sto → Prop} : wp (.err x st : R α) Q = False := propext ⟨fun h => h.run, fun h => h.elim⟩
@[simp] theorem bind_ok {α β : Type} {a : α} {st : Sto} {f : α → Sto → R β} : (R.ok a st).bind f = f a st := Eq.trans rfl rfl
theorem wp_bind {α β : Type} {r : R α} {f : α → Sto → R β} {Q : β → Sto → Prop} : wp (r.bind f) Q = wp r fun a st => wp (f a st) Q := by
  cases r with
  | ok a st => rw [bind_ok, wp_ok]
  | err x st => show wp (.err x st) Q = _; rw [wp_err, wp_err]
  | bad => show wp .bad Q = _; rw [wp_bad, wp_bad]
  | top => show wp .top Q = _; rw [wp_top, wp_top]
theorem wp_mono {α : Type} {r : R α} {P Q : α → Sto → Prop} (h : wp r P) (i : ∀ a st, P a st → Q a st) : wp r Q := by
  cases r with
  | ok a st => exact .of (i a st h.run)
  | _ => exact .of h.run
theorem wp_of {α : Type} {r : R α} {a : α} {st : Sto} {Q : α → Sto → Prop} (e : r = .ok a st) (h : Q a st) : wp r Q := by rw [e]; exact .of h
@[simp] theorem ofO_some {α : Type} {st : Sto} {a : α} : ofO st (some a) = .ok a st := Eq.trans rfl rfl
/-- a for loop by an invariant -/
theorem for_inv {tg : Tg} {body : Slots → Sto → R Fw} {ok : Sto → Bool} {Q : Fw → Sto → Prop} (I : Nat → Slots → Sto → Prop) : ∀ (items : List D) (k : Nat) (ρ : Slots) (st : Sto), I k ρ st →
    (∀ i x ρ st, items[i]? = some x → I (k + i) ρ st → ∃ ρ1, asgT tg x ρ = some ρ1 ∧ wp (body ρ1 st) fun fw st1 => match fw with
      | .next ρ2 => ok st1 = true ∧ I (k + i + 1) ρ2 st1
      | .cont ρ2 => ok st1 = true ∧ I (k + i + 1) ρ2 st1
      | .brk ρ2 => Q (.next ρ2) st1
      | .ret d => Q (.ret d) st1) → (∀ ρ st, I (k + items.length) ρ st → Q (.next ρ) st) → wp (forGo tg body ok items ρ st) Q
  | [], k, ρ, st, h, _, e => .of (e ρ st (by simpa using h))
  | x :: r, k, ρ, st, h, s, e => by
    obtain ⟨ρ1, h1, h2⟩ := s 0 x ρ st (by simp) (by simpa using h)
    unfold forGo
    rw [h1]
    dsimp only
    rw [wp_bind]
    refine wp_mono h2 fun fw st1 h3 => ?_
    have go : ∀ ρ2, ok st1 = true ∧ I (k + 1) ρ2 st1 → wp (forGo tg body ok r ρ2 st1) Q := fun ρ2 h => for_inv I r (k + 1) ρ2 st1 h.2 (fun i x ρ st hi hI => by
      have := s (i + 1) x ρ st (by simpa using hi) (by rw [show k + (i + 1) = k + 1 + i by omega]; exact hI)
      rw [show k + (i + 1) + 1 = k + 1 + i + 1 by omega] at this; exact this) fun ρ st hI => e ρ st (by rw [show k + (x :: r).length = k + 1 + r.length by simp; omega]; exact hI)
    cases fw with
    | next ρ2 => have h3 : ok st1 = true ∧ I (k + 1) ρ2 st1 := h3; dsimp only; rw [if_pos h3.1]; exact go ρ2 h3
    | cont ρ2 => have h3 : ok st1 = true ∧ I (k + 1) ρ2 st1 := h3; dsimp only; rw [if_pos h3.1]; exact go ρ2 h3
    | brk ρ2 => exact .of h3
    | ret d => exact .of h3
/-- a while loop by an invariant and a measure -/
theorem while_inv {c : Slots → Sto → R D} {body : Slots → Sto → R Fw} {Q : Fw → Sto → Prop} (I : Nat → Slots → Sto → Prop) : ∀ (n m : Nat) (ρ : Slots) (st : Sto), m < n → I m ρ st →
    (∀ m ρ st, I m ρ st → wp (c ρ st) fun d st1 => match d with
      | .bl true => wp (body ρ st1) fun fw st2 => match fw with
        | .next ρ2 => ∃ m', m' < m ∧ I m' ρ2 st2
        | .cont ρ2 => ∃ m', m' < m ∧ I m' ρ2 st2
        | .brk ρ2 => Q (.next ρ2) st2
        | .ret d => Q (.ret d) st2
      | .bl false => Q (.next ρ) st1
      | _ => False) → wp (whileGo c body n ρ st) Q
  | 0, m, ρ, st, hm, _, _ => absurd hm (Nat.not_lt_zero m)
  | n + 1, m, ρ, st, hm, h, s => by
    unfold whileGo
    rw [wp_bind]
    refine wp_mono (s m ρ st h) fun d st1 h1 => ?_
    cases d with
    | bl b =>
      cases b with
      | true =>
        dsimp only at h1 ⊢
        rw [wp_bind]
        refine wp_mono h1 fun fw st2 h2 => ?_
        cases fw with
        | next ρ2 => obtain ⟨m', l, h3⟩ := h2; exact while_inv I n m' ρ2 st2 (by omega) h3 s
        | cont ρ2 => obtain ⟨m', l, h3⟩ := h2; exact while_inv I n m' ρ2 st2 (by omega) h3 s
        | brk ρ2 => exact .of h2
        | ret d => exact .of h2
      | false => exact .of h1
    | _ => exact h1.elim
theorem runP_eq {ds : List Def} {n q : Nat} {d : Def} (h : ds[q]? = some d) : runP ds (n + 1) q = runFn (callsOf (runP ds n) d) d.np d.n d.body := by
  show (match ds[q]? with | some d => runFn (callsOf (runP ds n) d) d.np d.n d.body | none => fun _ _ => R.bad) = _
  rw [h]
/-- a def's run by its body's -/
theorem runFn_wp {C : Calls} {np n : Nat} {body : List S} {args : List D} {st : Sto} {Q : D → Sto → Prop} (hl : args.length = np) (h : wp (evSs C body (args.map some ++ List.replicate (n - args.length) none) st) fun fw st => match fw with
    | .ret d => Q d st
    | .next _ => Q .non st
    | _ => False) : wp (runFn C np n body args st) Q := by
  unfold runFn
  rw [if_pos hl]
  generalize evSs C body (args.map some ++ List.replicate (n - args.length) none) st = r at h ⊢
  replace h := h.run
  cases r with
  | ok fw st => cases fw <;> first | exact .of h | exact h.elim
  | _ => exact h.elim
theorem eq_of_wp {α : Type} {r : R α} {a : α} {st : Sto} (h : wp r fun b st' => b = a ∧ st' = st) : r = .ok a st := by
  replace h := h.run
  cases r with
  | ok b st' => obtain ⟨rfl, rfl⟩ := h; rfl
  | _ => exact h.elim

/-! ### forms for simp -/
def ifD {α : Type} (d : D) (x y : R α) : R α := match d with
  | .bl true => x
  | .bl false => y
  | _ => .bad
@[simp] theorem ifD_bl {α : Type} {b : Bool} {x y : R α} : ifD (.bl b) x y = if b = true then x else y := by cases b <;> rfl
def nextK (k : Slots → Sto → R Fw) (fw : Fw) (st : Sto) : R Fw := match fw with
  | .next ρ => k ρ st
  | fw => .ok fw st
@[simp] theorem nextK_next {k : Slots → Sto → R Fw} {ρ : Slots} {st : Sto} : nextK k (.next ρ) st = k ρ st := Eq.trans rfl rfl
@[simp] theorem nextK_ret {k : Slots → Sto → R Fw} {d : D} {st : Sto} : nextK k (.ret d) st = .ok (.ret d) st := rfl
@[simp] theorem nextK_brk {k : Slots → Sto → R Fw} {ρ : Slots} {st : Sto} : nextK k (.brk ρ) st = .ok (.brk ρ) st := rfl
@[simp] theorem nextK_cont {k : Slots → Sto → R Fw} {ρ : Slots} {st : Sto} : nextK k (.cont ρ) st = .ok (.cont ρ) st := rfl
section
variable {C : Calls} {ρ : Slots} {st : Sto}
@[simp] theorem evSs_nil : evSs C [] ρ st = .ok (.next ρ) st := rfl
@[simp] theorem evSs_cons {s : S} {r : List S} : evSs C (s :: r) ρ st = (evS C s ρ st).bind (nextK fun ρ st => evSs C r ρ st) := by
  show (evS C s ρ st).bind _ = _
  congr 1
@[simp] theorem evS_asg {t : Tg} {e : E} : evS C (.asg t e) ρ st = (ev C ρ e st).bind fun d st => ofO st ((asgT t d ρ).map .next) := rfl
@[simp] theorem evS_expr {e : E} : evS C (.expr e) ρ st = (ev C ρ e st).bind fun _ st => .ok (.next ρ) st := rfl
@[simp] theorem evS_ret {e : E} : evS C (.ret e) ρ st = (evB C ρ e st).bind fun d st => .ok (.ret d) st := rfl
@[simp] theorem evS_retN : evS C .retN ρ st = .ok (.ret .non) st := rfl
@[simp] theorem evS_iff {c : E} {a b : List S} : evS C (.iff c a b) ρ st = (ev C ρ c st).bind fun d st => ifD d (evSs C a ρ st) (evSs C b ρ st) := rfl
@[simp] theorem evS_cont : evS C .cont ρ st = .ok (.cont ρ) st := rfl
@[simp] theorem evS_brk : evS C .brk ρ st = .ok (.brk ρ) st := rfl
@[simp] theorem evS_pass : evS C .pass ρ st = .ok (.next ρ) st := rfl
@[simp] theorem evS_while {c : E} {b : List S} : evS C (.while c b) ρ st = whileGo (fun ρ st => ev C ρ c st) (fun ρ st => evSs C b ρ st) turns ρ st := rfl
def forOf (t : Tg) (b : Slots → Sto → R Fw) (ds : List D) (st0 : Sto) (items : Option (List D)) (ρ : Slots) : R Fw := match items with
  | some items => if 16777216 < items.length then .top else forGo t b (fun st => still st0 st ds) items ρ st0
  | none => .bad
@[simp] theorem evS_for {t : Tg} {k : Ik} {src : List E} {b : List S} : evS C (.for t k src b) ρ st = (evs C ρ src st).bind fun ds st0 => forOf t (fun ρ st => evSs C b ρ st) ds st0 (itemsOf st0 k ds) ρ := rfl
@[simp] theorem evS_frz {i : Nat} : evS C (.frz i) ρ st = match getS ρ i with
  | some d => .ok (.next (ρ.set i (some (frz d)))) st
  | none => .ok (.next ρ) st := rfl
@[simp] theorem evS_aug {i : Nat} {o : Op} {e : E} : evS C (.aug i o e) ρ st = match getS ρ i with
  | some x => if isI x then (ev C ρ e st).bind fun y st => if isI y then ofO st ((opS st o x y).map fun z => .next (ρ.set i (some z))) else .bad else .bad
  | none => .bad := rfl
@[simp] theorem evS_append {o e : E} : evS C (.append o e) ρ st = mutL C ρ o [e] st fun ds xs => match ds with
    | [d] => if xs.length < 16777216 then some (xs ++ [d]) else none
    | _ => none := rfl
@[simp] theorem isI_int {i : Int} : isI (.int i) = true := rfl
@[simp] theorem bor_var {i : Nat} {f : Sto → R D} : bor ρ (.var i) f st = ofO st (getS ρ i) := rfl
@[simp] theorem bor_op {o : Op} {a b : E} {f : Sto → R D} : bor ρ (.op o a b) f st = f st := rfl
@[simp] theorem bor_int {i : Int} {f : Sto → R D} : bor ρ (.int i) f st = f st := rfl
@[simp] theorem bor_str {i : List Char} {f : Sto → R D} : bor ρ (.str i) f st = f st := rfl
@[simp] theorem bor_bl {i : Bool} {f : Sto → R D} : bor ρ (.bl i) f st = f st := rfl
@[simp] theorem bor_non {f : Sto → R D} : bor ρ .non f st = f st := rfl
@[simp] theorem bor_glob {x : String} {i : List Char} {f : Sto → R D} : bor ρ (.glob x i) f st = f st := rfl
@[simp] theorem bor_globi {x : String} {i : Int} {f : Sto → R D} : bor ρ (.globi x i) f st = f st := rfl
@[simp] theorem bor_tup {es : List E} {f : Sto → R D} : bor ρ (.tup es) f st = f st := rfl
@[simp] theorem bor_lst {es : List E} {f : Sto → R D} : bor ρ (.lst es) f st = f st := rfl
@[simp] theorem bor_dct {t : Bool} {f : Sto → R D} : bor ρ (.dct t) f st = f st := rfl
@[simp] theorem bor_dct1 {t : Bool} {a b : E} {f : Sto → R D} : bor ρ (.dct1 t a b) f st = f st := rfl
@[simp] theorem bor_neg {a : E} {f : Sto → R D} : bor ρ (.neg a) f st = f st := rfl
@[simp] theorem bor_not {a : E} {f : Sto → R D} : bor ρ (.not a) f st = f st := rfl
@[simp] theorem bor_and {a : List E} {f : Sto → R D} : bor ρ (.and a) f st = f st := rfl
@[simp] theorem bor_or {a : List E} {f : Sto → R D} : bor ρ (.or a) f st = f st := rfl
@[simp] theorem bor_ife {c a b : E} {f : Sto → R D} : bor ρ (.ife c a b) f st = f st := rfl
@[simp] theorem bor_isN {a : E} {f : Sto → R D} : bor ρ (.isN a) f st = f st := rfl
@[simp] theorem bor_notN {a : E} {f : Sto → R D} : bor ρ (.notN a) f st = f st := rfl
@[simp] theorem bor_fld {a : E} {x : Fl} {f : Sto → R D} : bor ρ (.fld a x) f st = f st := rfl
@[simp] theorem bor_slice {a : E} {l h : Option E} {f : Sto → R D} : bor ρ (.slice a l h) f st = f st := rfl
@[simp] theorem bor_comp {a : E} {t : Tg} {k : Ik} {s i : List E} {f : Sto → R D} : bor ρ (.comp a t k s i) f st = f st := rfl
@[simp] theorem bor_call {k : Nat} {es : List E} {f : Sto → R D} : bor ρ (.call k es) f st = f st := rfl
@[simp] theorem bor_mk {k : Nat} {es : List E} {f : Sto → R D} : bor ρ (.mk k es) f st = f st := rfl
@[simp] theorem bor_meth {k : Nat} {o : E} {es : List E} {f : Sto → R D} : bor ρ (.meth k o es) f st = f st := rfl
@[simp] theorem bor_bi {b : Bi} {es : List E} {f : Sto → R D} : bor ρ (.bi b es) f st = f st := rfl
@[simp] theorem bor_bm {b : Bm} {o : E} {es : List E} {f : Sto → R D} : bor ρ (.bm b o es) f st = f st := rfl
@[simp] theorem bor_isi {a : E} {t : List Ty} {f : Sto → R D} : bor ρ (.isi a t) f st = f st := rfl
@[simp] theorem ev_var {i : Nat} : ev C ρ (.var i) st = ofO st ((getS ρ i).filter free) := rfl
@[simp] theorem ev_non : ev C ρ .non st = .ok .non st := rfl
@[simp] theorem ev_bl {b : Bool} : ev C ρ (.bl b) st = .ok (.bl b) st := rfl
@[simp] theorem ev_int {i : Int} : ev C ρ (.int i) st = .ok (.int i) st := rfl
@[simp] theorem ev_str {i : List Char} : ev C ρ (.str i) st = .ok (.str i) st := rfl
@[simp] theorem ev_glob {x : String} {i : List Char} : ev C ρ (.glob x i) st = .ok (.str i) st := rfl
@[simp] theorem ev_globi {x : String} {i : Int} : ev C ρ (.globi x i) st = .ok (.int i) st := rfl
@[simp] theorem ev_tup {es : List E} : ev C ρ (.tup es) st = (evs C ρ es st).bind fun ds st => .ok (.tup ds) st := rfl
@[simp] theorem ev_lst {es : List E} : ev C ρ (.lst es) st = (evs C ρ es st).bind fun ds st => .ok (.ol ds) st := rfl
@[simp] theorem ev_dct {t : Bool} : ev C ρ (.dct t) st = .ok (.od t []) st := rfl
@[simp] theorem ev_op {o : Op} {a b : E} : ev C ρ (.op o a b) st = (bor ρ a (ev C ρ a) st).bind fun x st => (bor ρ b (ev C ρ b) st).bind fun y st => ofO st (opS st o x y) := rfl
def negD (x : D) (st : Sto) : R D := match x with
    | .int i => .ok (.int (-i)) st
    | _ => .bad
@[simp] theorem negD_int {i : Int} : negD (.int i) st = .ok (.int (-i)) st := rfl
@[simp] theorem ev_neg {a : E} : ev C ρ (.neg a) st = (ev C ρ a st).bind negD := rfl
def notD (x : D) (st : Sto) : R D := match x with
    | .bl b => .ok (.bl (!b)) st
    | _ => .bad
@[simp] theorem notD_bl {i : Bool} : notD (.bl i) st = .ok (.bl (!i)) st := rfl
@[simp] theorem ev_not {a : E} : ev C ρ (.not a) st = (ev C ρ a st).bind notD := rfl
@[simp] theorem ev_and {es : List E} : ev C ρ (.and es) st = evAnd C ρ es st := rfl
@[simp] theorem ev_or {es : List E} : ev C ρ (.or es) st = evOr C ρ es st := rfl
@[simp] theorem evAnd_nil : evAnd C ρ [] st = .ok (.bl true) st := rfl
@[simp] theorem evAnd_cons {e : E} {r : List E} : evAnd C ρ (e :: r) st = (ev C ρ e st).bind fun d st => ifD d (evAnd C ρ r st) (.ok (.bl false) st) := rfl
@[simp] theorem evOr_nil : evOr C ρ [] st = .ok (.bl false) st := rfl
@[simp] theorem evOr_cons {e : E} {r : List E} : evOr C ρ (e :: r) st = (ev C ρ e st).bind fun d st => ifD d (.ok (.bl true) st) (evOr C ρ r st) := rfl
def boolD (x : D) (st : Sto) : R D := match x with
    | .bl b => .ok (.bl b) st
    | _ => .bad
@[simp] theorem boolD_bl {i : Bool} : boolD (.bl i) st = .ok (.bl i) st := rfl
@[simp high] theorem evAnd_one {e : E} : evAnd C ρ [e] st = (ev C ρ e st).bind boolD := by
  rw [evAnd_cons]
  congr 1; funext d st
  cases d with
  | bl b => cases b <;> rfl
  | _ => rfl
@[simp high] theorem evOr_one {e : E} : evOr C ρ [e] st = (ev C ρ e st).bind boolD := by
  rw [evOr_cons]
  congr 1; funext d st
  cases d with
  | bl b => cases b <;> rfl
  | _ => rfl
@[simp] theorem ev_ife {c a b : E} : ev C ρ (.ife c a b) st = (ev C ρ c st).bind fun d st => ifD d (ev C ρ a st) (ev C ρ b st) := rfl
@[simp] theorem ev_isN {a : E} : ev C ρ (.isN a) st = (bor ρ a (ev C ρ a) st).bind fun x st => .ok (.bl (isNon x)) st := rfl
@[simp] theorem ev_notN {a : E} : ev C ρ (.notN a) st = (bor ρ a (ev C ρ a) st).bind fun x st => .ok (.bl (!isNon x)) st := rfl
@[simp] theorem ev_fld {a : E} {f : Fl} : ev C ρ (.fld a f) st = (ev C ρ a st).bind fun x st => ofO st (fldOf st f x) := rfl
@[simp] theorem ev_slice {a : E} {lo hi : Option E} : ev C ρ (.slice a lo hi) st = (bor ρ a (ev C ρ a) st).bind fun x st => (evO C ρ lo st).bind fun l st => (evO C ρ hi st).bind fun h st => ofO st (sliceS st x l h) := rfl
@[simp] theorem evO_none : evO C ρ none st = .ok none st := rfl
def intD (x : D) (st : Sto) : R (Option Int) := match x with
    | .int i => .ok (some i) st
    | _ => .bad
@[simp] theorem intD_int {i : Int} : intD (.int i) st = .ok (some i) st := rfl
@[simp] theorem evO_some {e : E} : evO C ρ (some e) st = (ev C ρ e st).bind intD := rfl
@[simp] theorem ev_call {k : Nat} {es : List E} : ev C ρ (.call k es) st = (evs C ρ es st).bind (C.f k) := rfl
@[simp] theorem ev_mk {k : Nat} {es : List E} : ev C ρ (.mk k es) st = (evs C ρ es st).bind (C.f k) := rfl
@[simp] theorem ev_bi {b : Bi} {es : List E} : ev C ρ (.bi b es) st = (evBs C ρ es st).bind fun ds st => ofO st (biS st b ds) := rfl
@[simp] theorem ev_bm {b : Bm} {o : E} {es : List E} : ev C ρ (.bm b o es) st = (bor ρ o (ev C ρ o) st).bind fun x st => if bmT st b x then (evBs C ρ es st).bind fun ds st => ofO st (bmS st b x ds) else .bad := rfl
@[simp] theorem ev_isi {a : E} {ts : List Ty} : ev C ρ (.isi a ts) st = (bor ρ a (ev C ρ a) st).bind fun x st => ofO st ((isTys st x ts).map .bl) := rfl
@[simp] theorem evs_nil : evs C ρ [] st = .ok [] st := rfl
@[simp] theorem evs_cons {e : E} {r : List E} : evs C ρ (e :: r) st = (ev C ρ e st).bind fun d st => (evs C ρ r st).bind fun ds st => .ok (frz d :: ds) st := rfl
@[simp] theorem evBs_nil : evBs C ρ [] st = .ok [] st := rfl
@[simp] theorem evBs_cons {e : E} {r : List E} : evBs C ρ (e :: r) st = (bor ρ e (ev C ρ e) st).bind fun d st => (evBs C ρ r st).bind fun ds st => .ok (d :: ds) st := rfl
@[simp] theorem evTs_nil : evTs C ρ [] st = .ok true st := rfl
def ifB {α : Type} (d : D) (x y : R α) : R α := ifD d x y
@[simp] theorem evTs_cons {e : E} {r : List E} : evTs C ρ (e :: r) st = (ev C ρ e st).bind fun d st => ifD d (evTs C ρ r st) (.ok false st) := rfl
@[simp] theorem asgT_one {i : Nat} {d : D} : asgT (.one i) d ρ = some (ρ.set i (some d)) := rfl
@[simp] theorem frz_int {i : Int} : frz (.int i) = .int i := rfl
@[simp] theorem frz_str {i : List Char} : frz (.str i) = .str i := rfl
@[simp] theorem frz_bl {i : Bool} : frz (.bl i) = .bl i := rfl
@[simp] theorem frz_non : frz .non = .non := rfl
@[simp] theorem frz_tup {xs : List D} : frz (.tup xs) = .tup xs := rfl
@[simp] theorem frz_fl {xs : List D} : frz (.fl xs) = .fl xs := rfl
@[simp] theorem frz_sc {xs : List D} : frz (.sc xs) = .sc xs := rfl
@[simp] theorem frz_ol {xs : List D} : frz (.ol xs) = .fl xs := rfl
@[simp] theorem frz_od {t : Bool} {xs : List (Ky × D)} : frz (.od t xs) = .fd t xs := rfl
@[simp] theorem frz_fd {t : Bool} {xs : List (Ky × D)} : frz (.fd t xs) = .fd t xs := rfl
@[simp] theorem frz_ref {n : Nat} : frz (.ref n) = .ref n := rfl
@[simp] theorem free_int {i : Int} : free (.int i) = true := rfl
@[simp] theorem free_str {i : List Char} : free (.str i) = true := rfl
@[simp] theorem free_bl {i : Bool} : free (.bl i) = true := rfl
@[simp] theorem free_non : free .non = true := rfl
@[simp] theorem free_tup {xs : List D} : free (.tup xs) = true := rfl
@[simp] theorem free_fl {xs : List D} : free (.fl xs) = true := rfl
@[simp] theorem free_sc {xs : List D} : free (.sc xs) = true := rfl
@[simp] theorem free_fd {t : Bool} {xs : List (Ky × D)} : free (.fd t xs) = true := rfl
@[simp] theorem free_ref {n : Nat} : free (.ref n) = true := rfl
@[simp] theorem getS_0 {o : D} {r : Slots} : getS (some o :: r) 0 = some o := rfl
@[simp] theorem getS_s {o : Option D} {r : Slots} {i : Nat} : getS (o :: r) (i + 1) = getS r i := rfl
end
theorem wp_ite {α : Type} {c : Prop} [Decidable c] {x y : R α} {Q : α → Sto → Prop} : wp (if c then x else y) Q ↔ (c → wp x Q) ∧ (¬ c → wp y Q) := by
  by_cases h : c
  · rw [if_pos h]; exact ⟨fun z => ⟨fun _ => z, fun n => absurd h n⟩, fun z => z.1 h⟩
  · rw [if_neg h]; exact ⟨fun z => ⟨fun n => absurd n h, fun _ => z⟩, fun z => z.2 h⟩
theorem bind_ite {α β : Type} {c : Prop} [Decidable c] {x y : R α} {f : α → Sto → R β} : (if c then x else y).bind f = if c then x.bind f else y.bind f := by
  by_cases h : c
  · rw [if_pos h, if_pos h]
  · rw [if_neg h, if_neg h]
theorem bind_assoc {α β γ : Type} {r : R α} {f : α → Sto → R β} {g : β → Sto → R γ} : (r.bind f).bind g = r.bind fun a st => (f a st).bind g := by cases r <;> rfl

/-! ### operators on plain data -/
theorem filt_free {d : D} (h : free d = true) : Option.filter free (some d) = some d := by simp [Option.filter, h]
@[simp] theorem filt_int {i : Int} : Option.filter free (some (.int i)) = some (.int i) := rfl
@[simp] theorem filt_str {s : List Char} : Option.filter free (some (.str s)) = some (.str s) := rfl
@[simp] theorem filt_bl {b : Bool} : Option.filter free (some (.bl b)) = some (.bl b) := rfl
@[simp] theorem filt_tup {xs : List D} : Option.filter free (some (.tup xs)) = some (.tup xs) := rfl
@[simp] theorem filt_fl {xs : List D} : Option.filter free (some (.fl xs)) = some (.fl xs) := rfl
@[simp] theorem filt_sc {xs : List D} : Option.filter free (some (.sc xs)) = some (.sc xs) := rfl
@[simp] theorem filt_ref {n : Nat} : Option.filter free (some (.ref n)) = some (.ref n) := rfl
@[simp] theorem filt_fd {t : Bool} {xs : List (Ky × D)} : Option.filter free (some (.fd t xs)) = some (.fd t xs) := rfl
@[simp] theorem filt_non : Option.filter free (some .non) = some .non := rfl
section
variable {st : Sto} {i j : Int} {x y : List Char}
@[simp] theorem op_add_i : opS st .add (.int i) (.int j) = some (.int (i + j)) := rfl
@[simp] theorem op_sub_i : opS st .sub (.int i) (.int j) = some (.int (i - j)) := rfl
@[simp] theorem op_lt_i : opS st .lt (.int i) (.int j) = some (.bl (decide (i < j))) := rfl
@[simp] theorem op_le_i : opS st .le (.int i) (.int j) = some (.bl (decide (i ≤ j))) := rfl
@[simp] theorem op_gt_i : opS st .gt (.int i) (.int j) = some (.bl (decide (j < i))) := rfl
@[simp] theorem op_ge_i : opS st .ge (.int i) (.int j) = some (.bl (decide (j ≤ i))) := rfl
theorem op_mul_i (h : (-(2 ^ 64) < i ∧ i < 2 ^ 64) ∨ (-(2 ^ 64) < j ∧ j < 2 ^ 64)) : opS st .mul (.int i) (.int j) = some (.int (i * j)) := if_pos h
@[simp] theorem op_mul_r (h : -(2 ^ 64) < j ∧ j < 2 ^ 64) : opS st .mul (.int i) (.int j) = some (.int (i * j)) := op_mul_i (.inr h)
@[simp] theorem op_mul_l (h : -(2 ^ 64) < i ∧ i < 2 ^ 64) : opS st .mul (.int i) (.int j) = some (.int (i * j)) := op_mul_i (.inl h)
@[simp] theorem op_fdiv_i (h : 0 < j ∧ j < 1073741824) : opS st .fdiv (.int i) (.int j) = some (.int (i / j)) := if_pos h
@[simp] theorem op_mod_i (h : 0 < j) : opS st .mod (.int i) (.int j) = some (.int (i % j)) := if_pos h
@[simp] theorem eq_i : eqS st (.int i) (.int j) = some (i == j) := by simp [eqS, okd, peq]
@[simp] theorem eq_s : eqS st (.str x) (.str y) = some (x == y) := by simp [eqS, okd, peq]
@[simp] theorem eq_b {a b : Bool} : eqS st (.bl a) (.bl b) = some (a == b) := by simp [eqS, okd, peq]
@[simp] theorem op_eq_ {a b : D} : opS st .eq a b = (eqS st a b).map .bl := rfl
@[simp] theorem op_ne_ {a b : D} : opS st .ne a b = (eqS st a b).map fun r => .bl (!r) := rfl
@[simp] theorem op_in_ {a b : D} : opS st .isin a b = (inS st a b).map .bl := rfl
@[simp] theorem op_notin_ {a b : D} : opS st .notin a b = (inS st a b).map fun r => .bl (!r) := rfl
@[simp] theorem op_idx_ {a b : D} : opS st .idx a b = idxS st a b := rfl
@[simp] theorem op_add_s (h : x.length + y.length ≤ 16777216) : opS st .add (.str x) (.str y) = some (.str (x ++ y)) := if_pos h
@[simp] theorem op_add_t {xs ys : List D} (h : xs.length + ys.length ≤ 16777216) : opS st .add (.tup xs) (.tup ys) = some (.tup (xs ++ ys)) := if_pos h
@[simp] theorem in_char {c : Char} : inS st (.str [c]) (.str x) = some (decide (c ∈ x)) := rfl
theorem ixN_nat {n i : Nat} (h : i < n) : L2.ixN n (i : Int) = some i := by
  unfold L2.ixN
  rw [if_pos (by omega), if_pos (by omega)]; rfl
theorem ixN_int {n : Nat} (h0 : 0 ≤ i) (h : i < n) : L2.ixN n i = some i.toNat := by
  unfold L2.ixN
  rw [if_pos h0, if_pos h]
theorem idx_s {k : Nat} (h : k < x.length) (hl : x.length ≤ 16777216) : idxS st (.str x) (.int k) = some (.str [x[k]]) := by
  show (if x.length ≤ 16777216 then ((L2.ixN x.length k).bind fun j => x[j]?).map fun c => D.str [c] else none) = _
  rw [if_pos hl, ixN_nat h]; simp [h]
theorem idx_s' (h0 : 0 ≤ i) (h : i < x.length) (hl : x.length ≤ 16777216) : idxS st (.str x) (.int i) = some (.str [x[i.toNat]'(by omega)]) := by
  show (if x.length ≤ 16777216 then ((L2.ixN x.length i).bind fun j => x[j]?).map fun c => D.str [c] else none) = _
  rw [if_pos hl, ixN_int h0 h]; simp [show i.toNat < x.length by omega]
theorem atI_nat {xs : List D} {k : Nat} (h : k < xs.length) : atI xs k = some xs[k] := by unfold atI; rw [ixN_nat h]; simp [h]
theorem atI_int {xs : List D} (h0 : 0 ≤ i) (h : i < xs.length) : atI xs i = some (xs[i.toNat]'(by omega)) := by unfold atI; rw [ixN_int h0 h]; simp [show i.toNat < xs.length by omega]
@[simp] theorem idx_tup {xs : List D} : idxS st (.tup xs) (.int i) = atI xs i := rfl
@[simp] theorem idx_ol {xs : List D} : idxS st (.ol xs) (.int i) = atI xs i := rfl
@[simp] theorem idx_fl {xs : List D} : idxS st (.fl xs) (.int i) = atI xs i := rfl
@[simp] theorem idx_sc {xs : List D} : idxS st (.sc xs) (.int i) = atI xs i := rfl
@[simp] theorem bi_len {d : D} : biS st .len [d] = lenS st d := rfl
@[simp] theorem bi_int {d : D} : biS st .int [d] = intB d := rfl
@[simp] theorem bi_str {d : D} : biS st .str [d] = strB d := rfl
@[simp] theorem bi_ord {c : Char} : biS st .ord [.str [c]] = some (.int c.toNat) := rfl
@[simp] theorem bi_min2 : biS st .min2 [.int i, .int j] = some (.int (if j < i then j else i)) := rfl
@[simp high] theorem bi_min2n {a b : Nat} : biS st .min2 [.int a, .int b] = some (.int ((min a b : Nat) : Int)) := by
  rw [bi_min2]
  congr 2
  split <;> omega
@[simp] theorem bi_max2 : biS st .max2 [.int i, .int j] = some (.int (if j > i then j else i)) := rfl
@[simp] theorem bi_tuple {d : D} : biS st .tuple [d] = tupB st d := rfl
@[simp] theorem bi_list {d : D} : biS st .list [d] = lstB st d := rfl
@[simp] theorem len_s (h : x.length ≤ 16777216) : lenS st (.str x) = some (.int x.length) := if_pos h
@[simp] theorem len_t {xs : List D} : lenS st (.tup xs) = some (.int xs.length) := rfl
@[simp] theorem len_ol {xs : List D} : lenS st (.ol xs) = some (.int xs.length) := rfl
@[simp] theorem len_fl {xs : List D} : lenS st (.fl xs) = some (.int xs.length) := rfl
@[simp] theorem len_sc {xs : List D} : lenS st (.sc xs) = some (.int xs.length) := rfl
@[simp] theorem sl_s {lo hi : Option Int} (h : x.length ≤ 16777216) : sliceS st (.str x) lo hi = some (.str (cutL x lo hi)) := if_pos h
@[simp] theorem sl_t {xs : List D} {lo hi : Option Int} : sliceS st (.tup xs) lo hi = some (.tup (cutL xs lo hi)) := rfl
@[simp] theorem sl_ol {xs : List D} {lo hi : Option Int} : sliceS st (.ol xs) lo hi = some (.ol (cutL xs lo hi)) := rfl
@[simp] theorem sl_fl {xs : List D} {lo hi : Option Int} : sliceS st (.fl xs) lo hi = some (.ol (cutL xs lo hi)) := rfl
@[simp] theorem sl_sc {xs : List D} {lo hi : Option Int} : sliceS st (.sc xs) lo hi = some (.ol (cutL xs lo hi)) := rfl
theorem cut_hi {α : Type} {xs : List α} {k : Nat} : cutL xs none (some (k : Int)) = xs.take k := by
  unfold cutL
  rw [HT.sIx_nat]
  show (xs.drop 0).take (min k xs.length - 0) = _
  rw [List.drop_zero, Nat.sub_zero, ← List.take_take, List.take_length]
theorem cut_lo {α : Type} {xs : List α} {k : Nat} : cutL xs (some (k : Int)) none = xs.drop k := by
  unfold cutL
  rw [HT.sIx_nat]
  show (xs.drop (min k xs.length)).take (xs.length - min k xs.length) = _
  by_cases h : k ≤ xs.length
  · rw [Nat.min_eq_left h]; exact List.take_of_length_le (by simp)
  · rw [Nat.min_eq_right (by omega)]; simp; omega
theorem cut_mid {α : Type} {xs : List α} {k m : Nat} : cutL xs (some (k : Int)) (some (m : Int)) = (xs.drop k).take (m - k) := by
  unfold cutL
  rw [HT.sIx_nat, HT.sIx_nat]
  by_cases h : k ≤ xs.length
  · rw [Nat.min_eq_left h]
    by_cases h2 : m ≤ xs.length
    · rw [Nat.min_eq_left h2]
    · rw [Nat.min_eq_right (by omega), List.take_of_length_le (by simp), List.take_of_length_le (by simp; omega)]
  · rw [Nat.min_eq_right (show xs.length ≤ k by omega), List.drop_of_length_le (Nat.le_refl _), List.drop_of_length_le (show xs.length ≤ k by omega)]; simp
theorem rgL_get : ∀ {n k : Nat} {a : Int}, k < n → (rangeL a n)[k]? = some (.int (a + k))
  | 0, k, _, h => by omega
  | n + 1, 0, a, _ => by simp [rangeL]
  | n + 1, k + 1, a, h => by
    simp only [rangeL, List.getElem?_cons_succ]
    rw [rgL_get (by omega)]; simp; omega
@[simp] theorem rgL_len : ∀ {n : Nat} {a : Int}, (rangeL a n).length = n
  | 0, _ => rfl
  | n + 1, a => by simp [rangeL, rgL_len]
theorem range_items {n : Nat} (h : n < 16777216) : itemsOf st .range [.int n] = some (rangeL 0 n) := by
  simp only [itemsOf]
  rw [if_pos ⟨by omega, by omega⟩, Int.toNat_natCast]
theorem range_items_i (h0 : 0 ≤ i) (h : i < 16777216) : itemsOf st .range [.int i] = some (rangeL 0 i.toNat) := by
  simp only [itemsOf]
  rw [if_pos ⟨by omega, by omega⟩]
theorem rangeL_inv {n k : Nat} {a : Int} {x : D} (h : (rangeL a n)[k]? = some x) : x = .int (a + k) ∧ k < n := by
  have hk := (List.getElem?_eq_some_iff.mp h).1
  rw [rgL_len] at hk
  rw [rgL_get hk] at h
  exact ⟨(Option.some.inj h).symm, hk⟩
@[simp] theorem seq_t {xs : List D} : itemsOf st .seq [.tup xs] = some xs := rfl
@[simp] theorem seq_ol {xs : List D} : itemsOf st .seq [.ol xs] = some xs := rfl
@[simp] theorem seq_fl {xs : List D} : itemsOf st .seq [.fl xs] = some xs := rfl
@[simp] theorem seq_sc {xs : List D} : itemsOf st .seq [.sc xs] = some xs := rfl
@[simp] theorem seq_s (h : x.length ≤ 16777216) : itemsOf st .seq [.str x] = some (x.map fun c => .str [c]) := if_pos h
theorem forOf_some {t : Tg} {b : Slots → Sto → R Fw} {ds : List D} {items : List D} {ρ : Slots} (h : items.length ≤ 16777216) : forOf t b ds st (some items) ρ = forGo t b (fun st' => still st st' ds) items ρ st := if_neg (by omega)
@[simp] theorem still_nil {st' : Sto} : still st st' [] = true := rfl
@[simp] theorem still_int {st' : Sto} {r : List D} : still st st' (.int i :: r) = still st st' r := rfl
@[simp] theorem still_str {st' : Sto} {r : List D} : still st st' (.str x :: r) = still st st' r := rfl
@[simp] theorem still_t {st' : Sto} {r xs : List D} : still st st' (.tup xs :: r) = still st st' r := rfl
@[simp] theorem still_fl {st' : Sto} {r xs : List D} : still st st' (.fl xs :: r) = still st st' r := rfl
@[simp] theorem still_ol {st' : Sto} {r xs : List D} : still st st' (.ol xs :: r) = still st st' r := rfl
@[simp] theorem still_sc {st' : Sto} {r xs : List D} : still st st' (.sc xs :: r) = still st st' r := rfl
@[simp] theorem mutL_own {C : Calls} {ρ : Slots} {v : Nat} {es : List E} {g : List D → List D → Option (List D)} {xs : List D} (h : getS ρ v = some (.ol xs)) :
    mutL C ρ (.var v) es st g = (evs C ρ es st).bind fun ds st => ofO st ((g ds xs).map fun ys => .next (ρ.set v (some (.ol ys)))) := by
  unfold mutL
  show (ofO st (getS ρ v)).bind _ = _
  rw [h]
  simp only [ofO_some, bind_ok, lsP, lsOf, Option.isSome_some, if_true]
  congr 1; funext ds st
  unfold updL
  dsimp only
  cases g ds xs <;> rfl
end
/-! ### comprehensions -/
def compB (C : Calls) (ρ : Slots) (elt : E) (tg : Tg) (ifs : List E) (ds : List D) (st0 : Sto) (x : D) (st : Sto) : R (Option D) := match asgT tg x (wipeS ρ tg.slots) with
  | some ρ1 => (evTs C ρ1 ifs st).bind fun b st => if b then (ev C ρ1 elt st).bind fun d st1 => if still st0 st1 ds then .ok (some (frz d)) st1 else .bad else if still st0 st ds then .ok none st else .bad
  | none => .bad
def compOf (C : Calls) (ρ : Slots) (elt : E) (tg : Tg) (ifs : List E) (ds : List D) (st0 : Sto) (o : Option (List D)) : R D := match o with
  | some items => if 16777216 < items.length then .top else (compGo (compB C ρ elt tg ifs ds st0) items st0).bind fun xs st => .ok (.ol xs) st
  | none => .bad
@[simp] theorem ev_comp {C : Calls} {ρ : Slots} {st : Sto} {elt : E} {tg : Tg} {k : Ik} {src ifs : List E} : ev C ρ (.comp elt tg k src ifs) st = (evBs C ρ src st).bind fun ds st0 => compOf C ρ elt tg ifs ds st0 (itemsOf st0 k ds) := rfl
theorem compGo_pure {g : D → Sto → R (Option D)} {f : D → Option D} {st : Sto} : ∀ {items : List D}, (∀ x ∈ items, g x st = .ok (f x) st) → compGo g items st = .ok (items.filterMap f) st
  | [], _ => rfl
  | x :: r, h => by
    simp only [compGo]
    rw [h x (by simp), bind_ok, compGo_pure fun y hy => h y (by simp [hy]), bind_ok, List.filterMap_cons]
    cases f x <;> rfl
/-- a comprehension that changes nothing -/
theorem comp_pure {C : Calls} {ρ : Slots} {elt : E} {tg : Tg} {ifs : List E} {ds : List D} {st : Sto} {items : List D} {f : D → Option D} (hl : items.length ≤ 16777216) (h : ∀ x ∈ items, compB C ρ elt tg ifs ds st x st = .ok (f x) st) :
    compOf C ρ elt tg ifs ds st (some items) = .ok (.ol (items.filterMap f)) st := by
  unfold compOf
  dsimp only
  rw [if_neg (by omega), compGo_pure h]; rfl
theorem comp_map {C : Calls} {ρ : Slots} {elt : E} {tg : Tg} {ifs : List E} {ds : List D} {st : Sto} {items : List D} {f : D → D} (hl : items.length ≤ 16777216) (h : ∀ x ∈ items, compB C ρ elt tg ifs ds st x st = .ok (some (f x)) st) :
    compOf C ρ elt tg ifs ds st (some items) = .ok (.ol (items.map f)) st := by
  rw [comp_pure (f := fun x => some (f x)) hl h]
  congr 1
  rw [List.filterMap_eq_map']
@[simp] theorem compB_one {C : Calls} {ρ : Slots} {elt : E} {i : Nat} {ds : List D} {st0 st : Sto} {x : D} : compB C ρ elt (.one i) [] ds st0 x st = (ev C (ρ.set i (some x)) elt st).bind fun d st1 => if still st0 st1 ds = true then .ok (some (frz d)) st1 else .bad := by
  show (ev C ((ρ.set i none).set i (some x)) elt st).bind _ = _
  rw [List.set_set]
@[simp] theorem compB_one1 {C : Calls} {ρ : Slots} {elt e : E} {i : Nat} {ds : List D} {st0 st : Sto} {x : D} : compB C ρ elt (.one i) [e] ds st0 x st = (ev C (ρ.set i (some x)) e st).bind fun d st => ifD d ((ev C (ρ.set i (some x)) elt st).bind fun d st1 => if still st0 st1 ds = true then .ok (some (frz d)) st1 else .bad) (if still st0 st ds = true then .ok none st else .bad) := by
  have e1 : (wipeS ρ (Tg.one i).slots).set i (some x) = ρ.set i (some x) := List.set_set ..
  show ((ev C ((wipeS ρ (Tg.one i).slots).set i (some x)) e st).bind fun d st => ifD d (R.ok true st) (.ok false st)).bind (fun b st => if b = true then (ev C ((wipeS ρ (Tg.one i).slots).set i (some x)) elt st).bind fun d st1 => if still st0 st1 ds = true then .ok (some (frz d)) st1 else .bad else if still st0 st ds = true then .ok none st else .bad) = _
  rw [e1, bind_assoc]
  congr 1; funext d st
  cases d with
  | bl b => cases b <;> rfl
  | _ => rfl
theorem bls_map {α : Type} {f : α → Bool} : ∀ xs : List α, blsOf (xs.map fun x => D.bl (f x)) = some (xs.map f)
  | [] => rfl
  | x :: r => by simp [blsOf, bls_map r]
theorem bi_all_ol {α : Type} {st : Sto} {f : α → Bool} {xs : List α} : biS st .all [.ol (xs.map fun x => D.bl (f x))] = some (.bl (xs.all f)) := by
  show (((some (xs.map fun x => D.bl (f x))) : Option (List D)).bind blsOf).map _ = _
  rw [Option.bind_some, bls_map]
  simp [List.all_map]
/-! ### more expressions, more statements -/
section
variable {C : Calls} {ρ : Slots} {st : Sto}
@[simp] theorem bor_dget {a b c : E} {f : Sto → R D} : bor ρ (.dget a b c) f st = f st := rfl
@[simp] theorem bor_inRng {g : Bool} {a b c : E} {f : Sto → R D} : bor ρ (.inRng g a b c) f st = f st := rfl
@[simp] theorem bor_listRev {a : E} {f : Sto → R D} : bor ρ (.listRev a) f st = f st := rfl
@[simp] theorem bor_sortk {k : Nat} {a : E} {f : Sto → R D} : bor ρ (.sortk k a) f st = f st := rfl
@[simp] theorem bor_sortl {k : Nat} {b a : E} {f : Sto → R D} : bor ρ (.sortl k b a) f st = f st := rfl
@[simp] theorem bor_dictOf {a : E} {f : Sto → R D} : bor ρ (.dictOf a) f st = f st := rfl
@[simp] theorem bor_box {a : E} {f : Sto → R D} : bor ρ (.box a) f st = f st := rfl
def dct1D (t : Bool) (a b : D) (st : Sto) : R D := match keyOf t a with
    | some y => .ok (.od t [(y, frz b)]) st
    | none => .bad
@[simp] theorem ev_dct1 {t : Bool} {k v : E} : ev C ρ (.dct1 t k v) st = (ev C ρ k st).bind fun a st => (ev C ρ v st).bind fun b st => dct1D t a b st := rfl
@[simp] theorem dct1D_s {x : List Char} {b : D} : dct1D false (.str x) b st = .ok (.od false [(.k (.s x), frz b)]) st := rfl
@[simp] theorem dct1D_i {x : Int} {b : D} : dct1D false (.int x) b st = .ok (.od false [(.k (.i x), frz b)]) st := rfl
def inRngD (g : Bool) (x l h : D) (st : Sto) : R D := match x, l, h with
    | .int i, .int l, .int h => .ok (.bl (decide (l ≤ i ∧ i < h) != g)) st
    | _, _, _ => .bad
@[simp] theorem inRngD_i {g : Bool} {i l h : Int} : inRngD g (.int i) (.int l) (.int h) st = .ok (.bl (decide (l ≤ i ∧ i < h) != g)) st := rfl
@[simp] theorem ev_inRng {g : Bool} {a lo hi : E} : ev C ρ (.inRng g a lo hi) st = (ev C ρ a st).bind fun x st => (ev C ρ lo st).bind fun l st => (ev C ρ hi st).bind fun h st => inRngD g x l h st := rfl
def dgetD (d a b : D) (st : Sto) : R D := match dcOf st d with
    | some (t, kvs) => (match keyOf t a with
      | some y => .ok ((dGet y kvs).getD (frz b)) st
      | none => .bad)
    | none => .bad
@[simp] theorem ev_dget {o k x : E} : ev C ρ (.dget o k x) st = (bor ρ o (ev C ρ o) st).bind fun d st => if (dcOf st d).isSome = true then (ev C ρ k st).bind fun a st => (ev C ρ x st).bind fun b st => dgetD d a b st else .bad := rfl
@[simp] theorem ev_listRev {a : E} : ev C ρ (.listRev a) st = (bor ρ a (ev C ρ a) st).bind fun x st => ofO st ((lsOf st x).map fun xs => .ol xs.reverse) := rfl
def sortkD (F : Fn) (x : D) (st0 : Sto) : R D := match srcK st0 x with
    | some xs => (keysGo (fun d st => F [d] st) xs st0).bind fun ps st => ofO st ((sortK ps).map fun qs => .ol (qs.map (·.2)))
    | none => .bad
@[simp] theorem ev_sortk {k : Nat} {a : E} : ev C ρ (.sortk k a) st = (bor ρ a (ev C ρ a) st).bind fun x st0 => sortkD (C.f k) x st0 := rfl
def setFD (x : D) (f : Fl) (d : D) (ρ : Slots) (st : Sto) : R Fw := match setFld st x f (frz d) with
    | some st => .ok (.next ρ) st
    | none => .bad
@[simp] theorem evS_setF {o e : E} {f : Fl} : evS C (.setF o f e) ρ st = (ev C ρ e st).bind fun d st => (ev C ρ o st).bind fun x st => setFD x f d ρ st := rfl
@[simp] theorem evS_setI {o k e : E} : evS C (.setI o k e) ρ st = (ev C ρ e st).bind fun d st => (evB C ρ o st).bind fun x st => (ev C ρ k st).bind fun y st => (setIdx o x y (frz d) ρ st).bind fun ρ st => .ok (.next ρ) st := rfl
def extD (o : E) (x d : D) (ρ : Slots) (st : Sto) : R Fw := match lsP st d with
    | some ys => (updL o x ρ st fun xs => if xs.length + ys.length ≤ 16777216 then some (xs ++ ys) else none).bind fun ρ st => .ok (.next ρ) st
    | none => .bad
@[simp] theorem evS_extend {o e : E} : evS C (.extend o e) ρ st = (evB C ρ o st).bind fun x st => if (lsP st x).isSome = true then (evB C ρ e st).bind fun d st => extD o x d ρ st else .bad := rfl
@[simp] theorem extD_own {i : Nat} {xs ys : List D} (h : xs.length + ys.length ≤ 16777216) : extD (.var i) (.ol xs) (.ol ys) ρ st = .ok (.next (ρ.set i (some (.ol (xs ++ ys))))) st := by
  show (updL (.var i) (.ol xs) ρ st _).bind _ = _
  unfold updL
  dsimp only
  rw [if_pos h]; rfl
@[simp] theorem extD_fl {i : Nat} {xs ys : List D} (h : xs.length + ys.length ≤ 16777216) : extD (.var i) (.ol xs) (.fl ys) ρ st = .ok (.next (ρ.set i (some (.ol (xs ++ ys))))) st := by
  show (updL (.var i) (.ol xs) ρ st _).bind _ = _
  unfold updL
  dsimp only
  rw [if_pos h]; rfl
@[simp] theorem lsP_ol {xs : List D} : lsP st (.ol xs) = some xs := rfl
@[simp] theorem lsP_fl {xs : List D} : lsP st (.fl xs) = some xs := rfl
@[simp] theorem lsOf_ol {xs : List D} : lsOf st (.ol xs) = some xs := rfl
@[simp] theorem lsOf_fl {xs : List D} : lsOf st (.fl xs) = some xs := rfl
@[simp] theorem lsOf_sc {xs : List D} : lsOf st (.sc xs) = some xs := rfl
@[simp] theorem evS_insert0 {o e : E} : evS C (.insert0 o e) ρ st = mutL C ρ o [.int 0, e] st fun ds xs => match ds with
    | [.int 0, d] => if xs.length < 16777216 then some (d :: xs) else none
    | _ => none := rfl
@[simp] theorem evS_clear {o : E} : evS C (.clear o) ρ st = mutL C ρ o [] st fun _ _ => some [] := rfl
@[simp] theorem evS_pop {o e : E} : evS C (.pop o e) ρ st = mutD C ρ o [e] st fun ds t kvs => match ds with
    | [d] => (keyOf t d).bind fun y => if dHas y kvs = true ∧ t = true then some (dDrop y kvs) else none
    | _ => none := rfl
theorem bm_rjust {s : List Char} {n : Nat} {c : Char} (h : n ≤ 1000) : bmS st .rjust (.str s) [.int n, .str [c]] = some (.str (List.replicate (n - s.length) c ++ s)) := by
  show (if 0 ≤ (n : Int) ∧ (n : Int) ≤ 1000 then _ else _) = _
  rw [if_pos ⟨by omega, by omega⟩]; simp
end
/-- one of a program's defs -/
theorem run_def {ds : List Def} {q np m k : Nat} {body : List S} {fs : List Callee} {ms : List (List (Cl × Nat))} (h : ds[q]? = some ⟨np, m, body, fs, ms⟩) :
    runP ds (k + 1) q = runFn (callsOf (runP ds k) ⟨np, m, body, fs, ms⟩) np m body := runP_eq h
/-! ### numbers -/
section
variable {n m : Nat} {j : Int}
@[simp] theorem ilt_lit (h : 0 ≤ j) : ((n : Int) < j) = (n < j.toNat) := propext (by omega)
@[simp] theorem lit_ilt (h : 0 ≤ j) : (j < (n : Int)) = (j.toNat < n) := propext (by omega)
@[simp] theorem ile_lit (h : 0 ≤ j) : ((n : Int) ≤ j) = (n ≤ j.toNat) := propext (by omega)
@[simp] theorem lit_ile (h : 0 ≤ j) : (j ≤ (n : Int)) = (j.toNat ≤ n) := propext (by omega)
@[simp] theorem ieq_lit (h : 0 ≤ j) : ((n : Int) = j) = (n = j.toNat) := propext (by omega)
@[simp] theorem lit_ieq (h : 0 ≤ j) : (j = (n : Int)) = (j.toNat = n) := propext (by omega)
@[simp] theorem ibeq_lit (h : 0 ≤ j) : ((n : Int) == j) = (n == j.toNat) := by
  rw [Bool.eq_iff_iff, beq_iff_eq, beq_iff_eq]; omega
@[simp] theorem iadd_lt (h : 0 ≤ j) : ((n : Int) + j < (m : Int)) = (n + j.toNat < m) := propext (by omega)
@[simp] theorem lt_iadd (h : 0 ≤ j) : ((m : Int) < (n : Int) + j) = (m < n + j.toNat) := propext (by omega)
@[simp] theorem iadd_le (h : 0 ≤ j) : ((n : Int) + j ≤ (m : Int)) = (n + j.toNat ≤ m) := propext (by omega)
@[simp] theorem le_iadd (h : 0 ≤ j) : ((m : Int) ≤ (n : Int) + j) = (m ≤ n + j.toNat) := propext (by omega)
end
/-! ### step by step -/
section
variable {C : Calls} {ρ ρ' : Slots} {st st' : Sto} {s : S} {r : List S} {Q : Fw → Sto → Prop}
theorem wp_cons (h : wp (evS C s ρ st) fun fw st => match fw with
    | .next ρ => wp (evSs C r ρ st) Q
    | fw => Q fw st) : wp (evSs C (s :: r) ρ st) Q := by
  rw [evSs_cons, wp_bind]
  refine wp_mono h fun fw st1 h => ?_
  cases fw <;> first | exact h | exact .of h
theorem wp_next (e : evS C s ρ st = .ok (.next ρ') st') (h : wp (evSs C r ρ' st') Q) : wp (evSs C (s :: r) ρ st) Q := wp_cons (by rw [e, wp_ok]; exact h)
theorem wp_asg {i : Nat} {e : E} {d : D} (h : ev C ρ e st = .ok d st') (q : wp (evSs C r (ρ.set i (some d)) st') Q) : wp (evSs C (.asg (.one i) e :: r) ρ st) Q :=
  wp_next (by rw [evS_asg, h]; rfl) q
theorem wp_iffE {c : E} {a b : List S} {t : Bool} (h : ev C ρ c st = .ok (.bl t) st') (h1 : t = true → wp (evSs C (a ++ r) ρ st') Q) (h2 : t = false → wp (evSs C (b ++ r) ρ st') Q) : wp (evSs C (.iff c a b :: r) ρ st) Q := by
  have app : ∀ (a : List S) (ρ : Slots) (st : Sto), wp (evSs C (a ++ r) ρ st) Q → wp (evSs C a ρ st) fun fw st => match fw with
      | .next ρ => wp (evSs C r ρ st) Q
      | fw => Q fw st := by
    intro a
    induction a with
    | nil => intro ρ st h; exact .of h
    | cons x a ih =>
      intro ρ st h
      rw [List.cons_append, evSs_cons, wp_bind] at h
      rw [evSs_cons, wp_bind]
      refine wp_mono h fun fw st1 h => ?_
      cases fw with
      | next ρ1 => exact ih _ _ h
      | _ => exact .of h.run
  refine wp_cons ?_
  rw [evS_iff, h, bind_ok, ifD_bl]
  cases t with
  | true => exact app a ρ st' (h1 rfl)
  | false => exact app b ρ st' (h2 rfl)
theorem wp_frz {i : Nat} {d : D} (h : getS ρ i = some d) (q : wp (evSs C r (ρ.set i (some (frz d))) st) Q) : wp (evSs C (.frz i :: r) ρ st) Q :=
  wp_next (by rw [evS_frz, h]) q
theorem wp_ret {e : E} (h : wp (evB C ρ e st) fun d st => Q (.ret d) st) : wp (evSs C (.ret e :: r) ρ st) Q := by
  refine wp_cons ?_
  rw [evS_ret, wp_bind]
  exact wp_mono h fun d st1 h => .of h
theorem wp_for {tg : Tg} {k : Ik} {src : List E} {b : List S} {ds items : List D} (I : Nat → Slots → Sto → Prop) (h : evs C ρ src st = .ok ds st') (hi : itemsOf st' k ds = some items) (hl : items.length ≤ 16777216) (h0 : I 0 ρ st')
    (go : ∀ i x ρ st, items[i]? = some x → I i ρ st → ∃ ρ1, asgT tg x ρ = some ρ1 ∧ wp (evSs C b ρ1 st) fun fw st1 => match fw with
      | .next ρ2 => still st' st1 ds = true ∧ I (i + 1) ρ2 st1
      | .cont ρ2 => still st' st1 ds = true ∧ I (i + 1) ρ2 st1
      | .brk ρ2 => wp (evSs C r ρ2 st1) Q
      | .ret d => Q (.ret d) st1) (fin : ∀ ρ st, I items.length ρ st → wp (evSs C r ρ st) Q) : wp (evSs C (.for tg k src b :: r) ρ st) Q := by
  refine wp_cons ?_
  rw [evS_for, h, bind_ok, hi, forOf_some hl]
  refine for_inv I items 0 ρ st' h0 (fun i x ρ1 st1 hx hI => ?_) fun ρ1 st1 hI => ?_
  · rw [Nat.zero_add] at hI ⊢
    exact go i x ρ1 st1 hx hI
  · rw [Nat.zero_add] at hI
    exact fin ρ1 st1 hI
end
/-! ### drawn from a list -/
def isIntIn (a b : Int) : D → Bool
  | .int n => decide (a ≤ n) && decide (n ≤ b)
  | _ => false
def isStrIn (k : Nat) : D → Bool
  | .str s => decide (s.length ≤ k)
  | _ => false
theorem pick_int {xs : List D} {i a b : Int} (h0 : 0 ≤ i) (h : i < xs.length) (ok : xs.all (isIntIn a b) = true) : ∃ n, atI xs i = some (.int n) ∧ a ≤ n ∧ n ≤ b := by
  have hm : xs[i.toNat]'(by omega) ∈ xs := List.getElem_mem _
  have h2 := List.all_eq_true.mp ok _ hm
  have h3 := atI_int h0 h
  generalize xs[i.toNat]'(by omega) = d at h2 h3
  cases d with
  | int n =>
    simp only [isIntIn, Bool.and_eq_true, decide_eq_true_eq] at h2
    exact ⟨n, h3, h2.1, h2.2⟩
  | _ => cases h2
theorem pick_str {xs : List D} {i : Int} {k : Nat} (h0 : 0 ≤ i) (h : i < xs.length) (ok : xs.all (isStrIn k) = true) : ∃ s : List Char, atI xs i = some (.str s) ∧ s.length ≤ k := by
  have hm : xs[i.toNat]'(by omega) ∈ xs := List.getElem_mem _
  have h2 := List.all_eq_true.mp ok _ hm
  have h3 := atI_int h0 h
  generalize xs[i.toNat]'(by omega) = d at h2 h3
  cases d with
  | str n => exact ⟨n, h3, of_decide_eq_true h2⟩
  | _ => cases h2
section
variable {C : Calls} {ρ ρ' : Slots} {st st' : Sto} {s : S} {r : List S} {Q : Fw → Sto → Prop}
theorem wp_nil (h : Q (.next ρ) st) : wp (evSs C [] ρ st) Q := .of h
theorem wp_mid (P : Slots → Sto → Prop) (h : wp (evS C s ρ st) fun fw st => match fw with
    | .next ρ => P ρ st
    | _ => False) (k : ∀ ρ st, P ρ st → wp (evSs C r ρ st) Q) : wp (evSs C (s :: r) ρ st) Q := by
  refine wp_cons (wp_mono h fun fw st1 h => ?_)
  cases fw with
  | next ρ => exact k _ _ h
  | _ => exact h.elim
theorem wp_if {c : E} {a b : List S} {t : Bool} (h : ev C ρ c st = .ok (.bl t) st') (h1 : t = true → wp (evSs C a ρ st') Q) (h2 : t = false → wp (evSs C b ρ st') Q) : wp (evS C (.iff c a b) ρ st) Q := by
  rw [evS_iff, h, bind_ok, ifD_bl]
  cases t with
  | true => exact h1 rfl
  | false => exact h2 rfl
end
section
variable {C : Calls} {ρ ρ' : Slots} {st st' : Sto} {s : S} {r : List S} {Q : Fw → Sto → Prop}
/-- .. where the store stays -/
theorem wp_midP (P : Slots → Prop) (h : wp (evS C s ρ st) fun fw st1 => st1 = st ∧ match fw with
    | .next ρ => P ρ
    | _ => False) (k : ∀ ρ, P ρ → wp (evSs C r ρ st) Q) : wp (evSs C (s :: r) ρ st) Q := by
  refine wp_cons (wp_mono h fun fw st1 h => ?_)
  obtain ⟨e, h⟩ := h
  subst e
  cases fw with
  | next ρ => exact k _ h
  | _ => exact h.elim
theorem wp_forP {tg : Tg} {k : Ik} {src : List E} {b : List S} {ds items : List D} (I : Nat → Slots → Prop) (h : evs C ρ src st = .ok ds st) (hi : itemsOf st k ds = some items) (hl : items.length ≤ 16777216) (hs : still st st ds = true) (h0 : I 0 ρ)
    (go : ∀ i x ρ, items[i]? = some x → I i ρ → ∃ ρ1, asgT tg x ρ = some ρ1 ∧ wp (evSs C b ρ1 st) fun fw st1 => match fw with
      | .next ρ2 => st1 = st ∧ I (i + 1) ρ2
      | .cont ρ2 => st1 = st ∧ I (i + 1) ρ2
      | .brk ρ2 => wp (evSs C r ρ2 st1) Q
      | .ret d => Q (.ret d) st1) (fin : ∀ ρ, I items.length ρ → wp (evSs C r ρ st) Q) : wp (evSs C (.for tg k src b :: r) ρ st) Q := by
  refine wp_for (st' := st) (fun i ρ st1 => st1 = st ∧ I i ρ) h hi hl ⟨rfl, h0⟩ (fun i x ρ st1 hx hI => ?_) fun ρ st1 hI => ?_
  · obtain ⟨e, hI⟩ := hI
    subst e
    obtain ⟨ρ1, h1, h2⟩ := go i x ρ hx hI
    refine ⟨ρ1, h1, wp_mono h2 fun fw st2 h3 => ?_⟩
    cases fw with
    | next ρ2 => obtain ⟨e, h3⟩ := h3; subst e; exact ⟨hs, rfl, h3⟩
    | cont ρ2 => obtain ⟨e, h3⟩ := h3; subst e; exact ⟨hs, rfl, h3⟩
    | _ => exact h3
  · obtain ⟨e, hI⟩ := hI
    subst e
    exact fin ρ hI
end
theorem mul_nr {st : Sto} {i : Int} {k : Nat} (h : k < 1000000) : opS st .mul (.int i) (.int k) = some (.int (i * k)) := op_mul_i (.inr ⟨by omega, by omega⟩)
theorem mul_nl {st : Sto} {i : Int} {k : Nat} (h : k < 1000000) : opS st .mul (.int k) (.int i) = some (.int (k * i)) := op_mul_i (.inl ⟨by omega, by omega⟩)
section
variable {C : Calls} {ρ ρ' : Slots} {st st' : Sto} {s : S} {r : List S} {Q : Fw → Sto → Prop}
/-- a loop that ends with a value at the first thing that isn't right -/
theorem wp_forall {α : Type} {tg : Tg} {k : Ik} {src : List E} {b : List S} {ds : List D} {xs : List α} {enc : α → D} (ok : α → Bool) (v : D) (I : Slots → Prop) (h : evs C ρ src st = .ok ds st) (hi : itemsOf st k ds = some (xs.map enc)) (hl : xs.length ≤ 16777216) (hs : still st st ds = true) (h0 : I ρ)
    (go : ∀ x ∈ xs, ∀ ρ, I ρ → ∃ ρ1, asgT tg (enc x) ρ = some ρ1 ∧ wp (evSs C b ρ1 st) fun fw st1 => st1 = st ∧ match fw with
      | .next ρ2 => ok x = true ∧ I ρ2
      | .cont ρ2 => ok x = true ∧ I ρ2
      | .ret d => ok x = false ∧ d = v
      | .brk _ => False) (fin : xs.all ok = true → ∀ ρ, I ρ → wp (evSs C r ρ st) Q) (bad : xs.all ok = false → Q (.ret v) st) : wp (evSs C (.for tg k src b :: r) ρ st) Q := by
  refine wp_forP (fun i ρ => I ρ ∧ (xs.take i).all ok = true) h hi (by rw [List.length_map]; exact hl) hs ⟨h0, by simp⟩ (fun i x ρ hx hI => ?_) fun ρ hI => ?_
  · rw [List.getElem?_map] at hx
    obtain ⟨y, hy, e⟩ := Option.map_eq_some_iff.mp hx
    subst e
    obtain ⟨ρ1, h1, h2⟩ := go y (List.mem_of_getElem? hy) ρ hI.1
    have nx : ok y = true → (xs.take (i + 1)).all ok = true := fun hk => by
      rw [List.take_add_one, hy, List.all_append, hI.2]
      simp [hk]
    refine ⟨ρ1, h1, wp_mono h2 fun fw st1 h3 => ?_⟩
    obtain ⟨e, h3⟩ := h3
    cases fw with
    | next ρ2 => exact ⟨e, h3.2, nx h3.1⟩
    | cont ρ2 => exact ⟨e, h3.2, nx h3.1⟩
    | ret d =>
      rw [e, h3.2]
      refine bad ?_
      rw [List.all_eq_false]
      exact ⟨y, List.mem_of_getElem? hy, by rw [h3.1]; simp⟩
    | brk _ => exact h3.elim
  · rw [List.length_map, List.take_length] at hI
    exact fin hI.2 ρ hI.1
end
@[simp] theorem asgT_two {i j : Nat} {a b : D} {ρ : Slots} : asgT (.many [i, j]) (.tup [a, b]) ρ = some ((ρ.set i (some a)).set j (some b)) := rfl
@[simp] theorem asgT_three {i j k : Nat} {a b c : D} {ρ : Slots} : asgT (.many [i, j, k]) (.tup [a, b, c]) ρ = some (((ρ.set i (some a)).set j (some b)).set k (some c)) := rfl
@[simp] theorem asgT_four {i j k l : Nat} {a b c d : D} {ρ : Slots} : asgT (.many [i, j, k, l]) (.tup [a, b, c, d]) ρ = some ((((ρ.set i (some a)).set j (some b)).set k (some c)).set l (some d)) := rfl
@[simp] theorem asgT_five {i j k l m : Nat} {a b c d e : D} {ρ : Slots} : asgT (.many [i, j, k, l, m]) (.tup [a, b, c, d, e]) ρ = some (((((ρ.set i (some a)).set j (some b)).set k (some c)).set l (some d)).set m (some e)) := rfl
@[simp] theorem fl_beq (a b : Fl) : (a == b) = decide (a = b) := rfl
@[simp] theorem cl_beq (a b : Cl) : (a == b) = decide (a = b) := rfl
theorem rgCw_get : ∀ {n k : Nat} {a c : Int}, k < n → (rangeC a c n)[k]? = some (.int (a + k * c))
  | 0, k, _, _, h => by omega
  | n + 1, 0, a, c, _ => by simp [rangeC]
  | n + 1, k + 1, a, c, h => by
    simp only [rangeC, List.getElem?_cons_succ]
    rw [rgCw_get (by omega)]
    congr 2
    have : ((k + 1 : Nat) : Int) * c = k * c + c := by
      rw [Int.natCast_add, Int.add_mul]; simp
    rw [this]; omega
theorem rgCw_len : ∀ {n : Nat} {a c : Int}, (rangeC a c n).length = n
  | 0, _, _ => rfl
  | n + 1, a, c => by simp [rangeC, rgCw_len]
theorem rangeC_inv {n k : Nat} {a c : Int} {x : D} (h : (rangeC a c n)[k]? = some x) : x = .int (a + k * c) ∧ k < n := by
  have hk := (List.getElem?_eq_some_iff.mp h).1
  rw [rgCw_len] at hk
  rw [rgCw_get hk] at h
  exact ⟨(Option.some.inj h).symm, hk⟩
theorem range3_items {st : Sto} {a b c : Int} (h1 : -(2 ^ 20) ≤ a ∧ a < 2 ^ 20) (h2 : -(2 ^ 20) ≤ b ∧ b < 2 ^ 20) (h3 : 0 < c ∧ c < 2 ^ 20) : itemsOf st .range [.int a, .int b, .int c] = some (rangeC a c ((b - a + c - 1) / c).toNat) := by
  simp only [itemsOf]
  rw [if_pos ⟨by omega, by omega, by omega, by omega, by omega, by omega, by omega⟩]
theorem sc_at {ns : List Int} {i : Int} (h0 : 0 ≤ i) (h : i < ns.length) : ∃ z, atI (ns.map .int) i = some (.int z) := by
  rw [atI_int h0 (by simpa using h)]
  simp
theorem mem_ints {ns : List Int} {x : D} (h : x ∈ ns.map D.int) : ∃ i, x = .int i := by
  obtain ⟨i, _, e⟩ := List.mem_map.mp h
  exact ⟨i, e.symm⟩
end CM
end
section
set_option linter.all false
namespace CM
theorem lawOk_of {pg : PG} {n q : Nat} (h : ∀ ns : List Int, ns.length ≤ 63 → wp (runP pg.ds n q [.sc (ns.map .int)] []) fun d _ => d = .bl true) : LawOk pg n q := by
  intro ns hl _
  have h := (h ns hl).run
  revert h
  cases runP pg.ds n q [.sc (ns.map .int)] [] with
  | ok d st => intro h; have h : d = .bl true := h; subst h; trivial
  | top => intro _; trivial
  | bad => exact fun h => h.elim
  | err _ _ => exact fun h => h.elim
end CM
end
section
set_option linter.all false
set_option maxRecDepth 100000
/-! Defs that laws share, printed by mkpr.py. -/
namespace CM.Pr
open CM
/-- 0 text 1 many -/
def fn_figures_in : List S := [.asg (.one 1) (.int 0), .while (.and [.op .lt (.var 1) (.bi .len [.var 0]), .op .isin (.op .idx (.var 0) (.var 1)) (.glob "FIGURES" ['0', '1', '2', '3', '4', '5', '6', '7', '8', '9'])]) [.aug 1 .add (.int 1)], .ret (.var 1)]
/-- 0 text 1 many -/
def fn_figures_in_2 : List S := [.asg (.one 1) (.int 0), .while (.and [.op .lt (.var 1) (.bi .len [.var 0]), .op .isin (.op .idx (.var 0) (.var 1)) (.glob "FIGURES_labels" ['0', '1', '2', '3', '4', '5', '6', '7', '8', '9'])]) [.aug 1 .add (.int 1)], .ret (.var 1)]
/-- 0 thing 1 many 2 sign -/
def fn_is_label : List S := [.iff (.not (.isi (.var 0) [.str])) [.ret (.bl false)] [], .asg (.one 1) (.call 0 [.var 0]), .iff (.or [.op .lt (.var 1) (.int 1), .op .gt (.var 1) (.int 9), .op .eq (.op .idx (.var 0) (.int 0)) (.str ['0']), .op .gt (.bi .len [.var 0]) (.op .add (.var 1) (.int 3))]) [.ret (.bl false)] [], .ret (.bi .all [.comp (.op .isin (.var 2) (.glob "LETTERS" ['a', 'b', 'c', 'd', 'e', 'f', 'g', 'h', 'i', 'j', 'k', 'l', 'm', 'n', 'o', 'p', 'q', 'r', 's', 't', 'u', 'v', 'w', 'x', 'y', 'z'])) (.one 2) .seq [.slice (.var 0) (some (.var 1)) none] []])]
/-- 0 thing 1 sign -/
def fn_is_word : List S := [.iff (.or [.not (.isi (.var 0) [.str]), .op .lt (.bi .len [.var 0]) (.int 1), .op .gt (.bi .len [.var 0]) (.int 12)]) [.ret (.bl false)] [], .ret (.bi .all [.comp (.or [.op .isin (.var 1) (.glob "LETTERS" ['a', 'b', 'c', 'd', 'e', 'f', 'g', 'h', 'i', 'j', 'k', 'l', 'm', 'n', 'o', 'p', 'q', 'r', 's', 't', 'u', 'v', 'w', 'x', 'y', 'z']), .op .isin (.var 1) (.glob "FIGURES" ['0', '1', '2', '3', '4', '5', '6', '7', '8', '9'])]) (.one 1) .seq [.var 0] []])]
/-- 0 thing 1 sign -/
def fn_is_word_2 : List S := [.iff (.or [.not (.isi (.var 0) [.str]), .op .lt (.bi .len [.var 0]) (.int 1), .op .gt (.bi .len [.var 0]) (.int 12)]) [.ret (.bl false)] [], .ret (.bi .all [.comp (.or [.op .isin (.var 1) (.glob "LETTERS" ['a', 'b', 'c', 'd', 'e', 'f', 'g', 'h', 'i', 'j', 'k', 'l', 'm', 'n', 'o', 'p', 'q', 'r', 's', 't', 'u', 'v', 'w', 'x', 'y', 'z']), .op .isin (.var 1) (.glob "FIGURES_labels" ['0', '1', '2', '3', '4', '5', '6', '7', '8', '9'])]) (.one 1) .seq [.var 0] []])]
/-- 0 label 1 many -/
def fn_rank_of : List S := [.asg (.one 1) (.call 0 [.var 0]), .ret (.tup [.bi .int [.slice (.var 0) none (some (.var 1))], .slice (.var 0) (some (.var 1)) none])]
/-- 0 one 1 other -/
def fn_label_before : List S := [.ret (.op .lt (.call 0 [.var 0]) (.call 0 [.var 1]))]
/-- 0 _law_cell 1 _law_number -/
def fn_law_label : List S := [.asg (.one 1) (.op .idx (.lst [.int 1, .int 2, .int 3, .int 10, .op .add (.int 1) (.op .mod (.op .mul (.op .fdiv (.var 0) (.int 40)) (.int 48271)) (.int 999999999))]) (.op .mod (.var 0) (.int 5))), .ret (.op .add (.bi .str [.var 1]) (.op .idx (.lst [.str [], .str ['a'], .str [], .str ['b'], .str ['a', 'a'], .str [], .str ['a', 'z'], .str ['z', 'z', 'z']]) (.op .mod (.op .fdiv (.var 0) (.int 5)) (.int 8))))]
/-- 0 _law_cell 1 _law_number -/
def fn_law_label_2 : List S := [.asg (.one 1) (.op .add (.int 1) (.op .mod (.var 0) (.int 4))), .iff (.op .eq (.op .mod (.op .fdiv (.var 0) (.int 4)) (.int 5)) (.int 4)) [.asg (.one 1) (.op .add (.int 1) (.op .mod (.op .mul (.op .fdiv (.var 0) (.int 20)) (.int 48271)) (.int 999999999)))] [], .ret (.op .add (.bi .str [.var 1]) (.op .idx (.lst [.str [], .str [], .str ['a'], .str ['b'], .str ['a', 'a'], .str ['z', 'z'], .str ['c', 'b', 'a']]) (.op .mod (.op .fdiv (.var 0) (.int 8)) (.int 7))))]
/-- 0 _law_number_here -/
def fn_law_label_3 : List S := [.iff (.op .eq (.op .mod (.var 0) (.int 7)) (.int 0)) [.ret (.op .add (.bi .str [.op .add (.int 1) (.op .mod (.op .fdiv (.var 0) (.int 7)) (.int 999999999))]) (.op .idx (.lst [.str [], .str ['a'], .str ['z', 'z'], .str ['a', 'b', 'c']]) (.op .mod (.op .fdiv (.var 0) (.int 49)) (.int 4))))] [], .ret (.op .idx (.lst [.str ['1'], .str ['2'], .str ['2', 'a'], .str ['3'], .str ['1', '0'], .str ['3', 'b']]) (.op .mod (.op .fdiv (.var 0) (.int 7)) (.int 6)))]
/-- 0 _law_number -/
def fn_law_label_4 : List S := [.iff (.op .eq (.op .mod (.var 0) (.int 5)) (.int 0)) [.ret (.bi .str [.op .add (.int 1) (.op .mod (.op .fdiv (.var 0) (.int 5)) (.int 999999999))])] [], .ret (.op .add (.bi .str [.op .add (.int 1) (.op .mod (.op .fdiv (.var 0) (.int 5)) (.int 4))]) (.op .idx (.lst [.str [], .str [], .str ['a'], .str ['b'], .str ['a', 'a'], .str ['z', 'z', 'z']]) (.op .mod (.op .fdiv (.var 0) (.int 20)) (.int 6))))]
/-- 0 thing 1 left 2 words 3 kids 4 word 5 kid 6 k -/
def fn_has_parts : List S := [.asg (.one 2) (.op .idx (.var 0) (.int 1)), .asg (.one 3) (.op .idx (.var 0) (.int 2)), .iff (.or [.not (.isi (.var 2) [.tuple]), .not (.isi (.var 3) [.tuple])]) [.ret (.bl false)] [], .iff (.or [.not (.bi .all [.comp (.call 0 [.var 4]) (.one 4) .seq [.var 2] []]), .and [.op .ne (.var 3) (.tup []), .op .eq (.var 1) (.int 0)]]) [.ret (.bl false)] [], .for (.one 5) .seq [.var 3] [.iff (.not (.call 1 [.var 5, .var 1])) [.ret (.bl false)] []], .for (.one 6) .range [.int 1, .bi .len [.var 3]] [.iff (.not (.call 2 [.op .idx (.op .idx (.var 3) (.op .sub (.var 6) (.int 1))) (.int 0), .op .idx (.op .idx (.var 3) (.var 6)) (.int 0)])) [.ret (.bl false)] []], .ret (.bl true)]
/-- 0 thing 1 left -/
def fn_is_node : List S := [.iff (.or [.not (.isi (.var 0) [.tuple]), .op .ne (.bi .len [.var 0]) (.int 3), .not (.call 0 [.op .idx (.var 0) (.int 0)])]) [.ret (.bl false)] [], .ret (.call 1 [.var 0, .op .sub (.var 1) (.int 1)])]
/-- 0 thing -/
def fn_is_tree : List S := [.iff (.or [.not (.isi (.var 0) [.tuple]), .op .ne (.bi .len [.var 0]) (.int 3)]) [.ret (.bl false)] [], .iff (.or [.not (.isi (.op .idx (.var 0) (.int 0)) [.str]), .op .ne (.op .idx (.var 0) (.int 0)) (.str [])]) [.ret (.bl false)] [], .ret (.call 0 [.var 0, .op .sub (.globi "DEEPEST" 9) (.int 1)])]
/-- 0 thing -/
def fn_is_tree_2 : List S := [.iff (.or [.not (.isi (.var 0) [.tuple]), .op .ne (.bi .len [.var 0]) (.int 3)]) [.ret (.bl false)] [], .iff (.or [.not (.isi (.op .idx (.var 0) (.int 0)) [.str]), .op .ne (.op .idx (.var 0) (.int 0)) (.str [])]) [.ret (.bl false)] [], .ret (.call 0 [.var 0, .op .sub (.globi "DEEPEST_trees" 9) (.int 1)])]
/-- 0 _law_script 1 _law_k -/
def fn_law_cell_at : List S := [.iff (.op .lt (.var 1) (.bi .len [.var 0])) [.ret (.op .idx (.var 0) (.var 1))] [], .ret (.int 0)]
/-- 0 _law_cell 1 _law_word_here 2 _law_k 3 _law_at_here -/
def fn_law_word : List S := [.asg (.one 1) (.op .idx (.str ['a', 'b', '1', 'z']) (.op .mod (.var 0) (.int 4))), .for (.one 2) .range [.op .idx (.lst [.int 0, .int 0, .int 1, .int 11]) (.op .mod (.op .fdiv (.var 0) (.int 4)) (.int 4))] [.asg (.one 3) (.op .add (.op .fdiv (.var 0) (.int 16)) (.op .mul (.var 2) (.op .add (.int 1) (.op .mod (.op .fdiv (.var 0) (.int 5)) (.int 7))))), .asg (.one 1) (.op .add (.var 1) (.op .idx (.str ['a', 'b', 'c', 'd', 'e', 'f', 'g', 'h', 'i', 'j', 'k', 'l', 'm', 'n', 'o', 'p', 'q', 'r', 's', 't', 'u', 'v', 'w', 'x', 'y', 'z', '0', '1', '2', '3', '4', '5', '6', '7', '8', '9']) (.op .mod (.var 3) (.int 36))))], .ret (.var 1)]
/-- 0 _law_cell 1 _law_word_here 2 _law_k 3 _law_at -/
def fn_law_word_2 : List S := [.asg (.one 1) (.op .idx (.str ['a', 'b', 'z', '0', '1', '9', 'k', 'q']) (.op .mod (.var 0) (.int 8))), .for (.one 2) .range [.op .idx (.lst [.int 0, .int 0, .int 2, .int 11]) (.op .mod (.op .fdiv (.var 0) (.int 8)) (.int 4))] [.asg (.one 3) (.op .add (.op .fdiv (.var 0) (.int 32)) (.op .mul (.var 2) (.op .add (.int 1) (.op .mod (.op .fdiv (.var 0) (.int 7)) (.int 5))))), .asg (.one 1) (.op .add (.var 1) (.op .idx (.str ['a', 'b', 'c', 'd', 'e', 'f', 'g', 'h', 'i', 'j', 'k', 'l', 'm', 'n', 'o', 'p', 'q', 'r', 's', 't', 'u', 'v', 'w', 'x', 'y', 'z', '0', '1', '2', '3', '4', '5', '6', '7', '8', '9']) (.op .mod (.var 3) (.int 36))))], .ret (.var 1)]
/-- 0 _law_number_here 1 _law_word_here 2 _law_some 3 _law_j -/
def fn_law_word_3 : List S := [.iff (.op .gt (.op .mod (.var 0) (.int 5)) (.int 0)) [.ret (.op .idx (.lst [.str ['a'], .str ['b'], .str ['c'], .str ['a', 'l', 'l']]) (.op .mod (.op .fdiv (.var 0) (.int 5)) (.int 4)))] [], .asg (.one 1) (.str []), .asg (.one 2) (.str ['a', 'b', 'c', 'd', 'e', 'f', 'g', 'h', 'i', 'j', 'k', 'l', 'm', 'n', 'o', 'p', 'q', 'r', 's', 't', 'u', 'v', 'w', 'x', 'y', 'z', '0', '1', '2', '3', '4', '5', '6', '7', '8', '9']), .for (.one 3) .range [.op .add (.int 1) (.op .mod (.op .fdiv (.var 0) (.int 5)) (.int 12))] [.asg (.one 1) (.op .add (.var 1) (.op .idx (.var 2) (.op .mod (.op .fdiv (.var 0) (.op .add (.int 7) (.op .mul (.var 3) (.var 3)))) (.int 36))))], .ret (.var 1)]
/-- 0 _law_number 1 _law_signs 2 _law_size 3 _law_k -/
def fn_law_word_4 : List S := [.iff (.op .ne (.op .mod (.var 0) (.int 3)) (.int 1)) [.ret (.op .idx (.str ['a', 'b', 'x']) (.op .mod (.op .fdiv (.var 0) (.int 3)) (.int 3)))] [], .asg (.one 1) (.str ['a', 'b', 'c', 'd', 'e', 'f', 'g', 'h', 'i', 'j', 'k', 'l', 'm', 'n', 'o', 'p', 'q', 'r', 's', 't', 'u', 'v', 'w', 'x', 'y', 'z', '0', '1', '2', '3', '4', '5', '6', '7', '8', '9']), .asg (.one 2) (.op .add (.int 1) (.op .mod (.op .fdiv (.var 0) (.int 3)) (.int 12))), .ret (.bm .join (.str []) [.comp (.op .idx (.var 1) (.op .mod (.op .mod (.op .mul (.op .fdiv (.var 0) (.op .add (.var 3) (.int 4))) (.int 48271)) (.int 2147483647)) (.int 36))) (.one 3) .range [.var 2] []])]
/-- 0 _law_cell 1 _law_k -/
def fn_law_words : List S := [.ret (.bi .tuple [.comp (.call 0 [.op .add (.op .fdiv (.var 0) (.int 5)) (.op .mul (.var 1) (.op .add (.int 1) (.op .mod (.op .fdiv (.var 0) (.int 20)) (.int 3))))]) (.one 1) .range [.op .mod (.var 0) (.int 5)] []])]
/-- 0 _law_cell 1 _law_k -/
def fn_law_words_2 : List S := [.ret (.bi .tuple [.comp (.call 0 [.op .add (.op .fdiv (.var 0) (.op .add (.int 1) (.op .mul (.int 2) (.var 1)))) (.var 1)]) (.one 1) .range [.op .mod (.var 0) (.int 5)] []])]
/-- 0 _law_cell 1 _law_k 2 _law_many 3 _law_j -/
def fn_law_words_3 : List S := [.asg (.one 2) (.op .mod (.call 0 [.var 0, .var 1]) (.int 5)), .ret (.bi .tuple [.comp (.call 1 [.call 0 [.var 0, .op .add (.op .add (.var 1) (.int 1)) (.var 3)]]) (.one 3) .range [.var 2] []])]
/-- 0 _law_number 1 _law_many 2 _law_k -/
def fn_law_words_4 : List S := [.asg (.one 1) (.op .mod (.var 0) (.int 4)), .ret (.bi .tuple [.comp (.call 0 [.op .mod (.op .mul (.op .fdiv (.var 0) (.op .add (.op .mul (.int 5) (.var 2)) (.int 1))) (.int 16807)) (.int 2147483647)]) (.one 2) .range [.var 1] []])]
/-- 0 _law_label_here 1 _law_at_here -/
def fn_law_key : List S := [.asg (.one 1) (.int 0), .while (.and [.op .lt (.var 1) (.bi .len [.var 0]), .op .isin (.op .idx (.var 0) (.var 1)) (.str ['0', '1', '2', '3', '4', '5', '6', '7', '8', '9'])]) [.asg (.one 1) (.op .add (.var 1) (.int 1))], .ret (.tup [.bi .int [.slice (.var 0) none (some (.var 1))], .slice (.var 0) (some (.var 1)) none])]
/-- 0 _law_label_here 1 _law_figures -/
def fn_law_key_2 : List S := [.asg (.one 1) (.bm .rstrip (.var 0) [.str ['a', 'b', 'c', 'd', 'e', 'f', 'g', 'h', 'i', 'j', 'k', 'l', 'm', 'n', 'o', 'p', 'q', 'r', 's', 't', 'u', 'v', 'w', 'x', 'y', 'z']]), .ret (.tup [.bi .int [.var 1], .slice (.var 0) (some (.bi .len [.var 1])) none])]
/-- 0 _law_cells 1 _law_nodes_here 2 _law_made 3 _law_cell 4 _law_above 5 _law_place -/
def fn_law_nodes : List S := [.asg (.one 1) (.dct1 true (.tup []) (.tup [.str ['a', 'l', 'l']])), .asg (.one 2) (.lst [.tup []]), .for (.one 3) .seq [.var 0] [.asg (.one 4) (.op .idx (.var 2) (.op .mod (.op .add (.op .fdiv (.var 3) (.int 120)) (.op .mod (.var 3) (.int 120))) (.bi .len [.var 2]))), .asg (.one 5) (.op .add (.var 4) (.tup [.call 0 [.op .fdiv (.var 3) (.int 3)]])), .iff (.or [.op .gt (.bi .len [.var 5]) (.int 8), .op .eq (.op .mod (.var 3) (.int 7)) (.int 6)]) [.asg (.one 5) (.var 4)] [], .iff (.op .notin (.var 5) (.var 1)) [.append (.var 2) (.var 5)] [], .setI (.var 1) (.var 5) (.call 1 [.op .fdiv (.var 3) (.int 2)])], .ret (.var 1)]
/-- 0 _law_cells 1 _law_nodes_here 2 _law_made 3 _law_cell 4 _law_parent 5 _law_place -/
def fn_law_nodes_2 : List S := [.asg (.one 1) (.dct1 true (.tup []) (.tup [])), .asg (.one 2) (.lst [.tup []]), .for (.one 3) .seq [.var 0] [.asg (.one 4) (.op .idx (.var 2) (.op .mod (.op .fdiv (.var 3) (.int 3)) (.bi .len [.var 2]))), .iff (.op .eq (.bi .len [.var 4]) (.int 8)) [.asg (.one 4) (.tup [])] [], .asg (.one 5) (.op .add (.var 4) (.tup [.call 0 [.op .fdiv (.var 3) (.int 2)]])), .iff (.op .eq (.op .mod (.var 3) (.int 7)) (.int 6)) [.asg (.one 5) (.var 4)] [], .iff (.op .notin (.var 5) (.var 1)) [.append (.var 2) (.var 5)] [], .setI (.var 1) (.var 5) (.call 1 [.op .fdiv (.var 3) (.int 5)])], .ret (.var 1)]
/-- 0 _law_nodes_here 1 _law_place 2 _law_kids 3 _law_other 4 _law_kid 5 _law_label_here -/
def fn_law_tree : List S := [.asg (.one 2) (.comp (.var 3) (.one 3) .keys [.var 0] [.and [.op .eq (.bi .len [.var 3]) (.op .add (.bi .len [.var 1]) (.int 1)), .op .eq (.slice (.var 3) none (some (.neg (.int 1)))) (.var 1)]]), .asg (.one 2) (.sortl 4 (.call 0 [.op .idx (.var 4) (.neg (.int 1))]) (.var 2)), .asg (.one 5) (.str []), .iff (.op .ne (.var 1) (.tup [])) [.asg (.one 5) (.op .idx (.var 1) (.neg (.int 1)))] [], .ret (.tup [.var 5, .op .idx (.var 0) (.var 1), .bi .tuple [.comp (.call 1 [.var 0, .var 4]) (.one 4) .seq [.var 2] []]])]
/-- 0 _law_nodes_here 1 _law_place 2 _law_label_here 3 _law_kids_here 4 _law_kid -/
def fn_law_tree_2 : List S := [.asg (.one 2) (.str []), .iff (.op .ne (.var 1) (.tup [])) [.asg (.one 2) (.op .idx (.var 1) (.neg (.int 1)))] [], .asg (.one 3) (.comp (.call 0 [.var 0, .op .add (.var 1) (.tup [.var 4])]) (.one 4) .seq [.call 1 [.var 0, .var 1]] []), .ret (.tup [.var 2, .op .idx (.var 0) (.var 1), .bi .tuple [.var 3]])]
/-- 0 _law_rooms 1 _law_place_here 2 _law_kids 3 _law_label_here -/
def fn_law_tree_3 : List S := [.asg (.one 2) (.comp (.call 0 [.var 0, .op .add (.var 1) (.tup [.var 3])]) (.one 3) .seq [.call 1 [.var 0, .var 1]] []), .ret (.tup [.op .idx (.op .add (.lst [.str []]) (.bi .list [.var 1])) (.neg (.int 1)), .op .idx (.var 0) (.var 1), .bi .tuple [.var 2]])]
/-- 0 _law_cells 1 _law_tree_here 2 _law_cell -/
def fn_law_tree_4 : List S := [.asg (.one 1) (.tup [.str [], .tup [], .tup []]), .for (.one 2) .seq [.var 0] [.asg (.one 1) (.call 0 [.var 1, .var 2])], .ret (.var 1)]
/-- 0 node 1 label 2 kid -/
def fn_kid_of : List S := [.for (.one 2) .seq [.op .idx (.var 0) (.int 2)] [.iff (.op .eq (.op .idx (.var 2) (.int 0)) (.var 1)) [.ret (.var 2)] []], .ret .non]
/-- 0 tree 1 place 2 node 3 label -/
def fn_node_at : List S := [.asg (.one 2) (.var 0), .for (.one 3) .seq [.var 1] [.iff (.notN (.var 2)) [.asg (.one 2) (.call 0 [.var 2, .var 3])] []], .ret (.var 2)]
/-- 0 node 1 place 2 found 3 kid -/
def fn_places_from : List S := [.asg (.one 2) (.lst [.var 1]), .for (.one 3) .seq [.op .idx (.var 0) (.int 2)] [.extend (.var 2) (.call 0 [.var 3, .op .add (.var 1) (.tup [.op .idx (.var 3) (.int 0)])])], .ret (.var 2)]
/-- 0 tree -/
def fn_places : List S := [.ret (.call 0 [.var 0, .tup []])]
/-- 0 node 1 kid -/
def fn_deep : List S := [.ret (.op .add (.int 1) (.bi .maxd [.comp (.call 0 [.var 1]) (.one 1) .seq [.op .idx (.var 0) (.int 2)] [], .int 0]))]
/-- 0 _law_nodes_here 1 _law_cell 2 _law_some 3 _law_place_here -/
def fn_law_place : List S := [.asg (.one 2) (.bi .list [.var 0]), .asg (.one 3) (.op .idx (.var 2) (.op .mod (.op .add (.op .fdiv (.var 1) (.int 4)) (.op .mul (.op .mod (.var 1) (.int 4)) (.int 3))) (.bi .len [.var 2]))), .iff (.op .eq (.op .mod (.var 1) (.int 4)) (.int 3)) [.ret (.op .add (.slice (.var 3) none (some (.neg (.int 1)))) (.tup [.call 0 [.op .fdiv (.var 1) (.int 4)]]))] [], .iff (.and [.op .eq (.op .mod (.var 1) (.int 16)) (.int 6), .op .lt (.bi .len [.var 3]) (.int 8)]) [.ret (.op .add (.var 3) (.tup [.call 0 [.op .fdiv (.var 1) (.int 16)]]))] [], .ret (.var 3)]
/-- 0 _law_spots_here 1 _law_number_here 2 _law_place_here -/
def fn_law_place_2 : List S := [.asg (.one 2) (.op .idx (.var 0) (.op .mod (.var 1) (.bi .len [.var 0]))), .iff (.op .eq (.op .mod (.op .fdiv (.var 1) (.int 64)) (.int 4)) (.int 1)) [.asg (.one 2) (.op .add (.var 2) (.tup [.call 0 [.call 1 [.var 1, .int 70]]]))] [], .iff (.op .eq (.op .mod (.op .fdiv (.var 1) (.int 64)) (.int 8)) (.int 2)) [.asg (.one 2) (.op .add (.slice (.var 2) none (some (.neg (.int 1)))) (.tup [.op .idx (.lst [.str ['1'], .str ['2'], .str ['3']]) (.op .mod (.op .fdiv (.var 1) (.int 512)) (.int 3))]))] [], .ret (.var 2)]
/-- 0 _law_found 1 _law_due 2 _law_one 3 _law_other -/
def fn_law_same : List S := [.iff (.isi (.var 1) [.str]) [.ret (.and [.isi (.var 0) [.str], .op .eq (.var 0) (.var 1)])] [], .iff (.isi (.var 1) [.tuple]) [.iff (.not (.isi (.var 0) [.tuple])) [.ret (.bl false)] []] [.iff (.not (.isi (.var 0) [.list])) [.ret (.bl false)] []], .iff (.op .ne (.bi .len [.var 0]) (.bi .len [.var 1])) [.ret (.bl false)] [], .for (.many [2, 3]) .zip [.var 0, .var 1] [.iff (.not (.call 0 [.var 2, .var 3])) [.ret (.bl false)] []], .ret (.bl true)]
/-- 0 self 1 place -/
def fn_NoPlace___init__ : List S := [.setF (.var 0) .place (.var 1)]
/-- 0 self 1 why -/
def fn_NoFit___init__ : List S := [.setF (.var 0) .why (.var 1)]
/-- 0 self 1 name -/
def fn_NoAct___init__ : List S := [.setF (.var 0) .name (.var 1)]
/-- 0 tree 1 place 2 node 3 kids 4 kid -/
def fn_with_node : List S := [.iff (.op .eq (.var 1) (.tup [])) [.ret (.var 2)] [], .asg (.one 3) (.lst []), .for (.one 4) .seq [.op .idx (.var 0) (.int 2)] [.iff (.op .eq (.op .idx (.var 4) (.int 0)) (.op .idx (.var 1) (.int 0))) [.append (.var 3) (.call 0 [.var 4, .slice (.var 1) (some (.int 1)) none, .var 2])] [.append (.var 3) (.var 4)]], .ret (.tup [.op .idx (.var 0) (.int 0), .op .idx (.var 0) (.int 1), .bi .tuple [.var 3]])]
/-- 0 tree 1 place 2 node -/
def fn_there_at : List S := [.asg (.one 2) (.call 0 [.var 0, .var 1]), .iff (.isN (.var 2)) [.raise .NoPlace none [.var 1]] [], .ret (.var 2)]
/-- 0 tree 1 place 2 words 3 node -/
def fn_with_words : List S := [.asg (.one 3) (.call 0 [.var 0, .var 1]), .ret (.call 1 [.var 0, .var 1, .tup [.op .idx (.var 3) (.int 0), .var 2, .op .idx (.var 3) (.int 2)]])]
/-- 0 tree 1 place 2 node 3 above 4 ahead 5 kid 6 kids -/
def fn_with_kid : List S := [.asg (.one 3) (.call 0 [.var 0, .var 1]), .iff (.notN (.call 1 [.var 3, .op .idx (.var 2) (.int 0)])) [.raise .NoPlace none [.var 1]] [], .asg (.one 4) (.comp (.var 5) (.one 5) .seq [.op .idx (.var 3) (.int 2)] [.call 2 [.op .idx (.var 5) (.int 0), .op .idx (.var 2) (.int 0)]]), .asg (.one 6) (.bi .tuple [.op .add (.op .add (.var 4) (.lst [.var 2])) (.bi .list [.slice (.op .idx (.var 3) (.int 2)) (some (.bi .len [.var 4])) none])]), .ret (.call 3 [.var 0, .var 1, .tup [.op .idx (.var 3) (.int 0), .op .idx (.var 3) (.int 1), .var 6]])]
/-- 0 tree 1 place 2 above 3 kids 4 kid -/
def fn_without : List S := [.iff (.op .eq (.var 1) (.tup [])) [.raise .NoPlace none [.var 1]] [], .expr (.call 0 [.var 0, .var 1]), .asg (.one 2) (.call 0 [.var 0, .slice (.var 1) none (some (.neg (.int 1)))]), .asg (.one 3) (.bi .tuple [.comp (.var 4) (.one 4) .seq [.op .idx (.var 2) (.int 2)] [.op .ne (.op .idx (.var 4) (.int 0)) (.op .idx (.var 1) (.neg (.int 1)))]]), .ret (.call 1 [.var 0, .slice (.var 1) none (some (.neg (.int 1))), .tup [.op .idx (.var 2) (.int 0), .op .idx (.var 2) (.int 1), .var 3]])]
/-- 0 _law_cells 1 _law_cell 2 _law_nodes_here 3 _law_few 4 _law_place_here 5 _law_tree_here -/
def fn_law_kid : List S := [.asg (.one 2) (.call 0 [.var 0]), .asg (.one 3) (.dct true), .frz 2, .for (.one 4) .keys [.var 2] [.iff (.op .lt (.bi .len [.var 4]) (.int 3)) [.setI (.var 3) (.var 4) (.op .idx (.var 2) (.var 4))] []], .frz 3, .asg (.one 5) (.call 1 [.var 3, .tup []]), .ret (.tup [.call 2 [.var 1], .op .idx (.var 5) (.int 1), .op .idx (.var 5) (.int 2)])]
/-- 0 _law_node_here 1 _law_label_here 2 _law_kid_here -/
def fn_law_kid_2 : List S := [.for (.one 2) .seq [.op .idx (.var 0) (.int 2)] [.iff (.op .eq (.op .idx (.var 2) (.int 0)) (.var 1)) [.ret (.var 2)] []], .ret .non]
/-- 0 _law_nodes_here 1 _law_place_here 2 _law_node 3 _law_kid_here -/
def fn_law_laid : List S := [.setI (.var 0) (.var 1) (.op .idx (.var 2) (.int 1)), .for (.one 3) .seq [.op .idx (.var 2) (.int 2)] [.expr (.call 0 [.var 0, .op .add (.var 1) (.tup [.op .idx (.var 3) (.int 0)]), .var 3])]]
/-- 0 _law_nodes_here 1 _law_place_here 2 _law_other -/
def fn_law_gone : List S := [.ret (.dictOf (.comp (.tup [.var 2, .op .idx (.var 0) (.var 2)]) (.one 2) .keys [.var 0] [.op .ne (.slice (.var 2) none (some (.bi .len [.var 1]))) (.var 1)]))]
/-- 0 _law_node 1 _law_kid_here 2 _law_kids 3 _law_one -/
def fn_law_with : List S := [.asg (.one 2) (.sortl 3 (.call 0 [.op .idx (.var 3) (.int 0)]) (.op .add (.bi .list [.op .idx (.var 0) (.int 2)]) (.lst [.var 1]))), .ret (.tup [.op .idx (.var 0) (.int 0), .op .idx (.var 0) (.int 1), .bi .tuple [.var 2]])]
/-- 0 _law_node 1 _law_label_here 2 _law_kid_here -/
def fn_law_less : List S := [.ret (.tup [.op .idx (.var 0) (.int 0), .op .idx (.var 0) (.int 1), .bi .tuple [.comp (.var 2) (.one 2) .seq [.op .idx (.var 0) (.int 2)] [.op .ne (.op .idx (.var 2) (.int 0)) (.var 1)]]])]
/-- 0 place -/
def fn_place_text : List S := [.iff (.op .eq (.var 0) (.tup [])) [.ret (.str ['.'])] [], .ret (.bm .join (.str ['.']) [.var 0])]
/-- 0 text 1 labels 2 label -/
def fn_read_place : List S := [.iff (.not (.isi (.var 0) [.str])) [.raise .NoPlace none [.non]] [], .iff (.op .eq (.var 0) (.str ['.'])) [.ret (.tup [])] [], .asg (.one 1) (.bm .split (.var 0) [.str ['.']]), .iff (.op .gt (.bi .len [.var 1]) (.int 8)) [.raise .NoPlace none [.non]] [], .frz 1, .for (.one 2) .seq [.var 1] [.iff (.not (.call 0 [.var 2])) [.raise .NoPlace none [.non]] []], .ret (.bi .tuple [.var 1])]
/-- 0 tree 1 rows 2 place -/
def fn_shown : List S := [.asg (.one 1) (.lst []), .for (.one 2) .seq [.call 0 [.var 0]] [.append (.var 1) (.bm .join (.str [' ']) [.op .add (.lst [.call 1 [.var 2]]) (.bi .list [.op .idx (.call 2 [.var 0, .var 2]) (.int 1)])])], .ret (.bm .join (.str ['\n']) [.var 1])]
/-- 0 row 1 parts 2 word 3 place -/
def fn_row_of : List S := [.asg (.one 1) (.bm .split (.var 0) [.str [' ']]), .for (.one 2) .seq [.slice (.var 1) (some (.int 1)) none] [.iff (.not (.call 0 [.var 2])) [.raise .NoText none [.str ['n', 'o', ' ', 'w', 'o', 'r', 'd']]] []], .tryE [.asg (.one 3) (.call 1 [.op .idx (.var 1) (.int 0)])] [.NoPlace] none [.raise .NoText none [.str ['n', 'o', ' ', 'p', 'l', 'a', 'c', 'e']]] [.ret (.tup [.var 3, .bi .tuple [.slice (.var 1) (some (.int 1)) none]])]]
/-- 0 tree 1 place 2 words 3 found -/
def fn_grown : List S := [.iff (.op .eq (.var 1) (.tup [])) [.raise .NoText none [.str ['t', 'h', 'e', ' ', 't', 'r', 'e', 'e', ' ', 'i', 't', 's', 'e', 'l', 'f', ' ', 't', 'w', 'i', 'c', 'e']]] [], .tryE [.asg (.one 3) (.call 0 [.var 0, .slice (.var 1) none (some (.neg (.int 1))), .tup [.op .idx (.var 1) (.neg (.int 1)), .var 2, .tup []]])] [.NoPlace] none [.raise .NoText none [.str ['n', 'o', ' ', 'p', 'l', 'a', 'c', 'e', ' ', 'b', 'e', 'n', 'e', 'a', 't', 'h', ' ', 'a', 'n', 'o', 't', 'h', 'e', 'r', ' ', 'o', 'n', 'e']]] [.ret (.var 3)]]
/-- 0 text 1 rows 2 row 3 tree 4 place 5 words -/
def fn_read : List S := [.iff (.not (.isi (.var 0) [.str])) [.raise .NoText none [.str ['n', 'o', ' ', 't', 'e', 'x', 't']]] [], .asg (.one 1) (.comp (.call 0 [.var 2]) (.one 2) .seq [.bm .split (.var 0) [.str ['\n']]] []), .iff (.op .ne (.op .idx (.op .idx (.var 1) (.int 0)) (.int 0)) (.tup [])) [.raise .NoText none [.str ['t', 'h', 'e', ' ', 't', 'r', 'e', 'e', ' ', 'i', 't', 's', 'e', 'l', 'f', ' ', 'i', 's', ' ', 'n', 'o', 't', ' ', 't', 'h', 'e', ' ', 'f', 'i', 'r', 's', 't']]] [], .asg (.one 3) (.tup [.str [], .op .idx (.op .idx (.var 1) (.int 0)) (.int 1), .tup []]), .for (.many [4, 5]) .seq [.slice (.var 1) (some (.int 1)) none] [.asg (.one 3) (.call 1 [.var 3, .var 4, .var 5])], .iff (.or [.not (.call 2 [.var 3]), .op .ne (.call 3 [.var 3]) (.var 0)]) [.raise .NoText none [.str ['a', ' ', 't', 'e', 'x', 't', ' ', 't', 'h', 'a', 't', ' ', 'i', 's', ' ', 'w', 'r', 'i', 't', 't', 'e', 'n', ' ', 'o', 't', 'h', 'e', 'r', 'w', 'i', 's', 'e']]] [], .ret (.var 3)]
/-- 0 _law_nodes_here 1 _law_place 2 _law_found 3 _law_other -/
def fn_law_kids : List S := [.asg (.one 2) (.comp (.op .idx (.var 3) (.neg (.int 1))) (.one 3) .keys [.var 0] [.and [.op .eq (.bi .len [.var 3]) (.op .add (.bi .len [.var 1]) (.int 1)), .op .eq (.slice (.var 3) none (some (.neg (.int 1)))) (.var 1)]]), .ret (.sortk 0 (.var 2))]
/-- 0 _law_kids_here 1 _law_found 2 _law_kid_here 3 _law_label_here -/
def fn_law_kids_2 : List S := [.asg (.one 1) (.dct false), .for (.one 2) .seq [.var 0] [.setd (.var 1) (.op .idx (.var 2) (.int 0)) (.var 2)], .ret (.bi .tuple [.comp (.op .idx (.var 1) (.var 3)) (.one 3) .seq [.sortk 0 (.var 1)] []])]
/-- 0 _law_script 1 _law_found 2 _law_number -/
def fn_law_wide : List S := [.iff (.or [.op .lt (.bi .len [.var 0]) (.int 2), .op .lt (.bi .abs [.op .idx (.var 0) (.int 1)]) (.op .pow (.int 10) (.int 18))]) [.ret (.var 0)] [], .asg (.one 1) (.lst []), .asg (.one 2) (.bi .abs [.op .idx (.var 0) (.int 1)]), .while (.and [.op .gt (.var 2) (.int 0), .op .lt (.bi .len [.var 1]) (.int 63)]) [.append (.var 1) (.op .mod (.var 2) (.op .pow (.int 10) (.int 6))), .asg (.one 2) (.op .fdiv (.var 2) (.op .pow (.int 10) (.int 6)))], .ret (.op .add (.var 1) (.slice (.var 0) (some (.int 2)) none))]
/-- 0 _law_script -/
def fn_law : List S := [.ret (.call 0 [.call 1 [.var 0]])]
/-- 0 words 1 old 2 k -/
def fn_runs_of : List S := [.ret (.comp (.var 2) (.one 2) .range [.op .add (.op .sub (.bi .len [.var 0]) (.bi .len [.var 1])) (.int 1)] [.op .eq (.slice (.var 0) (some (.var 2)) (some (.op .add (.var 2) (.bi .len [.var 1])))) (.var 1)])]
/-- 0 self 1 tree -/
def fn_Change_reason : List S := [.ret .non]
/-- 0 self 1 tree -/
def fn_Change_made : List S := [.ret (.var 1)]
/-- 0 self 1 tree 2 why -/
def fn_Change_done : List S := [.asg (.one 2) (.meth 0 (.var 0) [.var 1]), .iff (.notN (.var 2)) [.raise .NoFit none [.var 2]] [], .ret (.meth 1 (.var 0) [.var 1])]
/-- 0 self 1 place 2 old 3 new -/
def fn_Swap___init__ : List S := [.setF (.var 0) .place (.var 1), .setF (.var 0) .old (.var 2), .setF (.var 0) .new (.var 3)]
/-- 0 self 1 tree 2 node 3 many -/
def fn_Swap_reason : List S := [.asg (.one 2) (.call 0 [.var 1, .fld (.var 0) .place]), .iff (.isN (.var 2)) [.ret (.str ['p', 'l', 'a', 'c', 'e'])] [], .asg (.one 3) (.bi .len [.call 1 [.op .idx (.var 2) (.int 1), .fld (.var 0) .old]]), .iff (.op .eq (.var 3) (.int 0)) [.ret (.str ['w', 'o', 'r', 'd', 's'])] [], .iff (.op .gt (.var 3) (.int 1)) [.ret (.str ['t', 'w', 'i', 'c', 'e'])] [], .ret .non]
/-- 0 self 1 tree 2 words 3 at -/
def fn_Swap_made : List S := [.asg (.one 2) (.op .idx (.call 0 [.var 1, .fld (.var 0) .place]) (.int 1)), .asg (.one 3) (.op .idx (.call 1 [.var 2, .fld (.var 0) .old]) (.int 0)), .ret (.call 2 [.var 1, .fld (.var 0) .place, .op .add (.op .add (.slice (.var 2) none (some (.var 3))) (.fld (.var 0) .new)) (.slice (.var 2) (some (.op .add (.var 3) (.bi .len [.fld (.var 0) .old]))) none)])]
/-- 0 _law_change 1 _law_tree_here 2 _law_why 3 _law_error 4 e -/
def fn_law_refused : List S := [.asg (.one 3) .non, .tryE [.expr (.meth 0 (.var 0) [.var 1])] [.MendError] (some 4) [.asg (.one 3) (.var 4)] [], .iff (.or [.not (.isi (.var 3) [.cl .NoFit]), .not (.isi (.var 3) [.ve])]) [.ret (.bl false)] [], .iff (.or [.isi (.var 3) [.cl .NoText], .isi (.var 3) [.cl .NoPlace], .isi (.var 3) [.cl .NoName]]) [.ret (.bl false)] [], .iff (.or [.isi (.var 3) [.cl .Twice], .isi (.var 3) [.cl .NoDay], .isi (.var 3) [.cl .NoAct], .isi (.var 3) [.cl .NoRow]]) [.ret (.bl false)] [], .ret (.call 0 [.fld (.var 3) .why, .var 2])]
/-- 0 self 1 place 2 words -/
def fn_Read___init__ : List S := [.setF (.var 0) .place (.var 1), .setF (.var 0) .words (.var 2)]
/-- 0 self 1 tree -/
def fn_Read_reason : List S := [.iff (.isN (.call 0 [.var 1, .fld (.var 0) .place])) [.ret (.str ['p', 'l', 'a', 'c', 'e'])] [], .ret .non]
/-- 0 self 1 tree -/
def fn_Read_made : List S := [.ret (.call 0 [.var 1, .fld (.var 0) .place, .fld (.var 0) .words])]
/-- 0 self 1 place 2 node -/
def fn_PutIn___init__ : List S := [.setF (.var 0) .place (.var 1), .setF (.var 0) .node (.var 2)]
/-- 0 self 1 tree 2 above 3 kid -/
def fn_PutIn_reason : List S := [.asg (.one 2) (.call 0 [.var 1, .fld (.var 0) .place]), .iff (.isN (.var 2)) [.ret (.str ['p', 'l', 'a', 'c', 'e'])] [], .iff (.op .isin (.op .idx (.fld (.var 0) .node) (.int 0)) (.comp (.op .idx (.var 3) (.int 0)) (.one 3) .seq [.op .idx (.var 2) (.int 2)] [])) [.ret (.str ['t', 'h', 'e', 'r', 'e'])] [], .iff (.op .gt (.op .add (.op .add (.bi .len [.fld (.var 0) .place]) (.int 1)) (.call 1 [.fld (.var 0) .node])) (.globi "DEEPEST" 9)) [.ret (.str ['d', 'e', 'e', 'p'])] [], .ret .non]
/-- 0 self 1 tree 2 above 3 kid -/
def fn_PutIn_reason_2 : List S := [.asg (.one 2) (.call 0 [.var 1, .fld (.var 0) .place]), .iff (.isN (.var 2)) [.ret (.str ['p', 'l', 'a', 'c', 'e'])] [], .iff (.op .isin (.op .idx (.fld (.var 0) .node) (.int 0)) (.comp (.op .idx (.var 3) (.int 0)) (.one 3) .seq [.op .idx (.var 2) (.int 2)] [])) [.ret (.str ['t', 'h', 'e', 'r', 'e'])] [], .iff (.op .gt (.op .add (.op .add (.bi .len [.fld (.var 0) .place]) (.int 1)) (.call 1 [.fld (.var 0) .node])) (.globi "DEEPEST_changes" 9)) [.ret (.str ['d', 'e', 'e', 'p'])] [], .ret .non]
/-- 0 self 1 tree -/
def fn_PutIn_made : List S := [.ret (.call 0 [.var 1, .fld (.var 0) .place, .fld (.var 0) .node])]
/-- 0 self 1 place -/
def fn_LeaveOut___init__ : List S := [.setF (.var 0) .place (.var 1)]
/-- 0 self 1 tree -/
def fn_LeaveOut_reason : List S := [.iff (.op .eq (.fld (.var 0) .place) (.tup [])) [.ret (.str ['w', 'h', 'o', 'l', 'e'])] [], .iff (.isN (.call 0 [.var 1, .fld (.var 0) .place])) [.ret (.str ['p', 'l', 'a', 'c', 'e'])] [], .ret .non]
/-- 0 self 1 tree -/
def fn_LeaveOut_made : List S := [.ret (.call 0 [.var 1, .fld (.var 0) .place])]
/-- 0 _law_node 1 _law_kid_here -/
def fn_law_deep : List S := [.ret (.op .add (.int 1) (.bi .maxd [.comp (.call 0 [.var 1]) (.one 1) .seq [.op .idx (.var 0) (.int 2)] [], .int 0]))]
/-- 0 node 1 place 2 kids 3 k 4 kid -/
def fn_numbered_at : List S := [.iff (.op .eq (.var 1) (.tup [])) [.asg (.one 2) (.comp (.tup [.bi .str [.op .add (.var 3) (.int 1)], .op .idx (.var 4) (.int 1), .op .idx (.var 4) (.int 2)]) (.many [3, 4]) .enum [.op .idx (.var 0) (.int 2)] [])] [.asg (.one 2) (.comp (.ife (.op .eq (.op .idx (.var 4) (.int 0)) (.op .idx (.var 1) (.int 0))) (.call 0 [.var 4, .slice (.var 1) (some (.int 1)) none]) (.var 4)) (.one 4) .seq [.op .idx (.var 0) (.int 2)] [])], .ret (.tup [.op .idx (.var 0) (.int 0), .op .idx (.var 0) (.int 1), .bi .tuple [.var 2]])]
/-- 0 self 1 place -/
def fn_Anew___init__ : List S := [.setF (.var 0) .place (.var 1)]
/-- 0 self 1 tree -/
def fn_Anew_reason : List S := [.iff (.isN (.call 0 [.var 1, .fld (.var 0) .place])) [.ret (.str ['p', 'l', 'a', 'c', 'e'])] [], .ret .non]
/-- 0 self 1 tree -/
def fn_Anew_made : List S := [.ret (.call 0 [.var 1, .fld (.var 0) .place])]
/-- 0 _law_nodes_here 1 _law_place_here 2 _law_kids 3 _law_other 4 _law_found 5 _law_there 6 _law_label_here -/
def fn_law_renamed : List S := [.asg (.one 2) (.comp (.op .idx (.var 3) (.neg (.int 1))) (.one 3) .keys [.var 0] [.and [.op .eq (.bi .len [.var 3]) (.op .add (.bi .len [.var 1]) (.int 1)), .op .eq (.slice (.var 3) none (some (.neg (.int 1)))) (.var 1)]]), .asg (.one 2) (.sortk 0 (.var 2)), .asg (.one 4) (.dct true), .for (.one 3) .keys [.var 0] [.asg (.one 5) (.var 3), .iff (.and [.op .gt (.bi .len [.var 3]) (.bi .len [.var 1]), .op .eq (.slice (.var 3) none (some (.bi .len [.var 1]))) (.var 1)]) [.asg (.one 6) (.bi .str [.op .add (.int 1) (.bm .index (.var 2) [.op .idx (.var 3) (.bi .len [.var 1])])]), .asg (.one 5) (.op .add (.op .add (.var 1) (.tup [.var 6])) (.slice (.var 3) (some (.op .add (.bi .len [.var 1]) (.int 1))) none))] [], .setI (.var 4) (.var 5) (.op .idx (.var 0) (.var 3))], .ret (.var 4)]
/-- 0 change -/
def fn_touched : List S := [.iff (.isi (.var 0) [.cl .PutIn]) [.ret (.tup [.str ['f', 'r', 'o', 'm'], .op .add (.fld (.var 0) .place) (.tup [.op .idx (.fld (.var 0) .node) (.int 0)])])] [], .iff (.isi (.var 0) [.cl .LeaveOut]) [.ret (.tup [.str ['f', 'r', 'o', 'm'], .fld (.var 0) .place])] [], .iff (.isi (.var 0) [.cl .Anew]) [.ret (.tup [.str ['b', 'e', 'n', 'e', 'a', 't', 'h'], .fld (.var 0) .place])] [], .ret (.tup [.str ['w', 'o', 'r', 'd', 's'], .fld (.var 0) .place])]
/-- 0 one 1 other -/
def fn_leads_to_it : List S := [.ret (.op .eq (.slice (.var 1) none (some (.bi .len [.var 0]))) (.var 0))]
/-- 0 place 1 part 2 other -/
def fn_words_met : List S := [.iff (.op .eq (.var 1) (.str ['w', 'o', 'r', 'd', 's'])) [.ret (.op .eq (.var 0) (.var 2))] [], .iff (.op .eq (.var 1) (.str ['f', 'r', 'o', 'm'])) [.ret (.call 0 [.var 2, .var 0])] [], .ret (.and [.op .ne (.var 2) (.var 0), .call 0 [.var 2, .var 0]])]
/-- 0 one 1 other 2 first 3 place 4 second 5 beside -/
def fn_are_apart : List S := [.asg (.many [2, 3]) (.call 0 [.var 0]), .asg (.many [4, 5]) (.call 0 [.var 1]), .iff (.op .eq (.var 2) (.str ['w', 'o', 'r', 'd', 's'])) [.ret (.not (.call 1 [.var 3, .var 4, .var 5]))] [], .iff (.op .eq (.var 4) (.str ['w', 'o', 'r', 'd', 's'])) [.ret (.not (.call 1 [.var 5, .var 2, .var 3]))] [], .ret (.and [.not (.call 2 [.var 3, .var 5]), .not (.call 2 [.var 5, .var 3])])]
/-- 0 _law_nodes_here 1 _law_cell 2 _law_more 3 _law_place_here 4 _law_old 5 _law_node 6 _law_k -/
def fn_law_change : List S := [.asg (.one 3) (.call 0 [.var 0, .op .fdiv (.var 1) (.int 5)]), .iff (.op .eq (.op .mod (.var 1) (.int 5)) (.int 0)) [.asg (.one 4) (.slice (.dget (.var 0) (.var 3) (.tup [])) (some (.op .mod (.var 2) (.int 3))) (some (.op .add (.op .add (.op .mod (.var 2) (.int 3)) (.int 1)) (.op .mod (.op .fdiv (.var 2) (.int 3)) (.int 2))))), .iff (.op .eq (.var 4) (.tup [])) [.asg (.one 4) (.op .add (.slice (.call 1 [.var 2]) none (some (.int 2))) (.tup [.str ['a']]))] [], .ret (.tup [.str ['s', 'w', 'a', 'p'], .var 3, .var 4, .call 1 [.op .fdiv (.var 2) (.int 6)]])] [], .iff (.op .eq (.op .mod (.var 1) (.int 5)) (.int 1)) [.ret (.tup [.str ['r', 'e', 'a', 'd'], .var 3, .call 1 [.var 2]])] [], .iff (.op .eq (.op .mod (.var 1) (.int 5)) (.int 2)) [.asg (.one 5) (.tup [.call 2 [.var 2], .call 1 [.op .fdiv (.var 2) (.int 3)], .tup []]), .for (.one 6) .range [.op .idx (.lst [.int 0, .int 0, .int 1, .int 7]) (.op .mod (.op .fdiv (.var 2) (.int 5)) (.int 4))] [.asg (.one 5) (.tup [.call 2 [.op .add (.op .fdiv (.var 2) (.int 20)) (.var 6)], .tup [], .tup [.var 5]])], .ret (.tup [.str ['p', 'u', 't'], .var 3, .var 5])] [], .iff (.op .eq (.op .mod (.var 1) (.int 5)) (.int 3)) [.ret (.tup [.str ['o', 'u', 't'], .var 3])] [], .ret (.tup [.str ['a', 'n', 'e', 'w'], .var 3])]
/-- 0 _law_kind_here -/
def fn_law_change_2 : List S := [.iff (.op .eq (.op .idx (.var 0) (.int 0)) (.int 0)) [.ret (.mk 0 [.tup [], .tup [.op .add (.str ['w']) (.op .idx (.var 0) (.int 1))]])] [], .iff (.op .eq (.op .idx (.var 0) (.int 0)) (.int 1)) [.ret (.mk 1 [.tup [], .tup [.op .add (.str ['w']) (.op .idx (.var 0) (.int 1))], .tup [.str ['x']]])] [], .iff (.op .eq (.op .idx (.var 0) (.int 0)) (.int 2)) [.ret (.mk 2 [.tup [], .tup [.op .idx (.var 0) (.int 1), .tup [], .tup []]])] [], .iff (.op .eq (.op .idx (.var 0) (.int 0)) (.int 3)) [.ret (.mk 3 [.tup [.op .idx (.var 0) (.int 1)]])] [], .ret (.mk 4 [.tup [.op .idx (.var 0) (.int 1)]])]
/-- 0 _law_spots_here 1 _law_cell 2 _law_other 3 _law_kind 4 _law_place_here 5 _law_old 6 _law_node_here -/
def fn_law_change_3 : List S := [.asg (.one 3) (.op .mod (.call 0 [.var 1, .int 1]) (.int 6)), .asg (.one 4) (.call 1 [.var 0, .call 0 [.var 2, .int 2]]), .iff (.op .eq (.var 3) (.int 0)) [.asg (.one 5) (.slice (.call 2 [.var 2, .int 3]) none (some (.op .add (.int 1) (.op .mod (.call 0 [.var 2, .int 9]) (.int 2))))), .ret (.mk 3 [.var 4, .or [.var 5, .tup [.str ['a']]], .call 2 [.var 2, .int 10]])] [], .iff (.op .eq (.var 3) (.int 1)) [.ret (.mk 4 [.var 4, .call 2 [.var 2, .int 16]])] [], .iff (.op .eq (.var 3) (.int 4)) [.ret (.mk 5 [.var 4])] [], .iff (.op .eq (.var 3) (.int 5)) [.ret (.mk 6 [.var 4])] [], .asg (.one 6) (.call 7 [.var 2]), .iff (.op .lt (.bi .len [.var 4]) (.int 7)) [.append (.var 0) (.op .add (.var 4) (.tup [.op .idx (.var 6) (.int 0)]))] [], .ret (.mk 8 [.var 4, .var 6])]
/-- 0 _law_one -/
def fn_law_made : List S := [.iff (.op .eq (.op .idx (.var 0) (.int 0)) (.str ['s', 'w', 'a', 'p'])) [.ret (.mk 0 [.op .idx (.var 0) (.int 1), .op .idx (.var 0) (.int 2), .op .idx (.var 0) (.int 3)])] [], .iff (.op .eq (.op .idx (.var 0) (.int 0)) (.str ['r', 'e', 'a', 'd'])) [.ret (.mk 1 [.op .idx (.var 0) (.int 1), .op .idx (.var 0) (.int 2)])] [], .iff (.op .eq (.op .idx (.var 0) (.int 0)) (.str ['p', 'u', 't'])) [.ret (.mk 2 [.op .idx (.var 0) (.int 1), .op .idx (.var 0) (.int 2)])] [], .iff (.op .eq (.op .idx (.var 0) (.int 0)) (.str ['o', 'u', 't'])) [.ret (.mk 3 [.op .idx (.var 0) (.int 1)])] [], .ret (.mk 4 [.op .idx (.var 0) (.int 1)])]
/-- 0 _law_node_here 1 _law_place 2 _law_words_here 3 _law_kids_here 4 _law_some 5 _law_kid_here -/
def fn_law_made_2 : List S := [.iff (.op .eq (.var 1) (.tup [])) [.ret (.tup [.op .idx (.var 0) (.int 0), .var 2, .var 3])] [], .asg (.one 4) (.lst []), .for (.one 5) .seq [.op .idx (.var 0) (.int 2)] [.iff (.op .eq (.op .idx (.var 5) (.int 0)) (.op .idx (.var 1) (.int 0))) [.asg (.one 5) (.call 0 [.var 5, .slice (.var 1) (some (.int 1)) none, .var 2, .var 3])] [], .append (.var 4) (.var 5)], .ret (.tup [.op .idx (.var 0) (.int 0), .op .idx (.var 0) (.int 1), .bi .tuple [.var 4]])]
/-- 0 thing 1 sign -/
def fn_is_act_name : List S := [.iff (.or [.not (.isi (.var 0) [.str]), .op .lt (.bi .len [.var 0]) (.int 1), .op .gt (.bi .len [.var 0]) (.int 8)]) [.ret (.bl false)] [], .for (.one 1) .seq [.var 0] [.iff (.op .notin (.var 1) (.str ['a', 'b', 'c', 'd', 'e', 'f', 'g', 'h', 'i', 'j', 'k', 'l', 'm', 'n', 'o', 'p', 'q', 'r', 's', 't', 'u', 'v', 'w', 'x', 'y', 'z'])) [.ret (.bl false)] []], .ret (.bl true)]
/-- 0 self 1 tree -/
def fn_Book___init__ : List S := [.setF (.var 0) .tree (.var 1), .setF (.var 0) .line (.lst [])]
/-- 0 self -/
def fn_Book_first : List S := [.ret (.fld (.var 0) .tree)]
/-- 0 self 1 name 2 day 3 other 4 deeds -/
def fn_Book_acts : List S := [.ret (.comp (.tup [.var 1, .var 2, .var 3, .bi .list [.var 4]]) (.many [1, 2, 3, 4]) .seq [.fld (.var 0) .line] [])]
/-- 0 self 1 act -/
def fn_Book_names : List S := [.ret (.comp (.op .idx (.var 1) (.int 0)) (.one 1) .seq [.fld (.var 0) .line] [])]
/-- 0 self 1 name 2 day -/
def fn_Book_look : List S := [.iff (.not (.call 0 [.var 1])) [.raise .NoName none [.str ['n', 'o', ' ', 'n', 'a', 'm', 'e', ' ', 'o', 'f', ' ', 'a', 'n', ' ', 'a', 'c', 't']]] [], .iff (.op .isin (.var 1) (.meth 0 (.var 0) [])) [.raise .Twice none [.str ['a', 'n', ' ', 'a', 'c', 't', ' ', 'h', 'a', 's', ' ', 't', 'h', 'i', 's', ' ', 'n', 'a', 'm', 'e']]] [], .iff (.and [.op .ne (.fld (.var 0) .line) (.lst []), .op .lt (.var 2) (.op .idx (.op .idx (.fld (.var 0) .line) (.neg (.int 1))) (.int 1))]) [.raise .NoDay none [.str ['a', ' ', 'd', 'a', 'y', ' ', 'a', 'h', 'e', 'a', 'd', ' ', 'o', 'f', ' ', 't', 'h', 'e', ' ', 'l', 'a', 's', 't', ' ', 'a', 'c', 't', '\'', 's']]] []]
/-- 0 self 1 name -/
def fn_Book_known : List S := [.iff (.op .notin (.var 1) (.meth 0 (.var 0) [])) [.raise .NoAct none [.var 1]] []]
/-- 0 self 1 name 2 day 3 deeds 4 deed -/
def fn_Book_act : List S := [.expr (.meth 0 (.var 0) [.var 1, .var 2]), .for (.one 4) .seq [.var 3] [.iff (.op .ne (.op .idx (.var 4) (.int 0)) (.str ['c', 'h', 'a', 'n', 'g', 'e'])) [.expr (.meth 1 (.var 0) [.op .idx (.var 4) (.int 1)])] []], .append (.fld (.var 0) .line) (.tup [.var 1, .var 2, .non, .bi .list [.var 3]])]
/-- 0 self 1 name 2 day 3 other -/
def fn_Book_back : List S := [.expr (.meth 0 (.var 0) [.var 1, .var 2]), .expr (.meth 1 (.var 0) [.var 3]), .append (.fld (.var 0) .line) (.tup [.var 1, .var 2, .var 3, .lst []])]
/-- 0 self 1 name 2 day 3 other -/
def fn_Book_back_2 : List S := [.expr (.call 0 [.int 0])]
/-- 0 _law_cell 1 _law_letters 2 _law_size 3 _law_at 4 _law_names_here 5 _law_k 6 _law_signs 7 _law_j 8 _law_sign -/
def fn_law_names : List S := [.asg (.one 1) (.str ['a', 'b', 'c', 'd', 'e', 'f', 'g', 'h', 'i', 'j', 'k', 'l', 'm', 'n', 'o', 'p', 'q', 'r', 's', 't', 'u', 'v', 'w', 'x', 'y', 'z']), .asg (.one 2) (.op .add (.int 1) (.op .mod (.var 0) (.int 8))), .asg (.one 3) (.op .mod (.op .fdiv (.var 0) (.int 8)) (.var 2)), .asg (.one 4) (.lst []), .for (.one 5) .range [.int 14] [.asg (.one 6) (.comp (.op .mod (.op .add (.op .add (.op .fdiv (.var 0) (.op .add (.var 7) (.int 5))) (.op .mul (.var 7) (.var 7))) (.op .mul (.var 5) (.bi .int [.op .eq (.var 7) (.var 3)]))) (.int 26)) (.one 7) .range [.var 2] []), .append (.var 4) (.bm .join (.str []) [.comp (.op .idx (.var 1) (.var 8)) (.one 8) .seq [.var 6] []])], .ret (.var 4)]
/-- 0 _law_cell -/
def fn_law_kind : List S := [.ret (.tup [.op .mod (.var 0) (.int 5), .bi .str [.op .add (.int 1) (.op .mod (.op .fdiv (.var 0) (.int 5)) (.op .pow (.int 10) (.int 6)))]])]
/-- 0 _law_cell 1 _law_k 2 _law_day 3 _law_names_here 4 _law_kind_here 5 _law_more 6 _law_when 7 _law_since 8 _law_name 9 _law_number -/
def fn_law_deed : List S := [.asg (.one 4) (.op .mod (.var 0) (.int 7)), .asg (.one 5) (.op .fdiv (.var 0) (.int 7)), .asg (.one 6) (.op .add (.var 2) (.op .idx (.lst [.neg (.int 9), .int 0, .int 1, .int 5, .int 12, .int 30, .int 31, .op .pow (.int 10) (.int 17)]) (.op .mod (.var 5) (.int 8)))), .iff (.or [.op .lt (.var 4) (.int 3), .op .eq (.var 1) (.int 0)]) [.asg (.one 7) (.op .idx (.lst [.non, .var 6, .op .add (.var 6) (.int 3), .op .sub (.var 2) (.int 2), .non]) (.op .mod (.op .fdiv (.var 5) (.int 8)) (.int 5))), .ret (.tup [.str ['c', 'h', 'a', 'n', 'g', 'e'], .var 6, .call 0 [.var 0], .var 7])] [], .asg (.one 8) (.op .idx (.var 3) (.op .mod (.op .fdiv (.var 5) (.int 8)) (.var 1))), .asg (.one 9) (.op .mod (.op .fdiv (.var 5) (.int 56)) (.int 3)), .iff (.op .eq (.var 4) (.int 3)) [.ret (.tup [.str ['l', 'a', 't', 'e', 'r'], .var 8, .var 9, .var 6])] [], .iff (.op .eq (.var 4) (.int 4)) [.ret (.tup [.str ['l', 'a', 't', 'e', 'r'], .var 8, .int 0, .op .add (.var 6) (.op .mod (.op .fdiv (.var 5) (.int 3)) (.int 7))])] [], .iff (.op .eq (.var 4) (.int 5)) [.ret (.tup [.str ['i', 'n', 's', 't', 'e', 'a', 'd'], .var 8, .var 9, .call 0 [.var 0]])] [], .ret (.tup [.str ['d', 'r', 'o', 'p'], .var 8, .var 9])]
/-- 0 _law_names 1 _law_spots_here 2 _law_days 3 _law_cells 4 _law_made 5 _law_unit 6 _law_kind 7 _law_day_here 8 _law_name 9 _law_number_here 10 _law_since -/
def fn_law_deed_2 : List S := [.asg (.many [4, 5]) (.var 2), .asg (.one 6) (.op .mod (.call 0 [.op .idx (.var 3) (.int 0), .int 7]) (.int 9)), .asg (.one 7) (.op .add (.var 4) (.op .mul (.var 5) (.op .sub (.op .mod (.call 0 [.op .idx (.var 3) (.int 2), .int 8]) (.int 9)) (.int 2)))), .iff (.and [.op .ne (.var 0) (.lst []), .op .gt (.var 6) (.int 5)]) [.asg (.one 8) (.op .idx (.var 0) (.op .mod (.call 0 [.op .idx (.var 3) (.int 1), .int 80]) (.bi .len [.var 0]))), .asg (.one 9) (.op .mod (.call 0 [.op .idx (.var 3) (.int 1), .int 81]) (.int 3)), .iff (.op .eq (.var 6) (.int 6)) [.ret (.tup [.str ['l', 'a', 't', 'e', 'r'], .var 8, .var 9, .var 7])] [], .iff (.op .eq (.var 6) (.int 7)) [.ret (.tup [.str ['i', 'n', 's', 't', 'e', 'a', 'd'], .var 8, .var 9, .call 1 [.var 1, .op .add (.op .idx (.var 3) (.int 0)) (.int 1), .op .idx (.var 3) (.int 2)]])] [], .ret (.tup [.str ['d', 'r', 'o', 'p'], .var 8, .var 9])] [], .asg (.one 10) .non, .iff (.op .eq (.op .mod (.call 0 [.op .idx (.var 3) (.int 2), .int 11]) (.int 3)) (.int 1)) [.asg (.one 10) (.op .add (.var 4) (.op .mul (.var 5) (.op .sub (.op .mod (.call 0 [.op .idx (.var 3) (.int 2), .int 12]) (.int 9)) (.int 4))))] [], .ret (.tup [.str ['c', 'h', 'a', 'n', 'g', 'e'], .var 7, .call 1 [.var 1, .op .idx (.var 3) (.int 0), .op .idx (.var 3) (.int 1)], .var 10])]
/-- 0 _law_script 1 _law_names_here 2 _law_acts_here 3 _law_day 4 _law_cells 5 _law_k 6 _law_at 7 _law_four 8 _law_j 9 _law_many 10 _law_deeds -/
def fn_law_acts : List S := [.asg (.one 2) (.lst []), .asg (.one 3) (.op .sub (.op .mod (.call 0 [.var 0, .int 1]) (.op .mul (.int 2) (.op .pow (.int 10) (.int 18)))) (.op .pow (.int 10) (.int 18))), .iff (.op .gt (.op .mod (.call 0 [.var 0, .int 1]) (.int 3)) (.int 0)) [.asg (.one 3) (.op .sub (.op .mod (.call 0 [.var 0, .int 1]) (.int 50)) (.int 20))] [], .asg (.one 4) (.slice (.var 0) (some (.int 2)) (some (.int 58))), .for (.one 5) .range [.int 0, .bi .len [.var 4], .int 4] [.asg (.one 6) (.bi .len [.var 2]), .frz 4, .asg (.one 7) (.comp (.call 0 [.var 4, .op .add (.var 5) (.var 8)]) (.one 8) .range [.int 4] []), .asg (.one 3) (.op .add (.var 3) (.op .idx (.lst [.int 0, .int 1, .int 1, .int 3, .int 8]) (.op .mod (.op .idx (.var 7) (.int 0)) (.int 5)))), .iff (.and [.op .eq (.op .mod (.op .fdiv (.op .idx (.var 7) (.int 0)) (.int 5)) (.int 4)) (.int 3), .op .gt (.var 6) (.int 0)]) [.append (.var 2) (.tup [.op .idx (.var 1) (.var 6), .var 3, .op .idx (.var 1) (.op .mod (.op .idx (.var 7) (.int 1)) (.var 6)), .lst []])] [.asg (.one 9) (.op .idx (.lst [.int 3, .int 1, .int 2, .int 3, .int 0]) (.op .mod (.op .fdiv (.op .idx (.var 7) (.int 0)) (.int 20)) (.int 5))), .asg (.one 10) (.comp (.call 1 [.op .mod (.op .mul (.op .idx (.var 7) (.op .add (.int 1) (.var 8))) (.int 48271)) (.int 2147483647), .var 6, .var 3, .var 1]) (.one 8) .range [.var 9] []), .frz 10, .append (.var 2) (.tup [.op .idx (.var 1) (.var 6), .var 3, .non, .var 10])]], .ret (.var 2)]
/-- 0 _law_deed_here -/
def fn_law_handed : List S := [.iff (.op .eq (.op .idx (.var 0) (.int 0)) (.str ['c', 'h', 'a', 'n', 'g', 'e'])) [.ret (.tup [.str ['c', 'h', 'a', 'n', 'g', 'e'], .op .idx (.var 0) (.int 1), .call 0 [.op .idx (.var 0) (.int 2)], .op .idx (.var 0) (.int 3)])] [], .iff (.op .eq (.op .idx (.var 0) (.int 0)) (.str ['i', 'n', 's', 't', 'e', 'a', 'd'])) [.ret (.tup [.str ['i', 'n', 's', 't', 'e', 'a', 'd'], .op .idx (.var 0) (.int 1), .op .idx (.var 0) (.int 2), .call 0 [.op .idx (.var 0) (.int 3)]])] [], .ret (.var 0)]
/-- 0 _law_book 1 _law_act 2 _law_deed_here -/
def fn_law_put : List S := [.iff (.isN (.op .idx (.var 1) (.int 2))) [.ret (.meth 0 (.var 0) [.op .idx (.var 1) (.int 0), .op .idx (.var 1) (.int 1), .comp (.call 0 [.var 2]) (.one 2) .seq [.op .idx (.var 1) (.int 3)] []])] [], .ret (.meth 1 (.var 0) [.op .idx (.var 1) (.int 0), .op .idx (.var 1) (.int 1), .op .idx (.var 1) (.int 2)])]
/-- 0 _law_found 1 _law_kind_here -/
def fn_law_same_change : List S := [.iff (.op .eq (.op .idx (.var 1) (.int 0)) (.int 0)) [.ret (.and [.isi (.var 0) [.cl .Read], .op .eq (.fld (.var 0) .place) (.tup []), .op .eq (.fld (.var 0) .words) (.tup [.op .add (.str ['w']) (.op .idx (.var 1) (.int 1))])])] [], .iff (.op .eq (.op .idx (.var 1) (.int 0)) (.int 1)) [.iff (.or [.not (.isi (.var 0) [.cl .Swap]), .op .ne (.fld (.var 0) .place) (.tup [])]) [.ret (.bl false)] [], .ret (.and [.op .eq (.fld (.var 0) .old) (.tup [.op .add (.str ['w']) (.op .idx (.var 1) (.int 1))]), .op .eq (.fld (.var 0) .new) (.tup [.str ['x']])])] [], .iff (.op .eq (.op .idx (.var 1) (.int 0)) (.int 2)) [.ret (.and [.isi (.var 0) [.cl .PutIn], .op .eq (.fld (.var 0) .place) (.tup []), .op .eq (.fld (.var 0) .node) (.tup [.op .idx (.var 1) (.int 1), .tup [], .tup []])])] [], .iff (.op .eq (.op .idx (.var 1) (.int 0)) (.int 3)) [.ret (.and [.isi (.var 0) [.cl .LeaveOut], .op .eq (.fld (.var 0) .place) (.tup [.op .idx (.var 1) (.int 1)])])] [], .ret (.and [.isi (.var 0) [.cl .Anew], .op .eq (.fld (.var 0) .place) (.tup [.op .idx (.var 1) (.int 1)])])]
/-- 0 book 1 seen 2 gone 3 found 4 act -/
def fn_living_acts : List S := [.asg (.one 2) (.dct false), .asg (.one 3) (.lst []), .for (.one 4) .rev [.meth 0 (.var 0) []] [.iff (.and [.op .le (.op .idx (.var 4) (.int 1)) (.var 1), .op .notin (.op .idx (.var 4) (.int 0)) (.var 2)]) [.append (.var 3) (.var 4), .iff (.notN (.op .idx (.var 4) (.int 2))) [.setI (.var 2) (.op .idx (.var 4) (.int 2)) (.bl true)] []] []], .ret (.listRev (.var 3))]
/-- 0 book 1 seen 2 gone 3 found 4 act -/
def fn_living_acts_2 : List S := [.asg (.one 2) (.dct true), .asg (.one 3) (.lst []), .for (.one 4) .rev [.meth 0 (.var 0) []] [.iff (.and [.op .le (.op .idx (.var 4) (.int 1)) (.var 1), .op .notin (.op .idx (.var 4) (.int 0)) (.var 2)]) [.append (.var 3) (.var 4), .iff (.notN (.op .idx (.var 4) (.int 2))) [.setI (.var 2) (.op .idx (.var 4) (.int 2)) (.bl true)] []] []], .ret (.listRev (.var 3))]
/-- 0 book 1 seen 2 act -/
def fn_living : List S := [.ret (.comp (.op .idx (.var 2) (.int 0)) (.one 2) .seq [.call 0 [.var 0, .var 1]] [])]
/-- 0 found 1 deed -/
def fn_changed_by : List S := [.iff (.op .eq (.op .idx (.var 1) (.int 0)) (.str ['l', 'a', 't', 'e', 'r'])) [.ret (.tup [.op .idx (.var 1) (.int 3), .op .idx (.var 0) (.int 1), .op .idx (.var 0) (.int 2)])] [], .iff (.op .eq (.op .idx (.var 1) (.int 0)) (.str ['i', 'n', 's', 't', 'e', 'a', 'd'])) [.ret (.tup [.op .idx (.var 0) (.int 0), .op .idx (.var 1) (.int 3), .op .idx (.var 0) (.int 2)])] [], .ret .non]
/-- 0 acts 1 found 2 name 3 day 4 other 5 deeds 6 number 7 deed 8 key 9 new -/
def fn_counted : List S := [.asg (.one 1) (.dct true), .for (.many [2, 3, 4, 5]) .seq [.var 0] [.for (.many [6, 7]) .enum [.var 5] [.iff (.op .eq (.op .idx (.var 7) (.int 0)) (.str ['c', 'h', 'a', 'n', 'g', 'e'])) [.setI (.var 1) (.tup [.var 2, .var 6]) (.tup [.op .idx (.var 7) (.int 1), .op .idx (.var 7) (.int 2), .op .idx (.var 7) (.int 3)]), .cont] [], .asg (.one 8) (.tup [.op .idx (.var 7) (.int 1), .op .idx (.var 7) (.int 2)]), .iff (.and [.op .isin (.var 8) (.var 1), .op .gt (.op .idx (.op .idx (.var 1) (.var 8)) (.int 0)) (.var 3)]) [.asg (.one 9) (.call 0 [.op .idx (.var 1) (.var 8), .var 7]), .iff (.isN (.var 9)) [.pop (.var 1) (.var 8)] [.setI (.var 1) (.var 8) (.var 9)]] []]], .ret (.var 1)]
/-- 0 book 1 seen 2 acts 3 found 4 rows 5 at 6 act 7 number 8 key 9 told 10 day 11 one -/
def fn_what_counts : List S := [.asg (.one 2) (.call 0 [.var 0, .var 1]), .frz 2, .asg (.one 3) (.call 1 [.var 2]), .asg (.one 4) (.lst []), .frz 2, .for (.many [5, 6]) .enum [.var 2] [.for (.one 7) .range [.bi .len [.op .idx (.var 6) (.int 3)]] [.asg (.one 8) (.tup [.op .idx (.var 6) (.int 0), .var 7]), .iff (.op .isin (.var 8) (.var 3)) [.append (.var 4) (.tup [.op .idx (.op .idx (.var 3) (.var 8)) (.int 0), .var 5, .var 7])] []]], .asg (.one 9) (.lst []), .for (.many [10, 5, 7]) .seq [.bi .sorted [.var 4]] [.asg (.one 11) (.op .idx (.var 3) (.tup [.op .idx (.op .idx (.var 2) (.var 5)) (.int 0), .var 7])), .append (.var 9) (.tup [.var 10, .op .idx (.op .idx (.var 2) (.var 5)) (.int 0), .var 7, .op .idx (.var 11) (.int 1), .op .idx (.var 11) (.int 2)])], .ret (.var 9)]
/-- 0 _law_acts_here 1 _law_seen 2 _law_found_here 3 _law_back 4 _law_act -/
def fn_law_living : List S := [.asg (.one 2) (.lst []), .asg (.one 3) (.lst []), .for (.one 4) .rev [.var 0] [.iff (.and [.op .le (.op .idx (.var 4) (.int 1)) (.var 1), .op .notin (.op .idx (.var 4) (.int 0)) (.var 3)]) [.insert0 (.var 2) (.var 4), .append (.var 3) (.op .idx (.var 4) (.int 2))] []], .ret (.var 2)]
/-- 0 _law_found_here -/
def fn_law_whole : List S := [.ret (.and [.isi (.var 0) [.int], .not (.isi (.var 0) [.bool])])]
/-- 0 book 1 day 2 seen 3 begun 4 found 5 when 6 name 7 number 8 change 9 since -/
def fn_due_changes : List S := [.asg (.one 4) (.lst []), .for (.many [5, 6, 7, 8, 9]) .seq [.call 0 [.var 0, .var 2]] [.iff (.and [.op .le (.var 5) (.var 1), .or [.isN (.var 9), .op .le (.var 9) (.var 3)]]) [.append (.var 4) (.tup [.var 5, .var 6, .var 7, .var 8])] []], .ret (.var 4)]
/-- 0 book 1 day 2 seen 3 begun 4 tree 5 found 6 when 7 name 8 number 9 change 10 why -/
def fn_steps : List S := [.asg (.one 4) (.meth 0 (.var 0) []), .asg (.one 5) (.lst []), .for (.many [6, 7, 8, 9]) .seq [.call 0 [.var 0, .var 1, .var 2, .var 3]] [.asg (.one 10) (.meth 1 (.var 9) [.var 4]), .append (.var 5) (.tup [.var 6, .var 7, .var 8, .var 9, .var 10, .var 4]), .iff (.isN (.var 10)) [.asg (.one 4) (.meth 2 (.var 9) [.var 4])] []], .frz 5, .ret (.tup [.var 5, .var 4])]
/-- 0 book 1 day 2 seen 3 begun -/
def fn_text_of : List S := [.iff (.isN (.var 2)) [.asg (.one 2) (.var 1)] [], .iff (.isN (.var 3)) [.asg (.one 3) (.var 1)] [], .ret (.op .idx (.call 0 [.var 0, .var 1, .var 2, .var 3]) (.int 1))]
/-- 0 _law_cell 1 _law_k -/
def fn_law_number : List S := [.ret (.op .mod (.op .mul (.op .add (.op .mod (.var 0) (.int 2147483647)) (.int 7919)) (.op .add (.int 48271) (.op .mul (.op .mul (.int 34) (.var 1)) (.var 1)))) (.int 2147483629))]
/-- 0 _law_cell 1 _law_kids 2 _law_label_here 3 _law_under -/
def fn_law_node : List S := [.asg (.one 1) (.lst []), .for (.one 2) .seq [.slice (.lst [.str ['1'], .str ['2', 'b']]) none (some (.op .mod (.call 0 [.var 0, .int 20]) (.int 3)))] [.asg (.one 3) (.tup []), .iff (.op .eq (.op .mod (.call 0 [.var 0, .int 44]) (.int 3)) (.int 1)) [.asg (.one 3) (.tup [.tup [.str ['3'], .call 1 [.var 0, .op .add (.int 45) (.op .mul (.int 6) (.bi .len [.var 1]))], .tup []]])] [], .append (.var 1) (.tup [.var 2, .call 1 [.var 0, .op .add (.int 21) (.op .mul (.int 6) (.bi .len [.var 1]))], .var 3])], .ret (.tup [.call 2 [.call 0 [.var 0, .int 33]], .call 1 [.var 0, .int 34], .bi .tuple [.var 1]])]
/-- 0 _law_number 1 _law_inner 2 _law_beneath 3 _law_other 4 _law_kids_here -/
def fn_law_node_2 : List S := [.asg (.one 1) (.tup [.call 0 [.op .mod (.op .mul (.var 0) (.int 69621)) (.int 2147483629)], .call 1 [.op .fdiv (.var 0) (.int 11)], .tup []]), .asg (.one 2) (.call 2 [.slice (.lst [.var 1]) none (some (.op .mod (.op .fdiv (.var 0) (.int 3)) (.int 2)))]), .asg (.one 3) (.tup [.call 0 [.op .mod (.op .mul (.var 0) (.int 40692)) (.int 2147483399)], .call 1 [.op .fdiv (.var 0) (.int 13)], .var 2]), .asg (.one 4) (.call 2 [.slice (.lst [.var 1, .var 3]) none (some (.op .mod (.op .fdiv (.var 0) (.int 2)) (.int 3)))]), .ret (.tup [.call 0 [.var 0], .call 1 [.op .fdiv (.var 0) (.int 7)], .var 4])]
/-- 0 _law_rooms 1 _law_place_here 2 _law_labels 3 _law_spot -/
def fn_law_order : List S := [.asg (.one 2) (.comp (.op .idx (.var 3) (.neg (.int 1))) (.one 3) .keys [.var 0] [.and [.op .eq (.bi .len [.var 3]) (.op .add (.bi .len [.var 1]) (.int 1)), .op .eq (.slice (.var 3) none (some (.neg (.int 1)))) (.var 1)]]), .ret (.sortk 0 (.var 2))]
/-- 0 _law_script 1 _law_rooms 2 _law_k 3 _law_number_here 4 _law_above 5 _law_new -/
def fn_law_first : List S := [.asg (.one 1) (.dct1 true (.tup []) (.call 0 [.call 1 [.var 0, .int 0], .int 40])), .iff (.op .eq (.op .mod (.op .fdiv (.call 1 [.var 0, .int 1]) (.int 9)) (.int 8)) (.int 1)) [.for (.one 2) .range [.int 7] [.asg (.one 3) (.call 2 [.call 1 [.var 0, .op .add (.int 2) (.op .mod (.var 2) (.int 4))], .op .add (.int 50) (.var 2)]), .setI (.var 1) (.op .add (.op .idx (.bi .list [.var 1]) (.var 2)) (.tup [.call 3 [.var 3]])) (.call 0 [.var 3, .int 61])], .ret (.var 1)] [], .for (.one 2) .range [.op .mod (.call 1 [.var 0, .int 1]) (.int 9)] [.asg (.one 3) (.call 2 [.call 1 [.var 0, .op .add (.int 2) (.op .mod (.var 2) (.int 4))], .op .add (.int 50) (.var 2)]), .asg (.one 4) (.op .idx (.bi .list [.var 1]) (.op .mod (.var 3) (.bi .len [.var 1]))), .asg (.one 5) (.op .add (.var 4) (.tup [.call 3 [.call 2 [.var 3, .int 60]]])), .iff (.and [.op .lt (.bi .len [.var 4]) (.int 4), .op .notin (.var 5) (.var 1)]) [.setI (.var 1) (.var 5) (.call 0 [.var 3, .int 61])] []], .ret (.var 1)]
/-- 0 _law_script 1 _law_rooms 2 _law_spots_here 3 _law_book_here 4 _law_unit 5 _law_made 6 _law_names 7 _law_deeds 8 _law_cells 9 _law_k 10 _law_three 11 _law_j 12 _law_name -/
def fn_law_book : List S := [.asg (.one 1) (.call 0 [.var 0]), .asg (.one 2) (.bi .list [.var 1]), .frz 1, .asg (.one 3) (.mk 1 [.call 2 [.var 1, .tup []]]), .asg (.one 4) (.op .add (.int 1) (.op .mod (.call 3 [.var 0, .int 6]) (.op .pow (.int 10) (.int 9)))), .asg (.one 5) (.op .mod (.call 3 [.var 0, .int 7]) (.op .pow (.int 10) (.int 18))), .asg (.one 6) (.lst []), .asg (.one 7) (.lst []), .asg (.one 8) (.slice (.var 0) (some (.int 8)) (some (.int 62))), .for (.one 9) .range [.int 0, .bi .len [.var 8], .int 3] [.frz 8, .asg (.one 10) (.comp (.call 3 [.var 8, .op .add (.var 9) (.var 11)]) (.one 11) .range [.int 3] []), .asg (.one 12) (.op .idx (.str ['a', 'b', 'c', 'd', 'e', 'f', 'g', 'h', 'i', 'j', 'k', 'l', 'm', 'n', 'o', 'p', 'q', 'r', 's', 't', 'u', 'v', 'w', 'x', 'y', 'z']) (.op .fdiv (.var 9) (.int 3))), .asg (.one 12) (.op .add (.op .add (.op .mul (.str ['m']) (.op .mod (.op .idx (.var 10) (.int 0)) (.int 4))) (.var 12)) (.op .mul (.str ['m']) (.op .mod (.op .fdiv (.op .idx (.var 10) (.int 0)) (.int 4)) (.int 4)))), .iff (.and [.op .ne (.var 6) (.lst []), .op .eq (.op .mod (.call 4 [.op .idx (.var 10) (.int 0), .int 5]) (.int 9)) (.int 1)]) [.expr (.meth 0 (.var 3) [.var 12, .var 5, .op .idx (.var 6) (.op .mod (.call 4 [.op .idx (.var 10) (.int 1), .int 6]) (.bi .len [.var 6]))]), .append (.var 6) (.var 12), .cont] [], .frz 6, .frz 2, .frz 10, .append (.var 7) (.call 5 [.var 6, .var 2, .lst [.var 5, .var 4], .var 10]), .iff (.or [.op .gt (.op .mod (.call 4 [.op .idx (.var 10) (.int 1), .int 4]) (.int 3)) (.int 0), .op .ge (.op .add (.var 9) (.int 3)) (.bi .len [.var 8])]) [.frz 7, .expr (.meth 1 (.var 3) [.var 12, .var 5, .var 7]), .append (.var 6) (.var 12), .asg (.one 7) (.lst []), .asg (.one 5) (.op .add (.var 5) (.op .mul (.var 4) (.op .mod (.call 4 [.op .idx (.var 10) (.int 2), .int 14]) (.int 4))))] []], .ret (.var 3)]
/-- 0 _law_script 1 _law_rooms 2 _law_spots_here 3 _law_book_here 4 _law_unit 5 _law_made 6 _law_names 7 _law_deeds 8 _law_cells 9 _law_k 10 _law_three 11 _law_j 12 _law_name -/
def fn_law_book_2 : List S := [.asg (.one 1) (.call 0 [.var 0]), .asg (.one 2) (.bi .list [.var 1]), .frz 1, .asg (.one 3) (.mk 1 [.call 2 [.var 1, .tup []]]), .asg (.one 4) (.op .add (.int 1) (.op .mod (.call 3 [.var 0, .int 6]) (.op .pow (.int 10) (.int 9)))), .asg (.one 5) (.op .mod (.call 3 [.var 0, .int 7]) (.op .pow (.int 10) (.int 18))), .asg (.one 6) (.lst []), .asg (.one 7) (.lst []), .asg (.one 8) (.slice (.var 0) (some (.int 8)) (some (.int 50))), .for (.one 9) .range [.int 0, .bi .len [.var 8], .int 3] [.frz 8, .asg (.one 10) (.comp (.call 3 [.var 8, .op .add (.var 9) (.var 11)]) (.one 11) .range [.int 3] []), .asg (.one 12) (.op .idx (.str ['a', 'b', 'c', 'd', 'e', 'f', 'g', 'h', 'i', 'j', 'k', 'l', 'm', 'n', 'o', 'p', 'q', 'r', 's', 't', 'u', 'v', 'w', 'x', 'y', 'z']) (.op .fdiv (.var 9) (.int 3))), .asg (.one 12) (.op .add (.op .add (.op .mul (.str ['m']) (.op .mod (.op .idx (.var 10) (.int 0)) (.int 4))) (.var 12)) (.op .mul (.str ['m']) (.op .mod (.op .fdiv (.op .idx (.var 10) (.int 0)) (.int 4)) (.int 4)))), .iff (.and [.op .ne (.var 6) (.lst []), .op .eq (.op .mod (.call 4 [.op .idx (.var 10) (.int 0), .int 5]) (.int 9)) (.int 1)]) [.expr (.meth 0 (.var 3) [.var 12, .var 5, .op .idx (.var 6) (.op .mod (.call 4 [.op .idx (.var 10) (.int 1), .int 6]) (.bi .len [.var 6]))]), .append (.var 6) (.var 12), .cont] [], .frz 6, .frz 2, .frz 10, .append (.var 7) (.call 5 [.var 6, .var 2, .lst [.var 5, .var 4], .var 10]), .iff (.or [.op .gt (.op .mod (.call 4 [.op .idx (.var 10) (.int 1), .int 4]) (.int 3)) (.int 0), .op .ge (.op .add (.var 9) (.int 3)) (.bi .len [.var 8])]) [.frz 7, .expr (.meth 1 (.var 3) [.var 12, .var 5, .var 7]), .append (.var 6) (.var 12), .asg (.one 7) (.lst []), .asg (.one 5) (.op .add (.var 5) (.op .mul (.var 4) (.op .mod (.call 4 [.op .idx (.var 10) (.int 2), .int 14]) (.int 4))))] []], .ret (.var 3)]
/-- 0 _law_script 1 _law_k 2 _law_unit -/
def fn_law_day : List S := [.asg (.one 2) (.op .add (.int 1) (.op .mod (.call 0 [.var 0, .int 6]) (.op .pow (.int 10) (.int 9)))), .ret (.op .add (.op .mod (.call 0 [.var 0, .int 7]) (.op .pow (.int 10) (.int 18))) (.op .mul (.var 2) (.op .sub (.op .mod (.call 1 [.call 0 [.var 0, .var 1], .op .add (.int 90) (.var 1)]) (.int 60)) (.int 4))))]
/-- 0 _law_node_here 1 _law_place_here 2 _law_found 3 _law_kid -/
def fn_law_spread : List S := [.asg (.one 2) (.dct1 true (.var 1) (.op .idx (.var 0) (.int 1))), .for (.one 3) .seq [.op .idx (.var 0) (.int 2)] [.update (.var 2) (.call 0 [.var 3, .op .add (.var 1) (.tup [.op .idx (.var 3) (.int 0)])])], .ret (.var 2)]
/-- 0 _law_words_here 1 _law_old 2 _law_at -/
def fn_law_spots : List S := [.ret (.comp (.var 2) (.one 2) .range [.op .add (.op .sub (.bi .len [.var 0]) (.bi .len [.var 1])) (.int 1)] [.op .eq (.slice (.var 0) (some (.var 2)) (some (.op .add (.var 2) (.bi .len [.var 1])))) (.var 1)])]
/-- 0 _law_rooms 1 _law_change_here 2 _law_many -/
def fn_law_reason : List S := [.iff (.and [.isi (.var 1) [.cl .LeaveOut], .op .eq (.fld (.var 1) .place) (.tup [])]) [.ret (.str ['w', 'h', 'o', 'l', 'e'])] [], .iff (.op .notin (.fld (.var 1) .place) (.var 0)) [.ret (.str ['p', 'l', 'a', 'c', 'e'])] [], .iff (.isi (.var 1) [.cl .PutIn]) [.iff (.op .isin (.op .add (.fld (.var 1) .place) (.tup [.op .idx (.fld (.var 1) .node) (.int 0)])) (.var 0)) [.ret (.str ['t', 'h', 'e', 'r', 'e'])] [], .iff (.op .gt (.op .add (.bi .len [.fld (.var 1) .place]) (.call 0 [.fld (.var 1) .node])) (.int 8)) [.ret (.str ['d', 'e', 'e', 'p'])] []] [], .iff (.isi (.var 1) [.cl .Swap]) [.asg (.one 2) (.bi .len [.call 1 [.op .idx (.var 0) (.fld (.var 1) .place), .fld (.var 1) .old]]), .ret (.op .idx (.lst [.op .idx (.lst [.str ['w', 'o', 'r', 'd', 's'], .non]) (.bi .min2 [.var 2, .int 1]), .str ['t', 'w', 'i', 'c', 'e']]) (.bi .int [.op .gt (.var 2) (.int 1)]))] [], .ret .non]
/-- 0 _law_spot 1 _law_change_here 2 _law_labels 3 _law_above 4 _law_at -/
def fn_law_moved : List S := [.asg (.one 3) (.fld (.var 1) .place), .iff (.op .ne (.slice (.var 0) none (some (.bi .len [.var 3]))) (.var 3)) [.ret (.var 0)] [], .iff (.isi (.var 1) [.cl .LeaveOut]) [.ret .non] [], .iff (.and [.isi (.var 1) [.cl .Anew], .op .ne (.var 0) (.var 3)]) [.asg (.one 4) (.bi .len [.var 3]), .ret (.op .add (.op .add (.var 3) (.tup [.bi .str [.op .add (.bm .index (.var 2) [.op .idx (.var 0) (.var 4)]) (.int 1)]])) (.slice (.var 0) (some (.op .add (.var 4) (.int 1))) none))] [], .ret (.var 0)]
/-- 0 _law_rooms 1 _law_change_here 2 _law_labels 3 _law_found 4 _law_spot 5 _law_goal 6 _law_words_here 7 _law_at 8 _law_behind -/
def fn_law_done : List S := [.asg (.one 2) (.call 0 [.var 0, .fld (.var 1) .place]), .asg (.one 3) (.dct true), .for (.one 4) .keys [.var 0] [.frz 2, .asg (.one 5) (.call 1 [.var 4, .var 1, .var 2]), .iff (.notN (.var 5)) [.setI (.var 3) (.var 5) (.op .idx (.var 0) (.var 4))] []], .iff (.isi (.var 1) [.cl .Read]) [.setI (.var 3) (.fld (.var 1) .place) (.fld (.var 1) .words)] [], .iff (.isi (.var 1) [.cl .Swap]) [.asg (.one 6) (.op .idx (.var 0) (.fld (.var 1) .place)), .asg (.one 7) (.op .idx (.call 2 [.var 6, .fld (.var 1) .old]) (.int 0)), .asg (.one 8) (.slice (.var 6) (some (.op .add (.var 7) (.bi .len [.fld (.var 1) .old]))) none), .setI (.var 3) (.fld (.var 1) .place) (.op .add (.op .add (.slice (.var 6) none (some (.var 7))) (.fld (.var 1) .new)) (.var 8))] [], .iff (.isi (.var 1) [.cl .PutIn]) [.update (.var 3) (.call 3 [.fld (.var 1) .node, .op .add (.fld (.var 1) .place) (.tup [.op .idx (.fld (.var 1) .node) (.int 0)])])] [], .ret (.var 3)]
/-- 0 _law_tree_here 1 _law_change 2 _law_node_here -/
def fn_law_done_2 : List S := [.iff (.isi (.var 1) [.cl .Read]) [.asg (.one 2) (.call 0 [.var 0, .fld (.var 1) .place]), .iff (.isN (.var 2)) [.ret .non] [], .ret (.call 1 [.var 0, .fld (.var 1) .place, .fld (.var 1) .words, .op .idx (.var 2) (.int 2)])] [], .iff (.isi (.var 1) [.cl .PutIn]) [.ret (.call 2 [.var 0, .fld (.var 1) .place, .fld (.var 1) .node])] [], .iff (.isi (.var 1) [.cl .LeaveOut]) [.ret (.call 3 [.var 0, .fld (.var 1) .place])] [], .ret .non]
/-- 0 book 1 day 2 seen 3 begun 4 step -/
def fn_story : List S := [.iff (.isN (.var 2)) [.asg (.one 2) (.var 1)] [], .iff (.isN (.var 3)) [.asg (.one 3) (.var 1)] [], .ret (.comp (.tup [.op .idx (.var 4) (.int 1), .op .idx (.var 4) (.int 2), .op .idx (.var 4) (.int 4)]) (.one 4) .seq [.op .idx (.call 0 [.var 0, .var 1, .var 2, .var 3]) (.int 0)] [])]
/-- 0 k -/
def fn_wall : List S := [.while (.bl true) [.pass]]
/-- 0 book 1 day 2 later 3 seen 4 begun 5 tree 6 found 7 when 8 name 9 number 10 change 11 since 12 counts -/
def fn_done_between : List S := [.asg (.one 5) (.meth 0 (.var 0) []), .asg (.one 6) (.lst []), .for (.many [7, 8, 9, 10, 11]) .seq [.call 0 [.var 0, .var 3]] [.asg (.one 12) (.and [.op .le (.var 7) (.var 2), .or [.isN (.var 11), .op .le (.var 11) (.var 4)]]), .iff (.and [.var 12, .isN (.meth 1 (.var 10) [.var 5])]) [.iff (.op .gt (.var 7) (.var 1)) [.append (.var 6) (.tup [.var 8, .var 9, .var 10, .var 5])] [], .asg (.one 5) (.meth 2 (.var 10) [.var 5])] []], .ret (.var 6)]
/-- 0 place 1 above -/
def fn_is_from : List S := [.ret (.op .eq (.slice (.var 0) none (some (.bi .len [.var 1]))) (.var 1))]
/-- 0 place 1 change 2 tree 3 above 4 labels 5 kid 6 at -/
def fn_led : List S := [.asg (.one 3) (.fld (.var 1) .place), .iff (.and [.isi (.var 1) [.cl .LeaveOut], .call 0 [.var 0, .var 3]]) [.ret .non] [], .iff (.and [.isi (.var 1) [.cl .Anew], .call 0 [.var 0, .var 3], .op .ne (.var 0) (.var 3)]) [.asg (.one 4) (.comp (.op .idx (.var 5) (.int 0)) (.one 5) .seq [.op .idx (.call 1 [.var 2, .var 3]) (.int 2)] []), .asg (.one 6) (.op .add (.bm .index (.var 4) [.op .idx (.var 0) (.bi .len [.var 3])]) (.int 1)), .ret (.op .add (.op .add (.var 3) (.tup [.bi .str [.var 6]])) (.slice (.var 0) (some (.op .add (.bi .len [.var 3]) (.int 1))) none))] [], .ret (.var 0)]
/-- 0 place 1 change 2 tree 3 above 4 kid -/
def fn_came : List S := [.asg (.one 3) (.fld (.var 1) .place), .iff (.and [.isi (.var 1) [.cl .PutIn], .call 0 [.var 0, .op .add (.var 3) (.tup [.op .idx (.fld (.var 1) .node) (.int 0)])]]) [.ret .non] [], .iff (.and [.isi (.var 1) [.cl .Anew], .call 0 [.var 0, .var 3], .op .ne (.var 0) (.var 3)]) [.asg (.one 4) (.op .idx (.op .idx (.call 1 [.var 2, .var 3]) (.int 2)) (.op .sub (.bi .int [.op .idx (.var 0) (.bi .len [.var 3])]) (.int 1))), .ret (.op .add (.op .add (.var 3) (.tup [.op .idx (.var 4) (.int 0)])) (.slice (.var 0) (some (.op .add (.bi .len [.var 3]) (.int 1))) none))] [], .ret (.var 0)]
/-- 0 book 1 place 2 day 3 later 4 text_day 5 seen 6 begun -/
def fn_look_at : List S := [.iff (.op .lt (.var 3) (.var 2)) [.raise .NoDay none [.str ['t', 'h', 'e', ' ', 'l', 'a', 't', 'e', 'r', ' ', 'd', 'a', 'y', ' ', 'i', 's', ' ', 'e', 'a', 'r', 'l', 'i', 'e', 'r']]] [], .iff (.isN (.call 0 [.call 1 [.var 0, .var 4, .var 5, .var 6], .var 1])) [.raise .NoPlace none [.var 1]] []]
/-- 0 book 1 place 2 day 3 later 4 seen 5 begun 6 name 7 number 8 change 9 tree 10 behind -/
def fn_leads_to : List S := [.iff (.isN (.var 4)) [.asg (.one 4) (.var 3)] [], .iff (.isN (.var 5)) [.asg (.one 5) (.var 3)] [], .expr (.call 0 [.var 0, .var 1, .var 2, .var 3, .var 2, .var 4, .var 5]), .for (.many [6, 7, 8, 9]) .seq [.call 1 [.var 0, .var 2, .var 3, .var 4, .var 5]] [.asg (.one 10) (.call 2 [.var 1, .var 8, .var 9]), .iff (.isN (.var 10)) [.ret (.tup [.str ['g', 'o', 'n', 'e'], .var 6, .var 7])] [], .asg (.one 1) (.var 10)], .ret (.tup [.str ['a', 't'], .var 1])]
/-- 0 book 1 place 2 day 3 later 4 seen 5 begun 6 name 7 number 8 change 9 tree 10 ahead -/
def fn_comes_from : List S := [.iff (.isN (.var 4)) [.asg (.one 4) (.var 3)] [], .iff (.isN (.var 5)) [.asg (.one 5) (.var 3)] [], .expr (.call 0 [.var 0, .var 1, .var 2, .var 3, .var 3, .var 4, .var 5]), .for (.many [6, 7, 8, 9]) .rev [.call 1 [.var 0, .var 2, .var 3, .var 4, .var 5]] [.asg (.one 10) (.call 2 [.var 1, .var 8, .var 9]), .iff (.isN (.var 10)) [.ret (.tup [.str ['n', 'e', 'w'], .var 6, .var 7, .var 1])] [], .asg (.one 1) (.var 10)], .ret (.tup [.str ['a', 't'], .var 1])]
/-- 0 head 1 place 2 count 3 i -/
def fn_origins_at : List S := [.ret (.comp (.op .add (.var 0) (.tup [.var 1, .var 3])) (.one 3) .range [.var 2] [])]
/-- 0 node 1 place 2 head 3 found 4 kid -/
def fn_marked : List S := [.asg (.one 3) (.dct1 true (.var 1) (.call 0 [.var 2, .var 1, .bi .len [.op .idx (.var 0) (.int 1)]])), .for (.one 4) .seq [.op .idx (.var 0) (.int 2)] [.update (.var 3) (.call 1 [.var 4, .op .add (.var 1) (.tup [.op .idx (.var 4) (.int 0)]), .var 2])], .ret (.var 3)]
/-- 0 place 1 change 2 labels 3 above -/
def fn_goal_of : List S := [.asg (.one 3) (.fld (.var 1) .place), .iff (.op .ne (.slice (.var 0) none (some (.bi .len [.var 3]))) (.var 3)) [.ret (.var 0)] [], .iff (.isi (.var 1) [.cl .LeaveOut]) [.ret .non] [], .iff (.and [.isi (.var 1) [.cl .Anew], .op .ne (.var 0) (.var 3)]) [.ret (.op .add (.op .add (.var 3) (.tup [.bi .str [.op .add (.bm .index (.var 2) [.op .idx (.var 0) (.bi .len [.var 3])]) (.int 1)]])) (.slice (.var 0) (some (.op .add (.bi .len [.var 3]) (.int 1))) none))] [], .ret (.var 0)]
/-- 0 marks 1 change 2 words 3 head 4 at -/
def fn_swapped : List S := [.asg (.one 4) (.int 0), .while (.op .ne (.slice (.var 2) (some (.var 4)) (some (.op .add (.var 4) (.bi .len [.fld (.var 1) .old])))) (.fld (.var 1) .old)) [.asg (.one 4) (.op .add (.var 4) (.int 1))], .ret (.op .add (.op .add (.slice (.var 0) none (some (.var 4))) (.call 0 [.var 3, .fld (.var 1) .place, .bi .len [.fld (.var 1) .new]])) (.slice (.var 0) (some (.op .add (.var 4) (.bi .len [.fld (.var 1) .old]))) none))]
/-- 0 marks 1 change 2 tree 3 head 4 node 5 labels 6 kid 7 found 8 place 9 some 10 goal -/
def fn_followed : List S := [.asg (.one 4) (.call 0 [.var 2, .fld (.var 1) .place]), .asg (.one 5) (.comp (.op .idx (.var 6) (.int 0)) (.one 6) .seq [.op .idx (.var 4) (.int 2)] []), .asg (.one 7) (.dct true), .for (.many [8, 9]) .items [.var 0] [.frz 5, .asg (.one 10) (.call 1 [.var 8, .var 1, .var 5]), .iff (.notN (.var 10)) [.setI (.var 7) (.var 10) (.var 9)] []], .iff (.isi (.var 1) [.cl .Read]) [.setI (.var 7) (.fld (.var 1) .place) (.call 2 [.var 3, .fld (.var 1) .place, .bi .len [.fld (.var 1) .words]])] [], .iff (.isi (.var 1) [.cl .Swap]) [.setI (.var 7) (.fld (.var 1) .place) (.call 3 [.op .idx (.var 0) (.fld (.var 1) .place), .var 1, .op .idx (.var 4) (.int 1), .var 3])] [], .iff (.isi (.var 1) [.cl .PutIn]) [.update (.var 7) (.call 4 [.fld (.var 1) .node, .op .add (.fld (.var 1) .place) (.tup [.op .idx (.fld (.var 1) .node) (.int 0)]), .var 3])] [], .ret (.var 7)]
/-- 0 book 1 place 2 day 3 seen 4 begun 5 tree 6 marks 7 when 8 name 9 number 10 change 11 since 12 counts -/
def fn_origins : List S := [.iff (.isN (.var 3)) [.asg (.one 3) (.var 2)] [], .iff (.isN (.var 4)) [.asg (.one 4) (.var 2)] [], .asg (.one 5) (.meth 0 (.var 0) []), .asg (.one 6) (.call 0 [.var 5, .tup [], .tup [.str ['f', 'i', 'r', 's', 't']]]), .for (.many [7, 8, 9, 10, 11]) .seq [.call 1 [.var 0, .var 3]] [.asg (.one 12) (.and [.op .le (.var 7) (.var 2), .or [.isN (.var 11), .op .le (.var 11) (.var 4)]]), .iff (.and [.var 12, .isN (.meth 1 (.var 10) [.var 5])]) [.frz 6, .asg (.one 6) (.call 2 [.var 6, .var 10, .var 5, .tup [.str ['b', 'y'], .var 8, .var 9]]), .asg (.one 5) (.meth 2 (.var 10) [.var 5])] []], .iff (.op .notin (.var 1) (.var 6)) [.raise .NoPlace none [.var 1]] [], .ret (.bi .list [.op .idx (.var 6) (.var 1)])]
/-- 0 _law_rooms 1 _law_head 2 _law_found 3 _law_spot 4 _law_i -/
def fn_law_marks : List S := [.asg (.one 2) (.dct true), .for (.one 3) .keys [.var 0] [.setI (.var 2) (.var 3) (.comp (.op .add (.var 1) (.tup [.var 3, .var 4])) (.one 4) .range [.bi .len [.op .idx (.var 0) (.var 3)]] [])], .ret (.var 2)]
/-- 0 _law_marks_here 1 _law_rooms 2 _law_change_here 3 _law_head 4 _law_labels 5 _law_found 6 _law_spot 7 _law_goal 8 _law_place_here 9 _law_i 10 _law_at 11 _law_new 12 _law_old -/
def fn_law_follow : List S := [.asg (.one 4) (.call 0 [.var 1, .fld (.var 2) .place]), .asg (.one 5) (.dct true), .for (.one 6) .keys [.var 0] [.frz 4, .asg (.one 7) (.call 1 [.var 6, .var 2, .var 4]), .iff (.notN (.var 7)) [.setI (.var 5) (.var 7) (.op .idx (.var 0) (.var 6))] []], .asg (.one 8) (.fld (.var 2) .place), .iff (.isi (.var 2) [.cl .Read]) [.setI (.var 5) (.var 8) (.comp (.op .add (.var 3) (.tup [.var 8, .var 9])) (.one 9) .range [.bi .len [.fld (.var 2) .words]] [])] [], .iff (.isi (.var 2) [.cl .Swap]) [.asg (.one 10) (.op .idx (.call 2 [.op .idx (.var 1) (.var 8), .fld (.var 2) .old]) (.int 0)), .asg (.one 11) (.comp (.op .add (.var 3) (.tup [.var 8, .var 9])) (.one 9) .range [.bi .len [.fld (.var 2) .new]] []), .asg (.one 12) (.op .idx (.var 0) (.var 8)), .setI (.var 5) (.var 8) (.op .add (.op .add (.slice (.var 12) none (some (.var 10))) (.var 11)) (.slice (.var 12) (some (.op .add (.var 10) (.bi .len [.fld (.var 2) .old]))) none))] [], .iff (.isi (.var 2) [.cl .PutIn]) [.update (.var 5) (.call 3 [.call 4 [.fld (.var 2) .node, .op .add (.var 8) (.tup [.op .idx (.fld (.var 2) .node) (.int 0)])], .var 3])] [], .ret (.var 5)]
/-- 0 node 1 found 2 kid -/
def fn_kids_by_label : List S := [.asg (.one 1) (.dct false), .for (.one 2) .seq [.op .idx (.var 0) (.int 2)] [.setI (.var 1) (.op .idx (.var 2) (.int 0)) (.var 2)], .ret (.var 1)]
/-- 0 one 1 other 2 mine 3 theirs 4 found 5 label 6 kid -/
def fn_gone_into : List S := [.asg (.one 2) (.call 0 [.var 0]), .asg (.one 3) (.call 0 [.var 1]), .asg (.one 4) (.bi .int [.op .ne (.op .idx (.var 0) (.int 1)) (.op .idx (.var 1) (.int 1))]), .frz 2, .for (.many [5, 6]) .items [.var 2] [.iff (.op .isin (.var 5) (.var 3)) [.aug 4 .add (.bi .min2 [.int 2, .call 1 [.var 6, .op .idx (.var 3) (.var 5)]])] [.aug 4 .add (.int 1)]], .frz 3, .for (.one 5) .keys [.var 3] [.iff (.op .notin (.var 5) (.var 2)) [.aug 4 .add (.int 1)] []], .ret (.var 4)]
/-- 0 one 1 other -/
def fn_distance : List S := [.ret (.call 0 [.var 0, .var 1])]
/-- 0 _law_label_here 1 _law_letters -/
def fn_law_rank : List S := [.asg (.one 1) (.bm .lstrip (.var 0) [.str ['0', '1', '2', '3', '4', '5', '6', '7', '8', '9']]), .ret (.tup [.bi .int [.slice (.var 0) none (some (.op .sub (.bi .len [.var 0]) (.bi .len [.var 1])))], .var 1])]
/-- 0 _law_cell 1 _law_factor -/
def fn_law_mix : List S := [.ret (.op .mod (.op .mul (.op .add (.op .mod (.var 0) (.op .pow (.int 10) (.int 18))) (.int 19)) (.var 1)) (.int 2147483647))]
/-- 0 _law_node_here 1 _law_place 2 _law_found 3 _law_kid_here -/
def fn_law_places : List S := [.asg (.one 2) (.lst [.var 1]), .for (.one 3) .seq [.op .idx (.var 0) (.int 2)] [.asg (.one 2) (.op .add (.var 2) (.call 0 [.var 3, .op .add (.var 1) (.tup [.op .idx (.var 3) (.int 0)])]))], .ret (.var 2)]
/-- 0 _law_node_here 1 _law_place 2 _law_label_here 3 _law_some 4 _law_kid_here -/
def fn_law_at : List S := [.for (.one 2) .seq [.var 1] [.asg (.one 3) (.comp (.var 4) (.one 4) .seq [.op .idx (.var 0) (.int 2)] [.op .eq (.op .idx (.var 4) (.int 0)) (.var 2)]), .iff (.op .eq (.var 3) (.lst [])) [.ret .non] [], .asg (.one 0) (.op .idx (.var 3) (.int 0))], .ret (.var 0)]
/-- 0 _law_tree_here 1 _law_cell 2 _law_number 3 _law_spots 4 _law_place 5 _law_node_here 6 _law_kid_here 7 _law_way 8 _law_room 9 _law_above 10 _law_left 11 _law_one 12 _law_old 13 _law_at_here 14 _law_new -/
def fn_law_changed : List S := [.asg (.one 2) (.call 0 [.var 1, .int 48271]), .asg (.one 3) (.call 1 [.var 0, .tup []]), .asg (.one 4) (.op .idx (.var 3) (.op .mod (.call 0 [.var 1, .int 69621]) (.bi .len [.var 3]))), .asg (.one 5) (.call 2 [.var 0, .var 4]), .asg (.one 6) (.call 3 [.call 0 [.var 1, .int 40692]]), .asg (.one 7) (.op .mod (.var 2) (.int 5)), .asg (.one 8) (.and [.op .lt (.bi .len [.var 4]) (.int 6), .op .lt (.bi .len [.var 3]) (.int 60)]), .iff (.and [.op .lt (.var 7) (.int 2), .var 8, .isN (.call 2 [.var 5, .tup [.op .idx (.var 6) (.int 0)]])]) [.ret (.call 4 [.var 0, .var 4, .op .idx (.var 5) (.int 1), .call 5 [.op .add (.op .idx (.var 5) (.int 2)) (.tup [.var 6])]])] [], .iff (.and [.op .eq (.var 7) (.int 2), .op .ne (.var 4) (.tup [])]) [.asg (.one 9) (.call 2 [.var 0, .slice (.var 4) none (some (.neg (.int 1)))]), .asg (.one 10) (.comp (.var 11) (.one 11) .seq [.op .idx (.var 9) (.int 2)] [.op .ne (.op .idx (.var 11) (.int 0)) (.op .idx (.var 4) (.neg (.int 1)))]), .ret (.call 4 [.var 0, .slice (.var 4) none (some (.neg (.int 1))), .op .idx (.var 9) (.int 1), .bi .tuple [.var 10]])] [], .iff (.and [.op .eq (.var 7) (.int 3), .op .ne (.op .idx (.var 5) (.int 1)) (.tup [])]) [.asg (.one 12) (.op .idx (.var 5) (.int 1)), .asg (.one 13) (.op .mod (.op .fdiv (.var 2) (.int 5)) (.bi .len [.var 12])), .asg (.one 14) (.op .add (.op .add (.slice (.var 12) none (some (.var 13))) (.call 6 [.op .fdiv (.var 2) (.int 40)])) (.slice (.var 12) (some (.op .add (.var 13) (.int 1))) none)), .ret (.call 4 [.var 0, .var 4, .var 14, .op .idx (.var 5) (.int 2)])] [], .ret (.call 4 [.var 0, .var 4, .call 6 [.op .fdiv (.var 2) (.int 5)], .op .idx (.var 5) (.int 2)])]
/-- 0 _law_one 1 _law_other 2 _law_found 3 _law_kid_here 4 _law_there -/
def fn_law_far : List S := [.asg (.one 2) (.bi .int [.op .ne (.op .idx (.var 0) (.int 1)) (.op .idx (.var 1) (.int 1))]), .for (.one 3) .seq [.op .idx (.var 0) (.int 2)] [.asg (.one 4) (.call 0 [.var 1, .op .idx (.var 3) (.int 0)]), .iff (.isN (.var 4)) [.asg (.one 2) (.op .add (.var 2) (.int 1))] [.asg (.one 2) (.op .add (.var 2) (.bi .min2 [.int 2, .call 1 [.var 3, .var 4]]))]], .for (.one 3) .seq [.op .idx (.var 1) (.int 2)] [.iff (.isN (.call 0 [.var 0, .op .idx (.var 3) (.int 0)])) [.asg (.one 2) (.op .add (.var 2) (.int 1))] []], .ret (.var 2)]
/-- 0 place 1 kid 2 there -/
def fn_kid_changes : List S := [.iff (.op .gt (.call 0 [.var 1, .var 2]) (.int 2)) [.ret (.lst [.mk 1 [.op .add (.var 0) (.tup [.op .idx (.var 1) (.int 0)])], .mk 2 [.var 0, .var 2]])] [], .ret (.call 3 [.op .add (.var 0) (.tup [.op .idx (.var 1) (.int 0)]), .var 1, .var 2])]
/-- 0 place 1 one 2 other 3 mine 4 theirs 5 found 6 label 7 kid -/
def fn_changes_at : List S := [.asg (.one 3) (.call 0 [.var 1]), .asg (.one 4) (.call 0 [.var 2]), .asg (.one 5) (.lst []), .iff (.op .ne (.op .idx (.var 1) (.int 1)) (.op .idx (.var 2) (.int 1))) [.append (.var 5) (.mk 1 [.var 0, .op .idx (.var 2) (.int 1)])] [], .frz 3, .for (.one 6) .keys [.var 3] [.iff (.op .notin (.var 6) (.var 4)) [.append (.var 5) (.mk 2 [.op .add (.var 0) (.tup [.var 6])])] []], .frz 4, .for (.many [6, 7]) .items [.var 4] [.iff (.op .notin (.var 6) (.var 3)) [.append (.var 5) (.mk 3 [.var 0, .var 7])] []], .frz 3, .for (.many [6, 7]) .items [.var 3] [.iff (.op .isin (.var 6) (.var 4)) [.extend (.var 5) (.call 4 [.var 0, .var 7, .op .idx (.var 4) (.var 6)])] []], .ret (.var 5)]
/-- 0 one 1 other -/
def fn_fewest : List S := [.ret (.call 0 [.tup [], .var 0, .var 1])]
/-- 0 _law_tree_here 1 _law_place 2 _law_kid_here 3 _law_node_here -/
def fn_law_put_done : List S := [.asg (.one 3) (.call 0 [.var 0, .var 1]), .iff (.or [.isN (.var 3), .notN (.call 0 [.var 3, .tup [.op .idx (.var 2) (.int 0)]])]) [.ret .non] [], .ret (.call 1 [.var 0, .var 1, .op .idx (.var 3) (.int 1), .call 2 [.op .add (.op .idx (.var 3) (.int 2)) (.tup [.var 2])]])]
/-- 0 _law_tree_here 1 _law_place 2 _law_node_here 3 _law_left 4 _law_kid_here -/
def fn_law_left_out : List S := [.iff (.or [.op .eq (.var 1) (.tup []), .isN (.call 0 [.var 0, .var 1])]) [.ret .non] [], .asg (.one 2) (.call 0 [.var 0, .slice (.var 1) none (some (.neg (.int 1)))]), .asg (.one 3) (.comp (.var 4) (.one 4) .seq [.op .idx (.var 2) (.int 2)] [.op .ne (.op .idx (.var 4) (.int 0)) (.op .idx (.var 1) (.neg (.int 1)))]), .ret (.call 1 [.var 0, .slice (.var 1) none (some (.neg (.int 1))), .op .idx (.var 2) (.int 1), .bi .tuple [.var 3]])]
/-- 0 label 1 figures -/
def fn_label_rank : List S := [.asg (.one 1) (.bm .rstrip (.var 0) [.glob "LETTERS" ['a', 'b', 'c', 'd', 'e', 'f', 'g', 'h', 'i', 'j', 'k', 'l', 'm', 'n', 'o', 'p', 'q', 'r', 's', 't', 'u', 'v', 'w', 'x', 'y', 'z']]), .ret (.tup [.bi .int [.var 1], .slice (.var 0) (some (.bi .len [.var 1])) none])]
/-- 0 nodes 1 found 2 node 3 kid -/
def fn_labels_in : List S := [.asg (.one 1) (.dct false), .for (.one 2) .seq [.var 0] [.for (.one 3) .seq [.op .idx (.var 2) (.int 2)] [.setI (.var 1) (.op .idx (.var 3) (.int 0)) (.bl true)]], .ret (.sortk 0 (.var 1))]
/-- 0 node 1 label 2 kid -/
def fn_kid_at : List S := [.for (.one 2) .seq [.op .idx (.var 0) (.int 2)] [.iff (.op .eq (.op .idx (.var 2) (.int 0)) (.var 1)) [.ret (.var 2)] []], .ret .non]
/-- 0 place 1 one 2 other 3 found 4 both 5 label 6 mine 7 there 8 spot -/
def fn_plain_at : List S := [.asg (.one 3) (.lst []), .asg (.one 4) (.lst []), .iff (.op .ne (.op .idx (.var 1) (.int 1)) (.op .idx (.var 2) (.int 1))) [.append (.var 3) (.mk 0 [.var 0, .op .idx (.var 2) (.int 1)])] [], .for (.one 5) .seq [.call 1 [.lst [.var 1, .var 2]]] [.asg (.one 6) (.call 2 [.var 1, .var 5]), .asg (.one 7) (.call 2 [.var 2, .var 5]), .iff (.isN (.var 7)) [.append (.var 3) (.mk 3 [.op .add (.var 0) (.tup [.var 5])])] [.iff (.isN (.var 6)) [.append (.var 3) (.mk 4 [.var 0, .var 7])] [.append (.var 4) (.tup [.op .add (.var 0) (.tup [.var 5]), .var 6, .var 7])]]], .frz 4, .for (.many [8, 6, 7]) .seq [.var 4] [.extend (.var 3) (.call 5 [.var 8, .var 6, .var 7])], .ret (.var 3)]
/-- 0 one 1 other -/
def fn_plain_changes : List S := [.ret (.call 0 [.tup [], .var 0, .var 1])]
/-- 0 _law_script 1 _law_first 2 _law_drafts_here 3 _law_cell 4 _law_number 5 _law_draft 6 _law_at_here -/
def fn_law_drafts : List S := [.asg (.one 1) (.call 0 [.slice (.var 0) (some (.int 1)) (some (.int 19))]), .asg (.one 2) (.lst [.var 1, .var 1]), .for (.one 3) .seq [.slice (.var 0) (some (.int 19)) (some (.int 37))] [.asg (.one 4) (.call 1 [.var 3, .int 630360016]), .iff (.op .eq (.op .mod (.var 4) (.int 7)) (.int 0)) [.asg (.one 2) (.comp (.call 2 [.var 5, .var 3]) (.one 5) .seq [.var 2] [])] [.asg (.one 6) (.op .mod (.var 4) (.int 2)), .setI (.var 2) (.var 6) (.call 2 [.op .idx (.var 2) (.var 6), .var 3])]], .ret (.tup [.var 1, .op .idx (.var 2) (.int 0), .op .idx (.var 2) (.int 1)])]
/-- 0 _law_nodes 1 _law_found 2 _law_node_here 3 _law_more 4 _law_kid_here 5 _law_one -/
def fn_law_labels : List S := [.asg (.one 1) (.lst []), .for (.one 2) .seq [.var 0] [.asg (.one 3) (.comp (.op .idx (.var 4) (.int 0)) (.one 4) .seq [.op .idx (.var 2) (.int 2)] []), .asg (.one 1) (.op .add (.var 1) (.comp (.var 5) (.one 5) .seq [.var 3] [.op .notin (.var 5) (.var 1)]))], .ret (.sortk 0 (.var 1))]
/-- 0 first 1 one 2 other -/
def fn_words_together : List S := [.iff (.or [.op .eq (.var 1) (.var 2), .op .eq (.var 2) (.var 0)]) [.ret (.var 1)] [], .iff (.op .eq (.var 1) (.var 0)) [.ret (.var 2)] [], .ret .non]
/-- 0 place 1 first 2 one 3 other -/
def fn_kid_together : List S := [.iff (.isN (.var 1)) [.iff (.or [.isN (.var 2), .op .eq (.var 2) (.var 3)]) [.ret (.tup [.var 3, .lst []])] [], .iff (.isN (.var 3)) [.ret (.tup [.var 2, .lst []])] [], .ret (.tup [.non, .lst [.var 0]])] [], .iff (.and [.isN (.var 2), .isN (.var 3)]) [.ret (.tup [.non, .lst []])] [], .iff (.isN (.var 2)) [.ret (.tup [.non, .op .mul (.lst [.var 0]) (.bi .int [.op .ne (.var 3) (.var 1)])])] [], .iff (.isN (.var 3)) [.ret (.tup [.non, .op .mul (.lst [.var 0]) (.bi .int [.op .ne (.var 2) (.var 1)])])] [], .ret (.call 0 [.var 0, .var 1, .var 2, .var 3])]
/-- 0 place 1 first 2 one 3 other 4 words 5 clashes 6 kids 7 label 8 spot 9 kid 10 more -/
def fn_node_together : List S := [.asg (.one 4) (.call 0 [.op .idx (.var 1) (.int 1), .op .idx (.var 2) (.int 1), .op .idx (.var 3) (.int 1)]), .asg (.one 5) (.op .mul (.lst [.var 0]) (.bi .int [.isN (.var 4)])), .asg (.one 6) (.lst []), .for (.one 7) .seq [.call 1 [.lst [.var 1, .var 2, .var 3]]] [.asg (.one 8) (.op .add (.var 0) (.tup [.var 7])), .asg (.many [9, 10]) (.call 2 [.var 8, .call 3 [.var 1, .var 7], .call 3 [.var 2, .var 7], .call 3 [.var 3, .var 7]]), .extend (.var 5) (.var 10), .iff (.notN (.var 9)) [.append (.var 6) (.var 9)] []], .frz 5, .ret (.tup [.tup [.op .idx (.var 1) (.int 0), .var 4, .bi .tuple [.var 6]], .var 5])]
/-- 0 first 1 one 2 other 3 tree 4 clashes -/
def fn_together : List S := [.asg (.many [3, 4]) (.call 0 [.tup [], .var 0, .var 1, .var 2]), .iff (.op .ne (.var 4) (.lst [])) [.ret (.tup [.str ['c', 'l', 'a', 's', 'h'], .var 4])] [], .ret (.tup [.str ['t', 'r', 'e', 'e'], .var 3])]
/-- 0 word 1 sign -/
def fn_number_in : List S := [.iff (.or [.op .lt (.bi .len [.var 0]) (.int 1), .op .gt (.bi .len [.var 0]) (.int 9), .and [.op .eq (.op .idx (.var 0) (.int 0)) (.str ['0']), .op .gt (.bi .len [.var 0]) (.int 1)]]) [.raise .NoRow none [.str ['n', 'o', ' ', 'n', 'u', 'm', 'b', 'e', 'r']]] [], .for (.one 1) .seq [.var 0] [.iff (.op .notin (.var 1) (.glob "FIGURES_words" ['0', '1', '2', '3', '4', '5', '6', '7', '8', '9'])) [.raise .NoRow none [.str ['n', 'o', ' ', 'n', 'u', 'm', 'b', 'e', 'r']]] []], .ret (.bi .int [.var 0])]
/-- 0 word 1 found -/
def fn_day_in : List S := [.iff (.not (.bm .startswith (.var 0) [.str ['-']])) [.ret (.call 0 [.var 0])] [], .asg (.one 1) (.call 0 [.slice (.var 0) (some (.int 1)) none]), .iff (.op .eq (.var 1) (.int 0)) [.raise .NoRow none [.str ['n', 'o', ' ', 'd', 'a', 'y']]] [], .ret (.op .sub (.int 0) (.var 1))]
/-- 0 word 1 place -/
def fn_place_in : List S := [.tryE [.asg (.one 1) (.call 0 [.var 0])] [.NoPlace] none [.raise .NoRow none [.str ['n', 'o', ' ', 'p', 'l', 'a', 'c', 'e']]] [.ret (.var 1)]]
/-- 0 word 1 found 2 part -/
def fn_words_in : List S := [.iff (.op .eq (.var 0) (.str ['_'])) [.ret (.tup [])] [], .asg (.one 1) (.bi .tuple [.bm .split (.var 0) [.str ['_']]]), .for (.one 2) .seq [.var 1] [.iff (.not (.call 0 [.var 2])) [.raise .NoRow none [.str ['n', 'o', ' ', 'w', 'o', 'r', 'd', 's']]] []], .ret (.var 1)]
/-- 0 words -/
def fn_change_in : List S := [.iff (.and [.op .eq (.op .idx (.var 0) (.int 0)) (.str ['s', 'w', 'a', 'p']), .op .eq (.bi .len [.var 0]) (.int 4), .op .ne (.op .idx (.var 0) (.int 2)) (.str ['_'])]) [.ret (.mk 0 [.call 1 [.op .idx (.var 0) (.int 1)], .call 2 [.op .idx (.var 0) (.int 2)], .call 2 [.op .idx (.var 0) (.int 3)]])] [], .iff (.and [.op .eq (.op .idx (.var 0) (.int 0)) (.str ['r', 'e', 'a', 'd']), .op .eq (.bi .len [.var 0]) (.int 3)]) [.ret (.mk 3 [.call 1 [.op .idx (.var 0) (.int 1)], .call 2 [.op .idx (.var 0) (.int 2)]])] [], .iff (.and [.op .eq (.op .idx (.var 0) (.int 0)) (.str ['i', 'n']), .op .eq (.bi .len [.var 0]) (.int 4), .call 4 [.op .idx (.var 0) (.int 2)]]) [.ret (.mk 5 [.call 1 [.op .idx (.var 0) (.int 1)], .tup [.op .idx (.var 0) (.int 2), .call 2 [.op .idx (.var 0) (.int 3)], .tup []]])] [], .iff (.and [.op .eq (.op .idx (.var 0) (.int 0)) (.str ['o', 'u', 't']), .op .eq (.bi .len [.var 0]) (.int 2)]) [.ret (.mk 6 [.call 1 [.op .idx (.var 0) (.int 1)]])] [], .iff (.and [.op .eq (.op .idx (.var 0) (.int 0)) (.str ['a', 'n', 'e', 'w']), .op .eq (.bi .len [.var 0]) (.int 2)]) [.ret (.mk 7 [.call 1 [.op .idx (.var 0) (.int 1)]])] [], .raise .NoRow none [.str ['n', 'o', ' ', 'c', 'h', 'a', 'n', 'g', 'e']]]
/-- 0 text 1 words 2 day -/
def fn_deed_in : List S := [.asg (.one 1) (.bm .split (.var 0) [.str [' ']]), .iff (.and [.op .eq (.op .idx (.var 1) (.int 0)) (.str ['l', 'a', 't', 'e', 'r']), .op .eq (.bi .len [.var 1]) (.int 4)]) [.ret (.tup [.str ['l', 'a', 't', 'e', 'r'], .op .idx (.var 1) (.int 1), .call 0 [.op .idx (.var 1) (.int 2)], .call 1 [.op .idx (.var 1) (.int 3)]])] [], .iff (.and [.op .eq (.op .idx (.var 1) (.int 0)) (.str ['i', 'n', 's', 't', 'e', 'a', 'd']), .op .gt (.bi .len [.var 1]) (.int 3)]) [.ret (.tup [.str ['i', 'n', 's', 't', 'e', 'a', 'd'], .op .idx (.var 1) (.int 1), .call 0 [.op .idx (.var 1) (.int 2)], .call 2 [.slice (.var 1) (some (.int 3)) none]])] [], .iff (.and [.op .eq (.op .idx (.var 1) (.int 0)) (.str ['d', 'r', 'o', 'p']), .op .eq (.bi .len [.var 1]) (.int 3)]) [.ret (.tup [.str ['d', 'r', 'o', 'p'], .op .idx (.var 1) (.int 1), .call 0 [.op .idx (.var 1) (.int 2)]])] [], .asg (.one 2) (.call 1 [.op .idx (.var 1) (.int 0)]), .iff (.and [.op .gt (.bi .len [.var 1]) (.int 3), .op .eq (.op .idx (.var 1) (.int 1)) (.str ['s', 'i', 'n', 'c', 'e'])]) [.ret (.tup [.str ['c', 'h', 'a', 'n', 'g', 'e'], .var 2, .call 2 [.slice (.var 1) (some (.int 3)) none], .call 1 [.op .idx (.var 1) (.int 2)]])] [], .iff (.op .gt (.bi .len [.var 1]) (.int 1)) [.ret (.tup [.str ['c', 'h', 'a', 'n', 'g', 'e'], .var 2, .call 2 [.slice (.var 1) (some (.int 1)) none], .non])] [], .raise .NoRow none [.str ['n', 'o', ' ', 'd', 'e', 'e', 'd']]]
/-- 0 words 1 least 2 found 3 word -/
def fn_days_in : List S := [.iff (.or [.op .lt (.bi .len [.var 0]) (.var 1), .op .gt (.bi .len [.var 0]) (.op .add (.var 1) (.int 2))]) [.raise .NoRow none [.str ['t', 'o', 'o', ' ', 'm', 'a', 'n', 'y', ' ', 'd', 'a', 'y', 's', ',', ' ', 'o', 'r', ' ', 't', 'o', 'o', ' ', 'f', 'e', 'w']]] [], .asg (.one 2) (.comp (.call 0 [.var 3]) (.one 3) .seq [.var 0] []), .ret (.op .add (.var 2) (.op .mul (.lst [.non]) (.op .sub (.op .add (.var 1) (.int 2)) (.bi .len [.var 2]))))]
/-- 0 told 1 said -/
def fn_way_said : List S := [.iff (.op .eq (.op .idx (.var 0) (.int 0)) (.str ['a', 't'])) [.ret (.call 0 [.op .idx (.var 0) (.int 1)])] [], .asg (.one 1) (.op .add (.op .add (.op .add (.op .add (.op .idx (.var 0) (.int 0)) (.str [' '])) (.op .idx (.var 0) (.int 1))) (.str [' '])) (.bi .str [.op .idx (.var 0) (.int 2)])), .iff (.op .eq (.op .idx (.var 0) (.int 0)) (.str ['n', 'e', 'w'])) [.asg (.one 1) (.op .add (.op .add (.var 1) (.str [' '])) (.call 0 [.op .idx (.var 0) (.int 3)]))] [], .ret (.var 1)]
/-- 0 told -/
def fn_word_said : List S := [.iff (.op .eq (.op .idx (.var 0) (.int 0)) (.str ['f', 'i', 'r', 's', 't'])) [.ret (.op .add (.op .add (.op .add (.str ['f', 'i', 'r', 's', 't', ' ']) (.call 0 [.op .idx (.var 0) (.int 1)])) (.str [' '])) (.bi .str [.op .idx (.var 0) (.int 2)]))] [], .ret (.op .add (.op .add (.op .add (.op .add (.op .add (.op .add (.op .add (.str ['b', 'y', ' ']) (.op .idx (.var 0) (.int 1))) (.str [' '])) (.bi .str [.op .idx (.var 0) (.int 2)])) (.str [' '])) (.call 0 [.op .idx (.var 0) (.int 3)])) (.str [' '])) (.bi .str [.op .idx (.var 0) (.int 4)]))]
/-- 0 self 1 text -/
def fn_Desk___init__ : List S := [.setF (.var 0) .book (.mk 0 [.call 1 [.var 1]])]
/-- 0 self 1 row 2 word 3 gap 4 rest 5 words 6 day 7 seen 8 begun 9 step 10 days 11 text -/
def fn_Desk_say : List S := [.iff (.not (.isi (.var 1) [.str])) [.raise .NoRow none [.str ['n', 'o', ' ', 't', 'e', 'x', 't']]] [], .asg (.many [2, 3, 4]) (.bm .partition (.var 1) [.str [' ']]), .iff (.op .eq (.var 2) (.str ['a', 'c', 't'])) [.ret (.meth 0 (.var 0) [.var 4])] [], .asg (.one 5) (.bm .split (.var 4) [.str [' ']]), .iff (.and [.op .eq (.var 2) (.str ['b', 'a', 'c', 'k']), .op .eq (.bi .len [.var 5]) (.int 3)]) [.expr (.meth 1 (.fld (.var 0) .book) [.op .idx (.var 5) (.int 0), .call 0 [.op .idx (.var 5) (.int 1)], .op .idx (.var 5) (.int 2)]), .ret (.str ['o', 'k'])] [], .iff (.or [.op .eq (.var 2) (.str ['t', 'e', 'x', 't']), .op .eq (.var 2) (.str ['s', 't', 'o', 'r', 'y'])]) [.frz 5, .asg (.many [6, 7, 8]) (.call 1 [.var 5, .int 1]), .iff (.op .eq (.var 2) (.str ['t', 'e', 'x', 't'])) [.ret (.call 2 [.call 3 [.fld (.var 0) .book, .var 6, .var 7, .var 8]])] [], .ret (.bm .join (.str [';', ' ']) [.comp (.call 4 [.var 9]) (.one 9) .seq [.call 5 [.fld (.var 0) .book, .var 6, .var 7, .var 8]] []])] [], .iff (.and [.op .eq (.var 2) (.str ['f', 'a', 'r']), .op .eq (.bi .len [.var 5]) (.int 2)]) [.asg (.one 10) (.comp (.call 0 [.var 11]) (.one 11) .seq [.var 5] []), .ret (.bi .str [.call 6 [.call 7 [.fld (.var 0) .book, .op .idx (.var 10) (.int 0)], .call 7 [.fld (.var 0) .book, .op .idx (.var 10) (.int 1)]]])] [], .iff (.op .isin (.var 2) (.tup [.str ['l', 'e', 'a', 'd', 's'], .str ['f', 'r', 'o', 'm'], .str ['w', 'o', 'r', 'd', 's']])) [.ret (.meth 2 (.var 0) [.var 2, .call 8 [.op .idx (.var 5) (.int 0)], .slice (.var 5) (some (.int 1)) none])] [], .raise .NoRow none [.str ['n', 'o', ' ', 'r', 'o', 'w', ' ', 'o', 'f', ' ', 't', 'h', 'e', ' ', 'd', 'e', 's', 'k']]]
/-- 0 self 1 rest 2 name 3 gap 4 more 5 day 6 behind 7 deeds 8 when 9 some 10 text -/
def fn_Desk_act_said : List S := [.asg (.many [2, 3, 4]) (.bm .partition (.var 1) [.str [' ']]), .asg (.many [5, 6, 7]) (.bm .partition (.var 4) [.str [' ']]), .iff (.op .eq (.var 3) (.str [])) [.raise .NoRow none [.str ['n', 'o', ' ', 'd', 'a', 'y', ' ', 'o', 'f', ' ', 'a', 'n', ' ', 'a', 'c', 't']]] [], .asg (.one 8) (.call 0 [.var 5]), .asg (.one 9) (.lst []), .iff (.op .ne (.var 6) (.str [])) [.asg (.one 9) (.comp (.call 1 [.var 10]) (.one 10) .seq [.bm .split (.var 7) [.str [';', ' ']]] [])] [], .frz 9, .expr (.meth 0 (.fld (.var 0) .book) [.var 2, .var 8, .var 9]), .ret (.str ['o', 'k'])]
/-- 0 self 1 word 2 place 3 words 4 day 5 seen 6 begun 7 told 8 later -/
def fn_Desk_place_said : List S := [.iff (.op .eq (.var 1) (.str ['w', 'o', 'r', 'd', 's'])) [.asg (.many [4, 5, 6]) (.call 0 [.var 3, .int 1]), .ret (.bm .join (.str [';', ' ']) [.comp (.call 1 [.var 7]) (.one 7) .seq [.call 2 [.fld (.var 0) .book, .var 2, .var 4, .var 5, .var 6]] []])] [], .asg (.many [4, 8, 5, 6]) (.call 0 [.var 3, .int 2]), .iff (.op .eq (.var 1) (.str ['l', 'e', 'a', 'd', 's'])) [.ret (.call 3 [.call 4 [.fld (.var 0) .book, .var 2, .var 4, .var 8, .var 5, .var 6]])] [], .ret (.call 3 [.call 5 [.fld (.var 0) .book, .var 2, .var 4, .var 8, .var 5, .var 6]])]
end CM.Pr
end
section
set_option linter.all false
set_option maxRecDepth 100000
namespace CM.K71
open CM
/-- _law_told: 0 _law_one 1 _law_other 2 _law_due 3 _law_found -/
def fn_law_told : List S := [.asg (.one 3) (.call 0 [.var 0, .var 1]), .ret (.and [.call 1 [.var 3], .op .eq (.var 3) (.var 2)])]
/-- law: 0 _law_script 1 _law_cells 2 _law_cut 3 _law_one 4 _law_other 5 _law_cell 6 _law_due 7 _law_bare -/
def fn_law : List S := [.asg (.one 1) (.slice (.var 0) (some (.int 1)) (some (.int 31))), .asg (.one 2) (.op .sub (.bi .len [.var 1]) (.op .mod (.call 0 [.var 0, .int 0]) (.op .add (.bi .len [.var 1]) (.int 1)))), .asg (.one 3) (.call 1 [.slice (.var 1) none (some (.var 2))]), .asg (.one 4) (.var 3), .for (.one 5) .seq [.slice (.var 1) (some (.var 2)) none] [.asg (.one 4) (.call 2 [.var 4, .var 5])], .asg (.one 6) (.call 3 [.var 3, .var 4]), .iff (.or [.not (.call 4 [.var 3, .var 4, .var 6]), .not (.call 4 [.var 4, .var 3, .var 6])]) [.ret (.bl false)] [], .asg (.one 7) (.tup [.str [], .tup [], .tup []]), .iff (.not (.call 4 [.var 7, .var 3, .call 3 [.var 7, .var 3]])) [.ret (.bl false)] [], .ret (.and [.call 4 [.var 3, .var 3, .int 0], .call 4 [.var 4, .var 4, .int 0]])]
def ds : List Def := [
  { np := 1, n := 3, body := Pr.fn_kids_by_label, fs := [], ms := [] },
  { np := 2, n := 7, body := Pr.fn_gone_into, fs := [.fn 0 [], .fn 1 []], ms := [] },
  { np := 2, n := 2, body := Pr.fn_distance, fs := [.fn 1 []], ms := [] },
  { np := 2, n := 2, body := Pr.fn_law_cell_at, fs := [], ms := [] },
  { np := 1, n := 1, body := Pr.fn_law_whole, fs := [], ms := [] },
  { np := 1, n := 2, body := Pr.fn_law_rank, fs := [], ms := [] },
  { np := 2, n := 2, body := Pr.fn_law_mix, fs := [], ms := [] },
  { np := 1, n := 4, body := Pr.fn_law_word_4, fs := [], ms := [] },
  { np := 1, n := 3, body := Pr.fn_law_words_4, fs := [.fn 7 []], ms := [] },
  { np := 1, n := 1, body := Pr.fn_law_label_4, fs := [], ms := [] },
  { np := 1, n := 4, body := Pr.fn_law_kids_2, fs := [.fn 5 []], ms := [] },
  { np := 1, n := 5, body := Pr.fn_law_node_2, fs := [.fn 9 [], .fn 8 [], .fn 10 []], ms := [] },
  { np := 2, n := 4, body := Pr.fn_law_places, fs := [.fn 12 []], ms := [] },
  { np := 2, n := 5, body := Pr.fn_law_at, fs := [], ms := [] },
  { np := 4, n := 6, body := Pr.fn_law_made_2, fs := [.fn 14 []], ms := [] },
  { np := 2, n := 15, body := Pr.fn_law_changed, fs := [.fn 6 [], .fn 12 [], .fn 13 [], .fn 11 [], .fn 14 [], .fn 10 [], .fn 8 []], ms := [] },
  { np := 1, n := 3, body := Pr.fn_law_tree_4, fs := [.fn 15 []], ms := [] },
  { np := 2, n := 3, body := Pr.fn_law_kid_2, fs := [], ms := [] },
  { np := 2, n := 5, body := Pr.fn_law_far, fs := [.fn 17 [], .fn 18 []], ms := [] },
  { np := 3, n := 4, body := fn_law_told, fs := [.fn 2 [], .fn 4 []], ms := [] },
  { np := 1, n := 8, body := fn_law, fs := [.fn 3 [], .fn 16 [], .fn 15 [], .fn 18 [], .fn 19 []], ms := [] }]
end CM.K71
end
section
set_option linter.all false
set_option maxRecDepth 100000
set_option maxHeartbeats 0
namespace CM.K71
open PySem PySem.Spec PyProof.Rows L2 CM
def top (i : Nat) : Stmt := PySem.Challenge.pw_codemend_k71_distance.main.body.getD i (.Pass ⟨0, 0, 0, 0⟩)
def inC (i j : Nat) : Stmt := match top i with
  | .ClassDef _ _ _ b _ _ _ _ _ _ _ => b.getD j (.Pass ⟨0, 0, 0, 0⟩)
  | _ => .Pass ⟨0, 0, 0, 0⟩
def t_kids_by_label : Txt := { at_ := ("kids_by_label", none), qual := "kids_by_label", st := top 1, N := ["node", "found", "kid"], fsN := [], msN := [], dfl := [] }
def t_gone_into : Txt := { at_ := ("gone_into", none), qual := "gone_into", st := top 2, N := ["one", "other", "mine", "theirs", "found", "label", "kid"], fsN := ["kids_by_label", "gone_into"], msN := [], dfl := [] }
def t_distance : Txt := { at_ := ("distance", none), qual := "distance", st := top 3, N := ["one", "other"], fsN := ["gone_into"], msN := [], dfl := [] }
def t_law_cell_at : Txt := { at_ := ("_law_cell_at", none), qual := "_law_cell_at", st := top 5, N := ["_law_script", "_law_k"], fsN := [], msN := [], dfl := [] }
def t_law_whole : Txt := { at_ := ("_law_whole", none), qual := "_law_whole", st := top 6, N := ["_law_found"], fsN := [], msN := [], dfl := [] }
def t_law_rank : Txt := { at_ := ("_law_rank", none), qual := "_law_rank", st := top 7, N := ["_law_label_here", "_law_letters"], fsN := [], msN := [], dfl := [] }
def t_law_mix : Txt := { at_ := ("_law_mix", none), qual := "_law_mix", st := top 8, N := ["_law_cell", "_law_factor"], fsN := [], msN := [], dfl := [] }
def t_law_word : Txt := { at_ := ("_law_word", none), qual := "_law_word", st := top 9, N := ["_law_number", "_law_signs", "_law_size", "_law_k"], fsN := [], msN := [], dfl := [] }
def t_law_words : Txt := { at_ := ("_law_words", none), qual := "_law_words", st := top 10, N := ["_law_number", "_law_many", "_law_k"], fsN := ["_law_word"], msN := [], dfl := [] }
def t_law_label : Txt := { at_ := ("_law_label", none), qual := "_law_label", st := top 11, N := ["_law_number"], fsN := [], msN := [], dfl := [] }
def t_law_kids : Txt := { at_ := ("_law_kids", none), qual := "_law_kids", st := top 12, N := ["_law_kids_here", "_law_found", "_law_kid_here", "_law_label_here"], fsN := ["_law_rank"], msN := [], dfl := [] }
def t_law_node : Txt := { at_ := ("_law_node", none), qual := "_law_node", st := top 13, N := ["_law_number", "_law_inner", "_law_beneath", "_law_other", "_law_kids_here"], fsN := ["_law_label", "_law_words", "_law_kids"], msN := [], dfl := [] }
def t_law_places : Txt := { at_ := ("_law_places", none), qual := "_law_places", st := top 14, N := ["_law_node_here", "_law_place", "_law_found", "_law_kid_here"], fsN := ["_law_places"], msN := [], dfl := [] }
def t_law_at : Txt := { at_ := ("_law_at", none), qual := "_law_at", st := top 15, N := ["_law_node_here", "_law_place", "_law_label_here", "_law_some", "_law_kid_here"], fsN := [], msN := [], dfl := [] }
def t_law_made : Txt := { at_ := ("_law_made", none), qual := "_law_made", st := top 16, N := ["_law_node_here", "_law_place", "_law_words_here", "_law_kids_here", "_law_some", "_law_kid_here"], fsN := ["_law_made"], msN := [], dfl := [] }
def t_law_changed : Txt := { at_ := ("_law_changed", none), qual := "_law_changed", st := top 17, N := ["_law_tree_here", "_law_cell", "_law_number", "_law_spots", "_law_place", "_law_node_here", "_law_kid_here", "_law_way", "_law_room", "_law_above", "_law_left", "_law_one", "_law_old", "_law_at_here", "_law_new"], fsN := ["_law_mix", "_law_places", "_law_at", "_law_node", "_law_made", "_law_kids", "_law_words"], msN := [], dfl := [] }
def t_law_tree : Txt := { at_ := ("_law_tree", none), qual := "_law_tree", st := top 18, N := ["_law_cells", "_law_tree_here", "_law_cell"], fsN := ["_law_changed"], msN := [], dfl := [] }
def t_law_kid : Txt := { at_ := ("_law_kid", none), qual := "_law_kid", st := top 19, N := ["_law_node_here", "_law_label_here", "_law_kid_here"], fsN := [], msN := [], dfl := [] }
def t_law_far : Txt := { at_ := ("_law_far", none), qual := "_law_far", st := top 20, N := ["_law_one", "_law_other", "_law_found", "_law_kid_here", "_law_there"], fsN := ["_law_kid", "_law_far"], msN := [], dfl := [] }
def t_law_told : Txt := { at_ := ("_law_told", none), qual := "_law_told", st := top 21, N := ["_law_one", "_law_other", "_law_due", "_law_found"], fsN := ["distance", "_law_whole"], msN := [], dfl := [] }
def t_law : Txt := { at_ := ("law", none), qual := "law", st := top 22, N := ["_law_script", "_law_cells", "_law_cut", "_law_one", "_law_other", "_law_cell", "_law_due", "_law_bare"], fsN := ["_law_cell_at", "_law_tree", "_law_changed", "_law_far", "_law_told"], msN := [], dfl := [] }
def pg : PG := { ds := ds, ts := [t_kids_by_label, t_gone_into, t_distance, t_law_cell_at, t_law_whole, t_law_rank, t_law_mix, t_law_word, t_law_words, t_law_label, t_law_kids, t_law_node, t_law_places, t_law_at, t_law_made, t_law_changed, t_law_tree, t_law_kid, t_law_far, t_law_told, t_law], gs := [], gi := [], ty := [.bool, .int], cls := [] }
theorem b_kids_by_label : BindOk t_kids_by_label [] := fun K fd F => ⟨[], [], .nil, FunD.bindsN F fun _ _ _ _ _ _ us hl => match us, hl with | [_], _ => rfl, rfl⟩
theorem k_kids_by_label : TxtOk pg t_kids_by_label (ds.getD 0 default) := ⟨⟨by kernel_rfl, by kernel_rfl, by kernel_rfl, by decide +kernel, by kernel_rfl, by decide +kernel, by decide +kernel⟩, by kernel_rfl, by kernel_rfl, by kernel_rfl⟩
theorem b_gone_into : BindOk t_gone_into [] := fun K fd F => ⟨[], [], .nil, FunD.bindsN F fun _ _ _ _ _ _ us hl => match us, hl with | [_, _], _ => rfl, rfl⟩
theorem k_gone_into : TxtOk pg t_gone_into (ds.getD 1 default) := ⟨⟨by kernel_rfl, by kernel_rfl, by kernel_rfl, by decide +kernel, by kernel_rfl, by decide +kernel, by decide +kernel⟩, by kernel_rfl, by kernel_rfl, by kernel_rfl⟩
theorem b_distance : BindOk t_distance [] := fun K fd F => ⟨[], [], .nil, FunD.bindsN F fun _ _ _ _ _ _ us hl => match us, hl with | [_, _], _ => rfl, rfl⟩
theorem k_distance : TxtOk pg t_distance (ds.getD 2 default) := ⟨⟨by kernel_rfl, by kernel_rfl, by kernel_rfl, by decide +kernel, by kernel_rfl, by decide +kernel, by decide +kernel⟩, by kernel_rfl, by kernel_rfl, by kernel_rfl⟩
theorem b_law_cell_at : BindOk t_law_cell_at [] := fun K fd F => ⟨[], [], .nil, FunD.bindsN F fun _ _ _ _ _ _ us hl => match us, hl with | [_, _], _ => rfl, rfl⟩
theorem k_law_cell_at : TxtOk pg t_law_cell_at (ds.getD 3 default) := ⟨⟨by kernel_rfl, by kernel_rfl, by kernel_rfl, by decide +kernel, by kernel_rfl, by decide +kernel, by decide +kernel⟩, by kernel_rfl, by kernel_rfl, by kernel_rfl⟩
theorem b_law_whole : BindOk t_law_whole [] := fun K fd F => ⟨[], [], .nil, FunD.bindsN F fun _ _ _ _ _ _ us hl => match us, hl with | [_], _ => rfl, rfl⟩
theorem k_law_whole : TxtOk pg t_law_whole (ds.getD 4 default) := ⟨⟨by kernel_rfl, by kernel_rfl, by kernel_rfl, by decide +kernel, by kernel_rfl, by decide +kernel, by decide +kernel⟩, by kernel_rfl, by kernel_rfl, by kernel_rfl⟩
theorem b_law_rank : BindOk t_law_rank [] := fun K fd F => ⟨[], [], .nil, FunD.bindsN F fun _ _ _ _ _ _ us hl => match us, hl with | [_], _ => rfl, rfl⟩
theorem k_law_rank : TxtOk pg t_law_rank (ds.getD 5 default) := ⟨⟨by kernel_rfl, by kernel_rfl, by kernel_rfl, by decide +kernel, by kernel_rfl, by decide +kernel, by decide +kernel⟩, by kernel_rfl, by kernel_rfl, by kernel_rfl⟩
theorem b_law_mix : BindOk t_law_mix [] := fun K fd F => ⟨[], [], .nil, FunD.bindsN F fun _ _ _ _ _ _ us hl => match us, hl with | [_, _], _ => rfl, rfl⟩
theorem k_law_mix : TxtOk pg t_law_mix (ds.getD 6 default) := ⟨⟨by kernel_rfl, by kernel_rfl, by kernel_rfl, by decide +kernel, by kernel_rfl, by decide +kernel, by decide +kernel⟩, by kernel_rfl, by kernel_rfl, by kernel_rfl⟩
theorem b_law_word : BindOk t_law_word [] := fun K fd F => ⟨[], [], .nil, FunD.bindsN F fun _ _ _ _ _ _ us hl => match us, hl with | [_], _ => rfl, rfl⟩
theorem k_law_word : TxtOk pg t_law_word (ds.getD 7 default) := ⟨⟨by kernel_rfl, by kernel_rfl, by kernel_rfl, by decide +kernel, by kernel_rfl, by decide +kernel, by decide +kernel⟩, by kernel_rfl, by kernel_rfl, by kernel_rfl⟩
theorem b_law_words : BindOk t_law_words [] := fun K fd F => ⟨[], [], .nil, FunD.bindsN F fun _ _ _ _ _ _ us hl => match us, hl with | [_], _ => rfl, rfl⟩
theorem k_law_words : TxtOk pg t_law_words (ds.getD 8 default) := ⟨⟨by kernel_rfl, by kernel_rfl, by kernel_rfl, by decide +kernel, by kernel_rfl, by decide +kernel, by decide +kernel⟩, by kernel_rfl, by kernel_rfl, by kernel_rfl⟩
theorem b_law_label : BindOk t_law_label [] := fun K fd F => ⟨[], [], .nil, FunD.bindsN F fun _ _ _ _ _ _ us hl => match us, hl with | [_], _ => rfl, rfl⟩
theorem k_law_label : TxtOk pg t_law_label (ds.getD 9 default) := ⟨⟨by kernel_rfl, by kernel_rfl, by kernel_rfl, by decide +kernel, by kernel_rfl, by decide +kernel, by decide +kernel⟩, by kernel_rfl, by kernel_rfl, by kernel_rfl⟩
theorem b_law_kids : BindOk t_law_kids [] := fun K fd F => ⟨[], [], .nil, FunD.bindsN F fun _ _ _ _ _ _ us hl => match us, hl with | [_], _ => rfl, rfl⟩
theorem k_law_kids : TxtOk pg t_law_kids (ds.getD 10 default) := ⟨⟨by kernel_rfl, by kernel_rfl, by kernel_rfl, by decide +kernel, by kernel_rfl, by decide +kernel, by decide +kernel⟩, by kernel_rfl, by kernel_rfl, by kernel_rfl⟩
theorem b_law_node : BindOk t_law_node [] := fun K fd F => ⟨[], [], .nil, FunD.bindsN F fun _ _ _ _ _ _ us hl => match us, hl with | [_], _ => rfl, rfl⟩
theorem k_law_node : TxtOk pg t_law_node (ds.getD 11 default) := ⟨⟨by kernel_rfl, by kernel_rfl, by kernel_rfl, by decide +kernel, by kernel_rfl, by decide +kernel, by decide +kernel⟩, by kernel_rfl, by kernel_rfl, by kernel_rfl⟩
theorem b_law_places : BindOk t_law_places [] := fun K fd F => ⟨[], [], .nil, FunD.bindsN F fun _ _ _ _ _ _ us hl => match us, hl with | [_, _], _ => rfl, rfl⟩
theorem k_law_places : TxtOk pg t_law_places (ds.getD 12 default) := ⟨⟨by kernel_rfl, by kernel_rfl, by kernel_rfl, by decide +kernel, by kernel_rfl, by decide +kernel, by decide +kernel⟩, by kernel_rfl, by kernel_rfl, by kernel_rfl⟩
theorem b_law_at : BindOk t_law_at [] := fun K fd F => ⟨[], [], .nil, FunD.bindsN F fun _ _ _ _ _ _ us hl => match us, hl with | [_, _], _ => rfl, rfl⟩
theorem k_law_at : TxtOk pg t_law_at (ds.getD 13 default) := ⟨⟨by kernel_rfl, by kernel_rfl, by kernel_rfl, by decide +kernel, by kernel_rfl, by decide +kernel, by decide +kernel⟩, by kernel_rfl, by kernel_rfl, by kernel_rfl⟩
theorem b_law_made : BindOk t_law_made [] := fun K fd F => ⟨[], [], .nil, FunD.bindsN F fun _ _ _ _ _ _ us hl => match us, hl with | [_, _, _, _], _ => rfl, rfl⟩
theorem k_law_made : TxtOk pg t_law_made (ds.getD 14 default) := ⟨⟨by kernel_rfl, by kernel_rfl, by kernel_rfl, by decide +kernel, by kernel_rfl, by decide +kernel, by decide +kernel⟩, by kernel_rfl, by kernel_rfl, by kernel_rfl⟩
theorem b_law_changed : BindOk t_law_changed [] := fun K fd F => ⟨[], [], .nil, FunD.bindsN F fun _ _ _ _ _ _ us hl => match us, hl with | [_, _], _ => rfl, rfl⟩
theorem k_law_changed : TxtOk pg t_law_changed (ds.getD 15 default) := ⟨⟨by kernel_rfl, by kernel_rfl, by kernel_rfl, by decide +kernel, by kernel_rfl, by decide +kernel, by decide +kernel⟩, by kernel_rfl, by kernel_rfl, by kernel_rfl⟩
theorem b_law_tree : BindOk t_law_tree [] := fun K fd F => ⟨[], [], .nil, FunD.bindsN F fun _ _ _ _ _ _ us hl => match us, hl with | [_], _ => rfl, rfl⟩
theorem k_law_tree : TxtOk pg t_law_tree (ds.getD 16 default) := ⟨⟨by kernel_rfl, by kernel_rfl, by kernel_rfl, by decide +kernel, by kernel_rfl, by decide +kernel, by decide +kernel⟩, by kernel_rfl, by kernel_rfl, by kernel_rfl⟩
theorem b_law_kid : BindOk t_law_kid [] := fun K fd F => ⟨[], [], .nil, FunD.bindsN F fun _ _ _ _ _ _ us hl => match us, hl with | [_, _], _ => rfl, rfl⟩
theorem k_law_kid : TxtOk pg t_law_kid (ds.getD 17 default) := ⟨⟨by kernel_rfl, by kernel_rfl, by kernel_rfl, by decide +kernel, by kernel_rfl, by decide +kernel, by decide +kernel⟩, by kernel_rfl, by kernel_rfl, by kernel_rfl⟩
theorem b_law_far : BindOk t_law_far [] := fun K fd F => ⟨[], [], .nil, FunD.bindsN F fun _ _ _ _ _ _ us hl => match us, hl with | [_, _], _ => rfl, rfl⟩
theorem k_law_far : TxtOk pg t_law_far (ds.getD 18 default) := ⟨⟨by kernel_rfl, by kernel_rfl, by kernel_rfl, by decide +kernel, by kernel_rfl, by decide +kernel, by decide +kernel⟩, by kernel_rfl, by kernel_rfl, by kernel_rfl⟩
theorem b_law_told : BindOk t_law_told [] := fun K fd F => ⟨[], [], .nil, FunD.bindsN F fun _ _ _ _ _ _ us hl => match us, hl with | [_, _, _], _ => rfl, rfl⟩
theorem k_law_told : TxtOk pg t_law_told (ds.getD 19 default) := ⟨⟨by kernel_rfl, by kernel_rfl, by kernel_rfl, by decide +kernel, by kernel_rfl, by decide +kernel, by decide +kernel⟩, by kernel_rfl, by kernel_rfl, by kernel_rfl⟩
theorem b_law : BindOk t_law [] := fun K fd F => ⟨[], [], .nil, FunD.bindsN F fun _ _ _ _ _ _ us hl => match us, hl with | [_], _ => rfl, rfl⟩
theorem k_law : TxtOk pg t_law (ds.getD 20 default) := ⟨⟨by kernel_rfl, by kernel_rfl, by kernel_rfl, by decide +kernel, by kernel_rfl, by decide +kernel, by decide +kernel⟩, by kernel_rfl, by kernel_rfl, by kernel_rfl⟩
theorem txts : TxtsOk pg pg.ts pg.ds := ⟨⟨k_kids_by_label, b_kids_by_label⟩, ⟨k_gone_into, b_gone_into⟩, ⟨k_distance, b_distance⟩, ⟨k_law_cell_at, b_law_cell_at⟩, ⟨k_law_whole, b_law_whole⟩, ⟨k_law_rank, b_law_rank⟩, ⟨k_law_mix, b_law_mix⟩, ⟨k_law_word, b_law_word⟩, ⟨k_law_words, b_law_words⟩, ⟨k_law_label, b_law_label⟩, ⟨k_law_kids, b_law_kids⟩, ⟨k_law_node, b_law_node⟩, ⟨k_law_places, b_law_places⟩, ⟨k_law_at, b_law_at⟩, ⟨k_law_made, b_law_made⟩, ⟨k_law_changed, b_law_changed⟩, ⟨k_law_tree, b_law_tree⟩, ⟨k_law_kid, b_law_kid⟩, ⟨k_law_far, b_law_far⟩, ⟨k_law_told, b_law_told⟩, ⟨k_law, b_law⟩, trivial⟩
theorem dds : AllP (fun d => AllP (DdOk pg) d.fs) pg.ds := ⟨trivial, ⟨.inl rfl, .inl rfl, trivial⟩, ⟨.inl rfl, trivial⟩, trivial, trivial, trivial, trivial, trivial, ⟨.inl rfl, trivial⟩, trivial, ⟨.inl rfl, trivial⟩, ⟨.inl rfl, .inl rfl, .inl rfl, trivial⟩, ⟨.inl rfl, trivial⟩, trivial, ⟨.inl rfl, trivial⟩, ⟨.inl rfl, .inl rfl, .inl rfl, .inl rfl, .inl rfl, .inl rfl, .inl rfl, trivial⟩, ⟨.inl rfl, trivial⟩, trivial, ⟨.inl rfl, .inl rfl, trivial⟩, ⟨.inl rfl, .inl rfl, trivial⟩, ⟨.inl rfl, .inl rfl, .inl rfl, .inl rfl, .inl rfl, trivial⟩, trivial⟩
def names : List Str := (["kids_by_label", "gone_into", "distance", "_law_cell_at", "_law_whole", "_law_rank", "_law_mix", "_law_word", "_law_words", "_law_label", "_law_kids", "_law_node", "_law_places", "_law_at", "_law_made", "_law_changed", "_law_tree", "_law_kid", "_law_far", "_law_told"] : List Str)
abbrev R0 : PySem.W.OpenRow := PySem.W.OpenLaw.row PySem.Challenge.rw_codemend_k71_distance
abbrev hk : PySem.W.Hook := hookP 4 pg
def ob (s : PySem.W.SharedT) : AlP := obsPG 4 pg (HandSHeadRun.getT s)
theorem ob_eq (s : PySem.W.SharedT) : ob s = hk.obs s.abs := obsPG_eq (HandSHeadRun.getT_eq s)
theorem run (w : World) : HandSHeadRun.RunEq R0 (PySem.W.view R0.prog [22]) hk ob 20000 names w := by
  intro os
  kernel_rfl

end CM.K71
end
section
set_option linter.all false
set_option maxRecDepth 100000
/-! Labels. -/
namespace CM
def figL : List Char := ['0', '1', '2', '3', '4', '5', '6', '7', '8', '9']
def isFig (c : Char) : Bool := decide (c ∈ figL)
/-- how many figures a text begins with -/
def figs (s : List Char) : Nat := (s.takeWhile isFig).length
theorem figs_le (s : List Char) : figs s ≤ s.length := by
  unfold figs
  exact (List.takeWhile_prefix isFig).length_le
theorem figs_step : ∀ {s : List Char} {k : Nat} (hk : k ≤ figs s), (∃ h : k < s.length, isFig s[k] = true) ↔ k < figs s
  | [], k, hk => by simp [figs]
  | c :: s, k, hk => by
    by_cases hc : isFig c = true
    · have e : figs (c :: s) = figs s + 1 := by unfold figs; rw [List.takeWhile_cons_of_pos hc]; rfl
      rw [e] at hk ⊢
      cases k with
      | zero => simp [hc]
      | succ k =>
        have := figs_step (s := s) (k := k) (by omega)
        simp only [List.length_cons, Nat.add_lt_add_iff_right, List.getElem_cons_succ]
        exact this
    · have e : figs (c :: s) = 0 := by unfold figs; rw [List.takeWhile_cons_of_neg hc]; rfl
      rw [e] at hk ⊢
      obtain rfl : k = 0 := by omega
      simp [hc]
theorem while_figs {b : Slots → Sto → R Fw} {c : Slots → Sto → R D} {s : List Char} {st : Sto} {Q : Fw → Sto → Prop} (hs : s.length ≤ 1000)
    (hc : ∀ k, k ≤ s.length → c [some (.str s), some (.int (k : Nat))] st = .ok (.bl (decide (∃ h : k < s.length, isFig s[k] = true))) st)
    (hb : ∀ k : Nat, b [some (.str s), some (.int (k : Nat))] st = .ok (.next [some (.str s), some (.int ((k + 1 : Nat) : Int))]) st)
    (hq : Q (.next [some (.str s), some (.int (figs s))]) st) : wp (whileGo c b turns [some (.str s), some (.int 0)] st) Q := by
  refine while_inv (fun m ρ st' => st' = st ∧ ∃ k, k ≤ figs s ∧ m = figs s - k ∧ ρ = [some (.str s), some (.int (k : Nat))]) turns (figs s) _ st (by have := figs_le s; unfold turns; omega) ⟨rfl, 0, Nat.zero_le _, by simp, rfl⟩ ?_
  rintro m ρ st' ⟨rfl, k, hk, rfl, rfl⟩
  rw [hc k (Nat.le_trans hk (figs_le s))]
  rw [wp_ok]
  by_cases h : ∃ h : k < s.length, isFig s[k] = true
  · rw [decide_eq_true h]
    have h2 := (figs_step hk).mp h
    dsimp only
    rw [hb k, wp_ok]
    exact ⟨figs s - (k + 1), by omega, rfl, k + 1, by omega, rfl, rfl⟩
  · rw [decide_eq_false h]
    have h2 := mt (figs_step hk).mpr h
    obtain rfl : k = figs s := by omega
    exact hq
theorem fig_cond {s : List Char} {st : Sto} {k : Nat} (hs : s.length ≤ 1000) (hk : k ≤ s.length) {a b : R D}
    (e : k < s.length → a = .ok (.bl (decide ((s.getD k ' ') ∈ figL))) st) :
    (if decide ((k : Int) < (s.length : Int)) = true then a else .ok (.bl false) st) = .ok (.bl (decide (∃ h : k < s.length, isFig s[k] = true))) st := by
  by_cases h : k < s.length
  · rw [if_pos (by simpa using h), e h]
    congr 2
    have : s.getD k ' ' = s[k] := by simp [List.getD, h]
    rw [this]
    simp [h, isFig]
  · rw [if_neg (by simpa using h)]
    congr 2
    symm
    rw [decide_eq_false]
    rintro ⟨h', _⟩; exact h h'
theorem figures_in_ok {C : Calls} {s : List Char} {st : Sto} (hs : s.length ≤ 1000) : runFn C 1 2 Pr.fn_figures_in [.str s] st = .ok (.int (figs s)) st := by
  refine eq_of_wp (runFn_wp rfl ?_)
  have hl : s.length ≤ 16777216 := by omega
  simp only [Pr.fn_figures_in, List.map_cons, List.map_nil, List.length_cons, List.length_nil, evSs_cons, evS_asg, ev_int, bind_ok, asgT_one, Option.map_some, ofO_some, nextK_next, wp_bind, evS_while]
  refine while_figs hs (fun k hk => ?_) (fun k => ?_) ?_
  · by_cases h : k < s.length
    · simp [h, idx_s, hl, isFig, figL]
    · simp [h, hl]
  · simp
  · simp

/-- the number that a text of figures tells -/
def valS (s : List Char) : Nat := PySem.NumText.digitsVal (s.map Char.toNat)
theorem isFig_nat {c : Char} (h : isFig c = true) : 48 ≤ c.toNat ∧ c.toNat ≤ 57 := by
  have h := of_decide_eq_true h
  simp only [figL, List.mem_cons, List.not_mem_nil, or_false] at h
  rcases h with h | h | h | h | h | h | h | h | h | h <;> subst h <;> decide
theorem intStr_figs {s : List Char} (h : ∀ c ∈ s, isFig c = true) (h1 : s ≠ []) (h2 : s.length ≤ 640) : intStr s = some (valS s : Int) := by
  unfold intStr
  rw [if_pos h2]
  have e : (toStr s).cps.toList = s.map Char.toNat := by simp [toStr]
  rw [PySem.intText_digits (by
    rw [e]; intro c hc
    obtain ⟨d, hd, rfl⟩ := List.mem_map.mp hc
    exact isFig_nat (h d hd)) (by rw [e]; simpa using h1) (by
    have : (toStr s).length = s.length := by show (toStr s).cps.size = _; simp [toStr]
    omega), e]
  rfl
theorem take_figs {s : List Char} : s.take (figs s) = s.takeWhile isFig := by
  have h := List.takeWhile_prefix isFig (l := s)
  exact (List.prefix_iff_eq_take.mp h).symm
/-- a label's number, its letters -/
def numL (s : List Char) : Nat := valS (s.takeWhile isFig)
def letL (s : List Char) : List Char := s.drop (figs s)
theorem int_take {s : List Char} (h : figs s ≠ 0) (hs : s.length ≤ 640) : intStr (s.take (figs s)) = some (numL s : Int) := by
  rw [take_figs]
  refine intStr_figs (fun c hc => ?_) (fun e => h (by unfold figs; rw [e]; rfl)) ?_
  · exact (List.all_eq_true.mp (List.all_takeWhile (p := isFig) (l := s))) c hc
  · have := figs_le s; unfold figs at this; omega
/-- of labels: a text with figures ahead -/
structure Lbl (s : List Char) : Prop where
  len : s.length ≤ 600
  fig : figs s ≠ 0
def rankD (s : List Char) : D := .tup [.int (numL s), .str (letL s)]
theorem rank_of_ok {C : Calls} {s : List Char} {st : Sto} (hC : ∀ s st, s.length ≤ 1000 → C.f 0 [.str s] st = .ok (.int (figs s)) st) (hs : Lbl s) : runFn C 1 2 Pr.fn_rank_of [.str s] st = .ok (rankD s) st := by
  refine eq_of_wp (runFn_wp rfl ?_)
  have h1 : s.length ≤ 1000 := by have := hs.len; omega
  have h2 : s.length ≤ 16777216 := by have := hs.len; omega
  have h3 := int_take hs.fig (by have := hs.len; omega)
  simp [Pr.fn_rank_of, hC, h1, h2, cut_hi, cut_lo, intB, h3, rankD, letL]
/-- a label ahead of another one -/
def ltL (s t : List Char) : Bool := if numL s = numL t then ltStr (letL s) (letL t) else decide (numL s < numL t)
theorem ltStr_irr : ∀ s : List Char, ltStr s s = false
  | [] => rfl
  | c :: s => by simp [ltStr, ltStr_irr s]
theorem ltD_rank (s t : List Char) : ltD (rankD s) (rankD t) = some (ltL s t) := by
  have e1 : ∀ a b : Nat, peq (.int a) (.int b) = decide (a = b) := fun a b => by
    show ((a : Int) == (b : Int)) = _
    by_cases h : a = b
    · simp [h]
    · have : ¬ (a : Int) = (b : Int) := by omega
      simp [h, this]
  have e2 : ∀ a b : List Char, peq (.str a) (.str b) = decide (a = b) := fun a b => by
    show (a == b) = _
    by_cases h : a = b <;> simp [h]
  simp only [ltD, rankD, List.all_cons, isAtom, List.all_nil, Bool.and_self, Bool.and_true, if_true, ltTup, ltA, e1, e2]
  unfold ltL
  by_cases h : numL s = numL t
  · by_cases h2 : letL s = letL t
    · simp [h, h2, ltStr_irr]
    · simp [h, h2]
  · simp [h]
theorem label_before_ok {C : Calls} {s t : List Char} {st : Sto} (hC : ∀ s st, Lbl s → C.f 0 [.str s] st = .ok (rankD s) st) (hs : Lbl s) (ht : Lbl t) : runFn C 2 2 Pr.fn_label_before [.str s, .str t] st = .ok (.bl (ltL s t)) st := by
  refine eq_of_wp (runFn_wp rfl ?_)
  simp [Pr.fn_label_before, hC, hs, ht, opS, ltD_rank]
/-! ### numbers as texts -/
theorem isFig_digit {c : Char} (h : c.isDigit = true) : isFig c = true := by
  have h2 : 48 ≤ c.toNat ∧ c.toNat ≤ 57 := by
    simp only [Char.isDigit, Bool.and_eq_true, decide_eq_true_eq, UInt32.le_iff_toNat_le] at h
    exact h
  have e : c = Char.ofNat c.toNat := (Char.ofNat_toNat c).symm
  generalize c.toNat = n at h2 e
  have : n = 48 ∨ n = 49 ∨ n = 50 ∨ n = 51 ∨ n = 52 ∨ n = 53 ∨ n = 54 ∨ n = 55 ∨ n = 56 ∨ n = 57 := by omega
  rcases this with h | h | h | h | h | h | h | h | h | h <;> subst h <;> subst e <;> decide
theorem digs_fig {n : Nat} : ∀ c ∈ Nat.toDigits 10 n, isFig c = true := fun _ h => isFig_digit (Nat.isDigit_of_mem_toDigits (by omega) (by omega) h)
theorem digs_len {n k : Nat} (hk : 0 < k) (h : n < 10 ^ k) : (Nat.toDigits 10 n).length ≤ k := (Nat.length_toDigits_le_iff (by omega) hk).mpr h
theorem log2_small {n : Nat} (h : n < 2 ^ 64) : n.log2 < 1920 := by
  by_cases h0 : n = 0
  · subst h0; decide
  · have := (Nat.log2_lt h0).mpr h
    omega
theorem strB_nat {n : Nat} (h : n < 2 ^ 64) : strB (.int n) = some (.str (Nat.toDigits 10 n)) := by
  show (if 0 ≤ (n : Int) ∧ (n : Int).natAbs.log2 < 1920 then some (D.str (strInt n)) else none) = _
  rw [if_pos ⟨by omega, by rw [Int.natAbs_natCast]; exact log2_small h⟩]
  unfold strInt
  rw [if_neg (by omega), Int.natAbs_natCast]
theorem figs_app {s t : List Char} (h : ∀ c ∈ s, isFig c = true) : figs (s ++ t) = s.length + figs t := by
  unfold figs
  rw [List.takeWhile_append_of_pos h, List.length_append]
theorem lbl_digs {n k : Nat} {t : List Char} (hn : n < 10 ^ k) (hk : 0 < k) (hl : k + t.length ≤ 600) : Lbl (Nat.toDigits 10 n ++ t) := by
  refine ⟨?_, ?_⟩
  · rw [List.length_append]; have := digs_len hk hn; omega
  · rw [figs_app digs_fig]
    have : 0 < (Nat.toDigits 10 n).length := Nat.length_toDigits_pos
    omega
theorem atI_mem {xs : List D} {i : Int} (h0 : 0 ≤ i) (h : i < xs.length) : ∃ d, d ∈ xs ∧ atI xs i = some d :=
  ⟨_, List.getElem_mem (by omega), atI_int h0 h⟩
end CM
end
section
set_option linter.all false
set_option maxRecDepth 100000
/-! Labels, words, places as the laws draw them. -/
namespace CM
abbrev Tx := List Char
def letL26 : List Char := ['a', 'b', 'c', 'd', 'e', 'f', 'g', 'h', 'i', 'j', 'k', 'l', 'm', 'n', 'o', 'p', 'q', 'r', 's', 't', 'u', 'v', 'w', 'x', 'y', 'z']
def isLt (c : Char) : Bool := decide (c ∈ letL26)
theorem lt_fig {c : Char} (h : isLt c = true) : isFig c = false := by
  have h := of_decide_eq_true h
  simp only [letL26, List.mem_cons, List.not_mem_nil, or_false] at h
  rcases h with h | h | h | h | h | h | h | h | h | h | h | h | h | h | h | h | h | h | h | h | h | h | h | h | h | h <;> subst h <;> decide
/-- what is_label tells -/
def labB (s : Tx) : Bool := decide (1 ≤ figs s) && decide (figs s ≤ 9) && decide (s[0]?.getD ' ' ≠ '0') && decide (s.length ≤ figs s + 3) && (s.drop (figs s)).all isLt
/-- what is_word tells -/
def wrdB (s : Tx) : Bool := decide (1 ≤ s.length) && decide (s.length ≤ 12) && s.all fun c => isLt c || isFig c
theorem labB_len {s : Tx} (h : labB s = true) : s.length ≤ 12 ∧ figs s ≠ 0 := by
  simp only [labB, Bool.and_eq_true, decide_eq_true_eq] at h
  omega
theorem labB_lbl {s : Tx} (h : labB s = true) : Lbl s := ⟨by have := labB_len h; omega, (labB_len h).2⟩
theorem wrdB_len {s : Tx} (h : wrdB s = true) : 1 ≤ s.length ∧ s.length ≤ 12 := by
  simp only [wrdB, Bool.and_eq_true, decide_eq_true_eq] at h
  omega
/-- a row of texts as a tuple -/
def tsD (p : List Tx) : D := .tup (p.map .str)
theorem digs_head : ∀ {n : Nat}, 0 < n → (Nat.toDigits 10 n)[0]?.getD ' ' ≠ '0' := by
  intro n
  induction n using Nat.strongRecOn with
  | ind n ih =>
    intro h
    by_cases hn : n < 10
    · rw [Nat.toDigits_of_lt_base hn]
      have : n = 1 ∨ n = 2 ∨ n = 3 ∨ n = 4 ∨ n = 5 ∨ n = 6 ∨ n = 7 ∨ n = 8 ∨ n = 9 := by omega
      rcases this with h | h | h | h | h | h | h | h | h <;> subst h <;> decide
    · rw [Nat.toDigits_of_base_le (by omega) (by omega)]
      have h2 := ih (n / 10) (by omega) (by omega)
      have hp := Nat.length_toDigits_pos (b := 10) (n := n / 10)
      rw [List.getElem?_append_left hp]
      exact h2
theorem figs_none {t : Tx} (h : t.all isLt = true) : figs t = 0 := by
  cases t with
  | nil => rfl
  | cons c r =>
    simp only [List.all_cons, Bool.and_eq_true] at h
    unfold figs
    rw [List.takeWhile_cons_of_neg (by rw [lt_fig h.1]; simp)]; rfl
/-- a number, some letters: a label -/
theorem labB_num {n : Nat} {t : Tx} (h0 : 0 < n) (h : n < 10 ^ 9) (ht : t.length ≤ 3) (hl : t.all isLt = true) : labB (Nat.toDigits 10 n ++ t) = true := by
  have e : figs (Nat.toDigits 10 n ++ t) = (Nat.toDigits 10 n).length := by rw [figs_app digs_fig, figs_none hl]; rfl
  have hp := Nat.length_toDigits_pos (b := 10) (n := n)
  have h9 := digs_len (k := 9) (by omega) h
  simp only [labB, e, Bool.and_eq_true, decide_eq_true_eq]
  refine ⟨⟨⟨⟨hp, h9⟩, ?_⟩, by rw [List.length_append]; omega⟩, ?_⟩
  · rw [List.getElem?_append_left hp]; exact digs_head h0
  · rw [List.drop_left]; exact hl
def isStrLt (k : Nat) : D → Bool
  | .str s => decide (s.length ≤ k) && s.all isLt
  | _ => false
theorem pick_lt {xs : List D} {i : Int} {k : Nat} (h0 : 0 ≤ i) (h : i < xs.length) (ok : xs.all (isStrLt k) = true) : ∃ s : Tx, atI xs i = some (.str s) ∧ s.length ≤ k ∧ s.all isLt = true := by
  have hm : xs[i.toNat]'(by omega) ∈ xs := List.getElem_mem _
  have h2 := List.all_eq_true.mp ok _ hm
  have h3 := atI_int h0 h
  generalize xs[i.toNat]'(by omega) = d at h2 h3
  cases d with
  | str n =>
    simp only [isStrLt, Bool.and_eq_true, decide_eq_true_eq] at h2
    exact ⟨n, h3, h2.1, h2.2⟩
  | _ => cases h2
theorem strB_int {n : Int} (h0 : 0 ≤ n) (h : n < 2 ^ 64) : strB (.int n) = some (.str (Nat.toDigits 10 n.toNat)) := by
  obtain ⟨m, rfl⟩ := Int.eq_ofNat_of_zero_le h0
  exact strB_nat (by omega)
theorem law_label_ok {C : Calls} {i : Int} {st : Sto} : ∃ s, runFn C 1 2 Pr.fn_law_label [.int i] st = .ok (.str s) st ∧ labB s = true := by
  obtain ⟨n, e, n0, n1⟩ := pick_int (xs := [D.int 1, D.int 2, D.int 3, D.int 10, D.int (1 + i / 40 * 48271 % 999999999)]) (i := i % 5) (a := 1) (b := 999999999) (by omega) (by simp; omega) (by simp [isIntIn]; omega)
  obtain ⟨t, e2, h1, h2⟩ := pick_lt (xs := [D.str [], D.str ['a'], D.str [], D.str ['b'], D.str ['a', 'a'], D.str [], D.str ['a', 'z'], D.str ['z', 'z', 'z']]) (i := i / 5 % 8) (k := 3) (by omega) (by simp; omega) rfl
  refine ⟨Nat.toDigits 10 n.toNat ++ t, ?_, labB_num (by omega) (by omega) h1 h2⟩
  have hd := digs_len (n := n.toNat) (k := 9) (by omega) (by omega)
  have hs := strB_int (n := n) (by omega) (by omega)
  have : (Nat.toDigits 10 n.toNat).length + t.length ≤ 16777216 := by omega
  refine eq_of_wp (runFn_wp rfl ?_)
  simp [Pr.fn_law_label, e, hs, e2, this]
theorem idx_mem {st : Sto} {x : List Char} {i : Int} (h0 : 0 ≤ i) (h : i < x.length) (hl : x.length ≤ 1000) : ∃ c, c ∈ x ∧ idxS st (.str x) (.int i) = some (.str [c]) := ⟨_, List.getElem_mem _, idx_s' h0 h (by omega)⟩
theorem wrdB_app {t : Tx} {c : Char} {k : Nat} (hk : k < 12) (ht : t.length = k) (h : t.all (fun c => isLt c || isFig c) = true) (hc : (isLt c || isFig c) = true) : (t ++ [c]).length = k + 1 ∧ (t ++ [c]).all (fun c => isLt c || isFig c) = true := by
  refine ⟨by simp [ht], ?_⟩
  rw [List.all_append, h]
  simp only [List.all_cons, List.all_nil, Bool.and_true, Bool.true_and]
  exact hc
theorem law_word_ok {C : Calls} {i : Int} {st : Sto} : ∃ s, runFn C 1 4 Pr.fn_law_word [.int i] st = .ok (.str s) st ∧ wrdB s = true := by
  have H : wp (runFn C 1 4 Pr.fn_law_word [.int i] st) fun d st' => st' = st ∧ ∃ s, d = .str s ∧ wrdB s = true := by
    refine runFn_wp rfl ?_
    obtain ⟨c, hc, e⟩ := idx_mem (st := st) (x := ['a', 'b', '1', 'z']) (i := i % 4) (by omega) (by simp; omega) (by simp)
    refine wp_asg (d := .str [c]) (st' := st) (by simp [e]) ?_
    obtain ⟨n, e2, n0, n1⟩ := pick_int (xs := [D.int 0, D.int 0, D.int 1, D.int 11]) (i := i / 4 % 4) (a := 0) (b := 11) (by omega) (by simp; omega) rfl
    refine wp_forP (ds := [.int n]) (items := rangeL 0 n.toNat) (fun k ρ => ∃ (t : Tx) (a b : Option D), t.length = k + 1 ∧ t.all (fun c => isLt c || isFig c) = true ∧ ρ = [some (.int i), some (.str t), a, b]) (by simp [e2]) (range_items_i (by omega) (by omega)) (by rw [rgL_len]; omega) rfl ⟨[c], _, _, rfl, ?_, rfl⟩ ?_ ?_
    · simp only [List.mem_cons, List.not_mem_nil, or_false] at hc
      rcases hc with h | h | h | h <;> subst h <;> decide
    · rintro k x ρ hx ⟨t, a, b, ht, ha, e3⟩
      subst e3
      obtain ⟨ex, hk⟩ := rangeL_inv hx
      subst ex
      refine ⟨_, rfl, ?_⟩
      refine wp_asg (d := .int (i / 16 + (k : Int) * (1 + i / 5 % 7))) (st' := st) (by simp only [Int.zero_add]; simp [mul_nl (show k < 1000000 by omega)]) ?_
      generalize i / 16 + (k : Int) * (1 + i / 5 % 7) = z
      obtain ⟨c, hc, ec⟩ := idx_mem (st := st) (x := ['a', 'b', 'c', 'd', 'e', 'f', 'g', 'h', 'i', 'j', 'k', 'l', 'm', 'n', 'o', 'p', 'q', 'r', 's', 't', 'u', 'v', 'w', 'x', 'y', 'z', '0', '1', '2', '3', '4', '5', '6', '7', '8', '9']) (i := z % 36) (by omega) (by simp; omega) (by simp)
      have hl : t.length + 1 ≤ 16777216 := by omega
      have hc2 : (isLt c || isFig c) = true := by
        rw [show (['a', 'b', 'c', 'd', 'e', 'f', 'g', 'h', 'i', 'j', 'k', 'l', 'm', 'n', 'o', 'p', 'q', 'r', 's', 't', 'u', 'v', 'w', 'x', 'y', 'z', '0', '1', '2', '3', '4', '5', '6', '7', '8', '9'] : List Char) = letL26 ++ figL from rfl] at hc
        rcases List.mem_append.mp hc with h | h
        · simp [isLt, h]
        · simp [isFig, h]
      obtain ⟨w1, w2⟩ := wrdB_app (k := k + 1) (by omega) ht ha hc2
      refine wp_asg (d := .str (t ++ [c])) (st' := st) (by simp [ec, hl]) (wp_nil ⟨rfl, _, _, _, w1, w2, rfl⟩)
    · rintro ρ ⟨t, a, b, ht, ha, e3⟩
      subst e3
      rw [rgL_len] at ht
      refine wp_ret ?_
      simp only [evB, bor_var, getS_0, getS_s, ofO_some, wp_ok]
      refine ⟨trivial, t, rfl, ?_⟩
      simp only [wrdB, Bool.and_eq_true, decide_eq_true_eq]
      exact ⟨⟨by omega, by omega⟩, ha⟩
  revert H
  cases runFn C 1 4 Pr.fn_law_word [.int i] st with
  | ok d st' =>
    intro H
    obtain ⟨e, s, e2, h⟩ := H.run
    subst e; subst e2
    exact ⟨s, rfl, h⟩
  | _ => intro H; exact H.run.elim
/-- from a run that ends well -/
theorem ex_of_wp {α : Type} {r : R α} {st : Sto} {P : α → Prop} (h : wp r fun a st' => st' = st ∧ P a) : ∃ a, r = .ok a st ∧ P a := by
  cases r with
  | ok a st' => obtain ⟨e, h2⟩ := h.run; subst e; exact ⟨a, rfl, h2⟩
  | _ => exact h.run.elim
/-- a row of such -/
def wordsB (w : List Tx) : Bool := w.all wrdB
theorem comp_texts {C : Calls} {ρ : Slots} {elt : E} {tg : Tg} {ds : List D} {st : Sto} {P : Tx → Prop} : ∀ {items : List D}, (∀ x ∈ items, ∃ s, compB C ρ elt tg [] ds st x st = .ok (some (.str s)) st ∧ P s) → ∃ w : List Tx, compGo (compB C ρ elt tg [] ds st) items st = .ok (w.map .str) st ∧ w.length = items.length ∧ ∀ s ∈ w, P s
  | [], _ => ⟨[], rfl, rfl, by simp⟩
  | x :: r, h => by
    obtain ⟨s, e, hs⟩ := h x (by simp)
    obtain ⟨w, e2, hl, hw⟩ := comp_texts (items := r) fun y hy => h y (by simp [hy])
    refine ⟨s :: w, ?_, by simp [hl], fun z hz => ?_⟩
    · simp only [compGo]
      rw [e, bind_ok, e2, bind_ok]; rfl
    · rcases List.mem_cons.mp hz with rfl | hz
      · exact hs
      · exact hw z hz
theorem law_words_ok {C : Calls} {i : Int} {st : Sto} (hC : ∀ i st, ∃ s, C.f 0 [.int i] st = .ok (.str s) st ∧ wrdB s = true) : ∃ w, runFn C 1 2 Pr.fn_law_words [.int i] st = .ok (tsD w) st ∧ w.length ≤ 4 ∧ ∀ s ∈ w, wrdB s = true := by
  have hr : (i % 5).toNat ≤ 4 := by omega
  obtain ⟨w, e, hl, hw⟩ := comp_texts (C := C) (ρ := [some (.int i), none]) (elt := .call 0 [.op .add (.op .fdiv (.var 0) (.int 5)) (.op .mul (.var 1) (.op .add (.int 1) (.op .mod (.op .fdiv (.var 0) (.int 20)) (.int 3))))]) (tg := .one 1) (ds := [.int (i % 5)]) (st := st) (P := fun s => wrdB s = true) (items := rangeL 0 (i % 5).toNat) fun x hx => by
    obtain ⟨k, hk⟩ := List.mem_iff_getElem?.mp hx
    obtain ⟨ex, hk2⟩ := rangeL_inv hk
    subst ex
    obtain ⟨s, e, hs⟩ := hC (i / 5 + (k : Int) * (1 + i / 20 % 3)) st
    refine ⟨s, ?_, hs⟩
    simp only [Int.zero_add]
    simp [mul_nl (show k < 1000000 by omega), e]
  rw [rgL_len] at hl
  refine ⟨w, ?_, by omega, hw⟩
  refine eq_of_wp (runFn_wp rfl ?_)
  refine wp_ret ?_
  simp
  rw [range_items_i (by omega) (by omega)]
  unfold compOf
  dsimp only
  rw [if_neg (by rw [rgL_len]; omega), e]
  simp [tupB, tsD]
end CM
end
section
set_option linter.all false
set_option maxRecDepth 100000
/-! The order of labels. -/
namespace CM
theorem ofNat_toNat : ∀ s : List Char, (s.map Char.toNat).map Char.ofNat = s
  | [] => rfl
  | c :: s => by simp [ofNat_toNat s]
theorem num_figs {s : Tx} (h : labB s = true) : Nat.toDigits 10 (numL s) = s.takeWhile isFig := by
  simp only [labB, Bool.and_eq_true, decide_eq_true_eq] at h
  obtain ⟨⟨⟨⟨h1, h2⟩, h3⟩, h4⟩, h5⟩ := h
  have hl : (s.takeWhile isFig).length = figs s := rfl
  have := PySem.NumText.toDigits_digitsVal (figs s - 1) ((s.takeWhile isFig).map Char.toNat) (by rw [List.length_map, hl]; omega) (fun c hc => by
    obtain ⟨d, hd, rfl⟩ := List.mem_map.mp hc
    exact isFig_nat (List.all_eq_true.mp (List.all_takeWhile (p := isFig) (l := s)) d hd)) (by
    right
    cases s with
    | nil => simp [figs] at h1
    | cons c r =>
      by_cases hc : isFig c = true
      · rw [List.takeWhile_cons_of_pos hc]
        refine ⟨c.toNat, _, rfl, ?_⟩
        have h6 := isFig_nat hc
        have : c ≠ '0' := by simpa using h3
        have : c.toNat ≠ 48 := fun e => this (Char.ext (UInt32.toNat_inj.mp e))
        omega
      · unfold figs at h1
        rw [List.takeWhile_cons_of_neg hc] at h1
        simp at h1)
  rw [ofNat_toNat] at this
  exact this
theorem lab_split (s : Tx) : s.takeWhile isFig ++ letL s = s := by
  show s.takeWhile isFig ++ s.drop (figs s) = s
  rw [← take_figs]; exact List.take_append_drop _ _
theorem lab_inj {s t : Tx} (hs : labB s = true) (ht : labB t = true) (h1 : numL s = numL t) (h2 : letL s = letL t) : s = t := by
  rw [← lab_split s, ← lab_split t, ← num_figs hs, ← num_figs ht, h1, h2]
theorem toNat_inj {a b : Char} (h : a.toNat = b.toNat) : a = b := Char.ext (UInt32.toNat_inj.mp h)
theorem ltStr_trans : ∀ {x y z : Tx}, ltStr x y = true → ltStr y z = true → ltStr x z = true
  | [], [], _, h, _ => by cases h
  | [], _ :: _, [], _, h => by cases h
  | [], _ :: _, _ :: _, _, _ => rfl
  | _ :: _, [], _, h, _ => by cases h
  | _ :: _, _ :: _, [], _, h => by cases h
  | a :: x, b :: y, c :: z, h1, h2 => by
    simp only [ltStr] at h1 h2 ⊢
    by_cases e1 : a = b
    · subst e1
      rw [if_pos rfl] at h1
      by_cases e2 : a = c
      · subst e2
        rw [if_pos rfl] at h2 ⊢
        exact ltStr_trans h1 h2
      · rw [if_neg e2] at h2 ⊢
        exact h2
    · rw [if_neg e1] at h1
      by_cases e2 : b = c
      · subst e2
        rw [if_neg e1]; exact h1
      · rw [if_neg e2] at h2
        simp only [decide_eq_true_eq] at h1 h2
        rw [if_neg (fun e => by subst e; omega)]
        simp only [decide_eq_true_eq]; omega
theorem ltStr_tri : ∀ {x y : Tx}, x ≠ y → ltStr x y = true ∨ ltStr y x = true
  | [], [], h => absurd rfl h
  | [], _ :: _, _ => .inl rfl
  | _ :: _, [], _ => .inr rfl
  | a :: x, b :: y, h => by
    simp only [ltStr]
    by_cases e : a = b
    · subst e
      rw [if_pos rfl, if_pos rfl]
      exact ltStr_tri fun z => h (by rw [z])
    · rw [if_neg e, if_neg (fun z => e z.symm)]
      have : a.toNat ≠ b.toNat := fun z => e (toNat_inj z)
      simp only [decide_eq_true_eq]; omega
theorem ltL_irr (s : Tx) : ltL s s = false := by simp [ltL, ltStr_irr]
theorem ltL_trans {x y z : Tx} (h1 : ltL x y = true) (h2 : ltL y z = true) : ltL x z = true := by
  unfold ltL at h1 h2 ⊢
  by_cases e1 : numL x = numL y
  · rw [if_pos e1] at h1
    by_cases e2 : numL y = numL z
    · rw [if_pos e2] at h2
      rw [if_pos (e1.trans e2)]
      exact ltStr_trans h1 h2
    · rw [if_neg e2] at h2
      rw [if_neg (fun e => e2 (e1.symm.trans e)), e1]; exact h2
  · rw [if_neg e1] at h1
    simp only [decide_eq_true_eq] at h1
    by_cases e2 : numL y = numL z
    · rw [if_neg (fun e => e1 (e.trans e2.symm))]
      simp only [decide_eq_true_eq]; omega
    · rw [if_neg e2] at h2
      simp only [decide_eq_true_eq] at h2
      rw [if_neg (by omega)]
      simp only [decide_eq_true_eq]; omega
theorem ltL_asym {x y : Tx} (h : ltL x y = true) : ltL y x = false := by
  cases e : ltL y x with
  | false => rfl
  | true => have := ltL_trans h e; rw [ltL_irr] at this; cases this
theorem ltL_tri {x y : Tx} (hx : labB x = true) (hy : labB y = true) (h : x ≠ y) : ltL x y = true ∨ ltL y x = true := by
  unfold ltL
  by_cases e : numL x = numL y
  · rw [if_pos e, if_pos e.symm]
    exact ltStr_tri fun z => h (lab_inj hx hy e z)
  · rw [if_neg e, if_neg (fun z => e z.symm)]
    simp only [decide_eq_true_eq]; omega
/-! ### sorted labels -/
def insL (x : Tx) : List Tx → List Tx
  | [] => [x]
  | y :: r => if ltL y x then y :: insL x r else x :: y :: r
def sortL : List Tx → List Tx
  | [] => []
  | x :: r => insL x (sortL r)
/-- strictly by the order -/
def IncL (l : List Tx) : Prop := l.Pairwise fun a b => ltL a b = true
theorem insL_mem {x z : Tx} : ∀ {l : List Tx}, z ∈ insL x l ↔ z = x ∨ z ∈ l
  | [] => by simp [insL]
  | y :: r => by
    unfold insL
    split
    · simp only [List.mem_cons, insL_mem (l := r)]
      constructor
      · rintro (h | h | h)
        · exact .inr (.inl h)
        · exact .inl h
        · exact .inr (.inr h)
      · rintro (h | h | h)
        · exact .inr (.inl h)
        · exact .inl h
        · exact .inr (.inr h)
    · simp
theorem sortL_mem {z : Tx} : ∀ {l : List Tx}, z ∈ sortL l ↔ z ∈ l
  | [] => by simp [sortL]
  | x :: r => by rw [sortL, insL_mem, sortL_mem, List.mem_cons]
theorem insL_inc {x : Tx} (hx : labB x = true) : ∀ {l : List Tx}, (∀ y ∈ l, labB y = true) → x ∉ l → IncL l → IncL (insL x l)
  | [], _, _, _ => by simp [insL, IncL]
  | y :: r, hl, hn, h => by
    simp only [List.mem_cons, not_or] at hn
    obtain ⟨h1, h2⟩ := List.pairwise_cons.mp h
    unfold insL
    by_cases e : ltL y x = true
    · rw [if_pos e]
      refine List.pairwise_cons.mpr ⟨fun z hz => ?_, insL_inc hx (fun z hz => hl z (by simp [hz])) hn.2 h2⟩
      rcases insL_mem.mp hz with rfl | hz
      · exact e
      · exact h1 z hz
    · rw [if_neg e]
      have exy : ltL x y = true := (ltL_tri hx (hl y (by simp)) hn.1).resolve_right e
      refine List.pairwise_cons.mpr ⟨fun z hz => ?_, h⟩
      rcases List.mem_cons.mp hz with rfl | hz
      · exact exy
      · exact ltL_trans exy (h1 z hz)
theorem sortL_inc : ∀ {l : List Tx}, (∀ y ∈ l, labB y = true) → l.Nodup → IncL (sortL l)
  | [], _, _ => List.Pairwise.nil
  | x :: r, hl, hn => by
    obtain ⟨h1, h2⟩ := List.nodup_cons.mp hn
    exact insL_inc (hl x (by simp)) (fun y hy => hl y (by simp [sortL_mem.mp hy])) (fun z => h1 (sortL_mem.mp z)) (sortL_inc (fun y hy => hl y (by simp [hy])) h2)
/-- a row by the order is told by its members -/
theorem inc_uniq : ∀ {a b : List Tx}, IncL a → IncL b → (∀ x, x ∈ a ↔ x ∈ b) → a = b
  | [], [], _, _, _ => rfl
  | [], y :: b, _, _, h => by have := (h y).mpr (by simp); simp at this
  | x :: a, [], _, _, h => by have := (h x).mp (by simp); simp at this
  | x :: a, y :: b, ha, hb, h => by
    obtain ⟨a1, a2⟩ := List.pairwise_cons.mp ha
    obtain ⟨b1, b2⟩ := List.pairwise_cons.mp hb
    have hxy : x = y := by
      rcases List.mem_cons.mp ((h x).mp (by simp)) with e | hx
      · exact e
      · rcases List.mem_cons.mp ((h y).mpr (by simp)) with e | hy
        · exact e.symm
        · have p := b1 x hx
          have q := a1 y hy
          rw [ltL_asym p] at q; cases q
    subst hxy
    rw [inc_uniq a2 b2 fun z => ⟨fun hz => ?_, fun hz => ?_⟩]
    · rcases List.mem_cons.mp ((h z).mp (by simp [hz])) with e | hz2
      · subst e; have := a1 z hz; rw [ltL_irr] at this; cases this
      · exact hz2
    · rcases List.mem_cons.mp ((h z).mpr (by simp [hz])) with e | hz2
      · subst e; have := b1 z hz; rw [ltL_irr] at this; cases this
      · exact hz2
/-! ### the sort of a def by labels' ranks -/
theorem keys_rank {F : Fn} (hF : ∀ s st, labB s = true → F [.str s] st = .ok (rankD s) st) {st : Sto} : ∀ {l : List Tx}, (∀ s ∈ l, labB s = true) → keysGo (fun d st => F [d] st) (l.map .str) st = .ok (l.map fun s => (rankD s, .str s)) st
  | [], _ => rfl
  | s :: r, h => by
    simp only [List.map_cons, keysGo]
    rw [hF s st (h s (by simp)), bind_ok, keys_rank hF fun x hx => h x (by simp [hx])]
    rfl
theorem ins_rank {s : Tx} : ∀ l : List Tx, insP (rankD s, .str s) (l.map fun s => (rankD s, .str s)) = (insL s l).map fun s => (rankD s, D.str s)
  | [] => rfl
  | y :: r => by
    simp only [List.map_cons, insP, insL]
    have e : ltB (rankD y) (rankD s) = ltL y s := by
      unfold ltB
      rw [ltD_rank]
      cases ltL y s <;> rfl
    rw [e]
    cases ltL y s with
    | true => rw [if_pos rfl, if_pos rfl, ins_rank r]; rfl
    | false => rw [if_neg (by decide), if_neg (by decide)]; rfl
theorem sort_rank : ∀ l : List Tx, sortP (l.map fun s => (rankD s, D.str s)) = (sortL l).map fun s => (rankD s, D.str s)
  | [] => rfl
  | s :: r => by
    simp only [List.map_cons, sortP, sortL]
    rw [sort_rank r, ins_rank]
theorem same_rank (l : List Tx) : sameK (l.map rankD) = true := by
  cases l with
  | nil => rfl
  | cons s r =>
    simp only [List.map_cons, sameK, Bool.and_eq_true]
    refine ⟨rfl, ?_⟩
    rw [List.all_eq_true]
    intro x hx
    obtain ⟨t, _, rfl⟩ := List.mem_map.mp hx
    exact beq_iff_eq.mpr rfl
theorem sortk_rank {F : Fn} (hF : ∀ s st, labB s = true → F [.str s] st = .ok (rankD s) st) {st : Sto} {x : D} {l : List Tx} (hx : srcK st x = some (l.map .str)) (hl : ∀ s ∈ l, labB s = true) : sortkD F x st = .ok (.ol ((sortL l).map .str)) st := by
  unfold sortkD
  rw [hx]
  dsimp only
  rw [keys_rank hF hl, bind_ok]
  unfold sortK
  have e : (l.map fun s => (rankD s, D.str s)).map (·.1) = l.map rankD := by rw [List.map_map]; rfl
  rw [e, if_pos (same_rank l), sort_rank]
  show R.ok (D.ol (((sortL l).map fun s => (rankD s, D.str s)).map (·.2))) st = _
  rw [List.map_map]; rfl
end CM
end
section
set_option linter.all false
set_option maxRecDepth 100000
/-! Places with words: the dict of nodes. -/
namespace CM
abbrev Pl := List Tx
abbrev Nds := List (Pl × List Tx)
def plK (p : Pl) : Ky := .t (p.map .s)
def ndD (ns : Nds) : List (Ky × D) := ns.map fun x => (plK x.1, tsD x.2)
def keysN (ns : Nds) : List Pl := ns.map (·.1)
def putN (p : Pl) (w : List Tx) (ns : Nds) : Nds := if p ∈ keysN ns then ns.map (fun x => if x.1 = p then (x.1, w) else x) else ns ++ [(p, w)]
def getN (p : Pl) (ns : Nds) : Option (List Tx) := (ns.find? fun x => decide (x.1 = p)).map (·.2)
theorem kx_s : ∀ p : Pl, kxsOf (p.map D.str) = some (p.map .s)
  | [] => rfl
  | x :: r => by
    show (match kxOf (.str x), kxsOf (r.map D.str) with
      | some a, some as => some (a :: as)
      | _, _ => none) = _
    rw [kx_s r]; rfl
@[simp] theorem key_ts (p : Pl) : keyOf true (tsD p) = some (plK p) := by
  show (kxsOf (p.map D.str)).map Ky.t = _
  rw [kx_s]; rfl
theorem s_inj : ∀ {p q : Pl}, p.map Kx.s = q.map Kx.s → p = q
  | [], [], _ => rfl
  | [], _ :: _, h => by simp at h
  | _ :: _, [], h => by simp at h
  | x :: p, y :: q, h => by
    simp only [List.map_cons, List.cons.injEq, Kx.s.injEq] at h
    rw [h.1, s_inj h.2]
theorem plK_inj {p q : Pl} (h : plK p = plK q) : p = q := s_inj (Ky.t.inj h)
theorem plK_eq {p q : Pl} : (plK p = plK q) = (p = q) := propext ⟨plK_inj, fun h => by rw [h]⟩
theorem str_inj : ∀ {p q : Pl}, p.map D.str = q.map D.str → p = q
  | [], [], _ => rfl
  | [], _ :: _, h => by simp at h
  | _ :: _, [], h => by simp at h
  | x :: p, y :: q, h => by
    simp only [List.map_cons, List.cons.injEq, D.str.injEq] at h
    rw [h.1, str_inj h.2]
theorem dGet_nd (p : Pl) : ∀ ns : Nds, dGet (plK p) (ndD ns) = (getN p ns).map tsD
  | [] => rfl
  | x :: r => by
    have ih := dGet_nd p r
    show (if plK x.1 = plK p then some (tsD x.2) else dGet (plK p) (ndD r)) = _
    unfold getN
    rw [List.find?_cons]
    by_cases h : x.1 = p
    · simp [h]
    · rw [if_neg (fun z => h (plK_inj z)), ih]
      simp [h, getN]
theorem getN_mem {p : Pl} {ns : Nds} : (getN p ns).isSome = decide (p ∈ keysN ns) := by
  induction ns with
  | nil => rfl
  | cons x r ih =>
    unfold getN keysN at *
    rw [List.find?_cons]
    by_cases h : x.1 = p
    · simp [h]
    · simp only [h, decide_false, List.map_cons, List.mem_cons]
      rw [ih]
      have : (p = x.1 ∨ p ∈ List.map (·.1) r) ↔ p ∈ List.map (·.1) r := ⟨fun z => z.elim (fun e => absurd e.symm h) id, .inr⟩
      simp only [this]
theorem dHas_nd (p : Pl) (ns : Nds) : dHas (plK p) (ndD ns) = decide (p ∈ keysN ns) := by
  unfold dHas
  rw [dGet_nd, Option.isSome_map, getN_mem]
theorem dPut_nd (p : Pl) (w : List Tx) (ns : Nds) : dPut (plK p) (tsD w) (ndD ns) = ndD (putN p w ns) := by
  unfold dPut
  have e : ((ndD ns).any fun q => decide (q.1 = plK p)) = decide (p ∈ keysN ns) := by
    unfold ndD keysN
    rw [List.any_map, Bool.eq_iff_iff]
    simp only [List.any_eq_true, Function.comp, decide_eq_true_eq, plK_eq, List.mem_map]
  rw [e]
  unfold putN
  by_cases h : p ∈ keysN ns
  · rw [if_pos (by simpa using h), if_pos h]
    unfold ndD
    rw [List.map_map, List.map_map]
    congr 1; funext x
    simp only [Function.comp, plK_eq]
    by_cases hx : x.1 = p
    · simp [hx]
    · simp [hx]
  · rw [if_neg (by simpa using h), if_neg h]
    unfold ndD
    rw [List.map_append]; rfl
theorem nd_len (ns : Nds) : (ndD ns).length = ns.length := List.length_map ..
theorem keys_put {p : Pl} {w : List Tx} {ns : Nds} : keysN (putN p w ns) = if p ∈ keysN ns then keysN ns else keysN ns ++ [p] := by
  unfold putN
  by_cases h : p ∈ keysN ns
  · rw [if_pos h, if_pos h]
    unfold keysN
    rw [List.map_map]
    congr 1; funext x
    simp only [Function.comp]
    split <;> rfl
  · rw [if_neg h, if_neg h]
    unfold keysN
    rw [List.map_append]; rfl
/-- a place of so many labels at most -/
def PlOk (k : Nat) (p : Pl) : Prop := p.length ≤ k ∧ ∀ l ∈ p, labB l = true
def WsOk (w : List Tx) : Prop := w.length ≤ 4 ∧ ∀ s ∈ w, wrdB s = true
/-- nodes by places: the tree itself among them, each other one beneath one -/
structure NdsOk (ns : Nds) : Prop where
  nd : (keysN ns).Nodup
  root : [] ∈ keysN ns
  up : ∀ p ∈ keysN ns, p ≠ [] → p.dropLast ∈ keysN ns
  pl : ∀ p ∈ keysN ns, PlOk 8 p
  ws : ∀ x ∈ ns, WsOk x.2
theorem NdsOk.put {ns : Nds} (h : NdsOk ns) {p : Pl} {w : List Tx} (hp : PlOk 8 p) (hu : p ≠ [] → p.dropLast ∈ keysN ns) (hw : WsOk w) : NdsOk (putN p w ns) := by
  have hk : ∀ q, q ∈ keysN ns → q ∈ keysN (putN p w ns) := fun q hq => by
    rw [keys_put]; split
    · exact hq
    · exact List.mem_append_left _ hq
  have hk2 : ∀ q, q ∈ keysN (putN p w ns) → q ∈ keysN ns ∨ q = p := fun q hq => by
    rw [keys_put] at hq
    split at hq
    · exact .inl hq
    · simpa using hq
  refine ⟨?_, hk _ h.root, fun q hq hne => ?_, fun q hq => ?_, fun x hx => ?_⟩
  · rw [keys_put]
    split
    · exact h.nd
    · rename_i hn
      rw [List.nodup_append]
      exact ⟨h.nd, by simp, fun a ha b hb => by simp at hb; subst hb; exact fun z => hn (z ▸ ha)⟩
  · rcases hk2 q hq with hq | rfl
    · exact hk _ (h.up q hq hne)
    · exact hk _ (hu hne)
  · rcases hk2 q hq with hq | rfl
    · exact h.pl q hq
    · exact hp
  · unfold putN at hx
    split at hx
    · obtain ⟨y, hy, rfl⟩ := List.mem_map.mp hx
      split
      · exact hw
      · exact h.ws y hy
    · rcases List.mem_append.mp hx with hx | hx
      · exact h.ws x hx
      · simp at hx; subst hx; exact hw
theorem put_len {p : Pl} {w : List Tx} {ns : Nds} : (putN p w ns).length ≤ ns.length + 1 := by
  unfold putN; split <;> simp
@[simp] theorem notin_nd {st : Sto} {p : Pl} {ns : Nds} : inS st (tsD p) (.od true (ndD ns)) = some (decide (p ∈ keysN ns)) := by
  show ((keyOf true (tsD p)).map fun k => dHas k (ndD ns)) = _
  rw [key_ts, Option.map_some, dHas_nd]
@[simp] theorem setI_nd {st : Sto} {ρ : Slots} {i : Nat} {p : Pl} {w : List Tx} {ns : Nds} (h : ns.length < 16777216) : setIdx (.var i) (.od true (ndD ns)) (tsD p) (tsD w) ρ st = .ok (ρ.set i (some (.od true (ndD (putN p w ns))))) st := by
  show updD (.var i) (.od true (ndD ns)) ρ st (fun t kvs => (keyOf t (tsD p)).bind fun y => if kvs.length < 16777216 then some (dPut y (tsD w) kvs) else none) = _
  unfold updD
  dsimp only
  rw [key_ts, Option.bind_some, nd_len, if_pos h, dPut_nd]
theorem law_nodes_ok {C : Calls} {cells : List D} {st : Sto} (hc : ∀ x ∈ cells, ∃ i, x = .int i) (hl : cells.length ≤ 63) (hC : ∀ i st, ∃ s, C.f 0 [.int i] st = .ok (.str s) st ∧ labB s = true) (hW : ∀ i st, ∃ w, C.f 1 [.int i] st = .ok (tsD w) st ∧ WsOk w) :
    ∃ ns, runFn C 1 6 Pr.fn_law_nodes [.fl cells] st = .ok (.od true (ndD ns)) st ∧ NdsOk ns ∧ ns.length ≤ 64 := by
  have H : wp (runFn C 1 6 Pr.fn_law_nodes [.fl cells] st) fun d st' => st' = st ∧ ∃ ns, d = .od true (ndD ns) ∧ NdsOk ns ∧ ns.length ≤ 64 := by
    refine runFn_wp rfl ?_
    refine wp_asg (d := .od true (ndD [([], [['a', 'l', 'l']])])) (st' := st) (by simp [dct1D, keyOf, kxsOf, ndD, plK, tsD]) ?_
    refine wp_asg (d := .ol ((keysN [([], [['a', 'l', 'l']])]).map tsD)) (st' := st) (by simp [keysN, tsD]) ?_
    refine wp_forP (ds := [.fl cells]) (items := cells) (fun k ρ => ∃ (ns : Nds) (a b c : Option D), NdsOk ns ∧ ns.length ≤ k + 1 ∧ ρ = [some (.fl cells), some (.od true (ndD ns)), some (.ol ((keysN ns).map tsD)), a, b, c]) (by simp) rfl (by omega) rfl ⟨_, _, _, _, ⟨by simp [keysN], by simp [keysN], by simp [keysN], fun p hp => by simp [keysN] at hp; subst hp; exact ⟨by simp, by simp⟩, fun x hx => by simp at hx; subst hx; exact ⟨by simp, fun s hs => by simp at hs; subst hs; decide⟩⟩, by simp, rfl⟩ ?_ ?_
    · rintro k x ρ hx ⟨ns, a, b, c, hn, hk, e⟩
      subst e
      obtain ⟨i, ex⟩ := hc x (List.mem_of_getElem? hx)
      have hk2 := (List.getElem?_eq_some_iff.mp hx).1
      subst ex
      refine ⟨_, rfl, ?_⟩
      -- the place above
      have hlen : 0 < (keysN ns).length := List.length_pos_of_mem hn.root
      obtain ⟨m, hm⟩ : ∃ m : Nat, (m : Int) = (i / 120 + i % 120) % ((keysN ns).length : Int) := ⟨((i / 120 + i % 120) % ((keysN ns).length : Int)).toNat, by
        have := Int.emod_nonneg (i / 120 + i % 120) (show ((keysN ns).length : Int) ≠ 0 by omega)
        omega⟩
      have m1 : m < (keysN ns).length := by
        have := Int.emod_lt_of_pos (i / 120 + i % 120) (show (0 : Int) < (keysN ns).length by omega)
        omega
      obtain ⟨p, hp⟩ : ∃ p, p = (keysN ns)[m] := ⟨_, rfl⟩
      have hpm : p ∈ keysN ns := by rw [hp]; exact List.getElem_mem m1
      have ea : atI ((keysN ns).map tsD) (m : Int) = some (tsD p) := by
        rw [atI_nat (by rw [List.length_map]; exact m1), List.getElem_map, ← hp]
      refine wp_asg (d := tsD p) (st' := st) (by simp [← hm, hlen, ea]) ?_
      obtain ⟨l, el, hlab⟩ := hC (i / 3) st
      have hpl := hn.pl p hpm
      have h8 := hpl.1
      have le1 : p.length + 1 ≤ 16777216 := by omega
      refine wp_asg (d := tsD (p ++ [l])) (st' := st) (by simp [tsD, el, le1]) ?_
      refine wp_midP (fun ρ => ∃ q : Pl, PlOk 8 q ∧ (q ≠ [] → q.dropLast ∈ keysN ns) ∧ ρ = [some (.fl cells), some (.od true (ndD ns)), some (.ol ((keysN ns).map tsD)), some (.int i), some (tsD p), some (tsD q)]) (wp_if (t := (decide (8 < p.length + 1) || (i % 7 == 6))) (st' := st) (by
        by_cases h : 8 < p.length + 1
        · simp [tsD, h, show (8 : Int) < (p.length : Int) + 1 by omega]
        · simp [tsD, h, show ¬ ((8 : Int) < (p.length : Int) + 1) by omega]) (fun _ => ?_) fun h => ?_) ?_
      · refine wp_asg (d := tsD p) (st' := st) (by simp [tsD]) (wp_nil ⟨rfl, p, hpl, hn.up p hpm, rfl⟩)
      · simp only [Bool.or_eq_false_iff, decide_eq_false_iff_not] at h
        refine wp_nil ⟨rfl, p ++ [l], ⟨by simp; omega, fun z hz => ?_⟩, fun _ => by rw [List.dropLast_concat]; exact hpm, rfl⟩
        rcases List.mem_append.mp hz with hz | hz
        · exact hpl.2 z hz
        · simp at hz; subst hz; exact hlab
      rintro _ ⟨q, hq, hu, rfl⟩
      have lk : (keysN ns).length = ns.length := List.length_map ..
      have lk2 : ns.length < 16777216 := by omega
      have lk3 : (keysN ns).length < 16777216 := by omega
      obtain ⟨w, ew, hw⟩ := hW (i / 2) st
      have fz : frz (tsD q) = tsD q := rfl
      have fw : frz (tsD w) = tsD w := rfl
      refine wp_midP (fun ρ => ρ = [some (.fl cells), some (.od true (ndD ns)), some (.ol (if q ∈ keysN ns then (keysN ns).map tsD else (keysN ns).map tsD ++ [tsD q])), some (.int i), some (tsD p), some (tsD q)]) (wp_if (t := !(decide (q ∈ keysN ns))) (st' := st) (by simp) (fun h => ?_) fun h => ?_) ?_
      · have h' : q ∉ keysN ns := by simpa using h
        refine wp_next (ρ' := [some (.fl cells), some (.od true (ndD ns)), some (.ol ((keysN ns).map tsD ++ [tsD q])), some (.int i), some (tsD p), some (tsD q)]) (st' := st) ?_ (wp_nil ⟨rfl, by rw [if_neg h']⟩)
        rw [evS_append, mutL_own (by rfl)]
        simp [lk2, lk, filt_free (show free (tsD q) = true from rfl), fz]
      · have h' : q ∈ keysN ns := by simpa using h
        exact wp_nil ⟨rfl, by rw [if_pos h']⟩
      rintro _ rfl
      refine wp_next (ρ' := [some (.fl cells), some (.od true (ndD (putN q w ns))), some (.ol (if q ∈ keysN ns then (keysN ns).map tsD else (keysN ns).map tsD ++ [tsD q])), some (.int i), some (tsD p), some (tsD q)]) (st' := st) (by simp [ew, filt_free (show free (tsD q) = true from rfl), fw, lk2]) (wp_nil ⟨rfl, putN q w ns, some (.int i), some (tsD p), some (tsD q), hn.put hq hu hw, by have := put_len (p := q) (w := w) (ns := ns); omega, ?_⟩)
      rw [keys_put]
      by_cases h : q ∈ keysN ns
      · simp [h]
      · simp [h]
    · rintro ρ ⟨ns, a, b, c, hn, hk, e⟩
      subst e
      refine wp_ret ?_
      simp
      exact ⟨ns, rfl, hn, by omega⟩
  obtain ⟨d, e, ns, ed, h⟩ := ex_of_wp H
  subst ed
  exact ⟨ns, e, h⟩
end CM
end
section
set_option linter.all false
set_option maxRecDepth 100000
/-! Trees, changes. -/
namespace CM
/-- a node: label, words, kids -/
inductive Tre where
  | nd (l : Tx) (w : List Tx) (ks : List Tre)
  deriving Repr, Inhabited
namespace Tre
def l : Tre → Tx | .nd l _ _ => l
def w : Tre → List Tx | .nd _ w _ => w
def ks : Tre → List Tre | .nd _ _ ks => ks
end Tre
mutual
def treD : Tre → D
  | .nd l w ks => .tup [.str l, tsD w, .tup (treDs ks)]
def treDs : List Tre → List D
  | [] => []
  | t :: r => treD t :: treDs r
end
theorem treDs_map : ∀ ks : List Tre, treDs ks = ks.map treD
  | [] => rfl
  | t :: r => by rw [treDs, treDs_map r]; rfl
/-- a change -/
inductive Chg where
  | swap (p : Pl) (o n : List Tx) | read (p : Pl) (w : List Tx) | put (p : Pl) (t : Tre) | out (p : Pl) | anew (p : Pl)
  deriving Repr, Inhabited
/-- .. as a law's tuple -/
def Chg.tu : Chg → D
  | .swap p o n => .tup [.str ['s', 'w', 'a', 'p'], tsD p, tsD o, tsD n]
  | .read p w => .tup [.str ['r', 'e', 'a', 'd'], tsD p, tsD w]
  | .put p t => .tup [.str ['p', 'u', 't'], tsD p, treD t]
  | .out p => .tup [.str ['o', 'u', 't'], tsD p]
  | .anew p => .tup [.str ['a', 'n', 'e', 'w'], tsD p]
theorem Chg.fz (c : Chg) : frz c.tu = c.tu := by cases c <;> rfl
theorem Chg.fr (c : Chg) : free c.tu = true := by cases c <;> rfl
theorem sIx_neg1 (n : Nat) (d : Nat) : HT.sIx n d (some (-1)) = n - 1 := by
  show (if (-1 : Int) < 0 then ((-1 : Int) + (n : Int)).toNat else min (-1 : Int).toNat n) = n - 1
  rw [if_pos (by omega)]; omega
theorem cut_init {α : Type} {xs : List α} : cutL xs none (some (-1)) = xs.dropLast := by
  unfold cutL
  rw [sIx_neg1, List.dropLast_eq_take]
  show (xs.drop 0).take (xs.length - 1 - 0) = _
  simp
@[simp] theorem frz_ts {p : Pl} : frz (tsD p) = tsD p := rfl
@[simp] theorem filt_ts {p : Pl} : Option.filter free (some (tsD p)) = some (tsD p) := rfl
@[simp] theorem free_ts {p : Pl} : free (tsD p) = true := rfl
theorem okd_ts : ∀ (p : List Tx) (n : Nat), okds n (p.map .str) = true
  | [], _ => rfl
  | x :: r, n => by simp [okds, okd, okd_ts r n]
theorem peq_ts : ∀ p q : List Tx, peqs (p.map .str) (q.map .str) = decide (p = q)
  | [], [] => rfl
  | [], _ :: _ => rfl
  | _ :: _, [] => rfl
  | x :: p, y :: q => by
    show ((x == y) && peqs (p.map .str) (q.map .str)) = _
    rw [peq_ts p q]
    by_cases h : x = y
    · subst h; simp
    · simp [h]
@[simp] theorem eq_ts {st : Sto} {p q : Pl} : eqS st (tsD p) (tsD q) = some (decide (p = q)) := by
  unfold eqS
  have h : ∀ p : Pl, okd 60 (tsD p) = true := fun p => by show (decide (0 < 60) && okds 59 (p.map .str)) = true; rw [okd_ts]; rfl
  rw [h p, h q]
  show some (peqs (p.map .str) (q.map .str)) = _
  rw [peq_ts]
@[simp] theorem eq_ts0 {st : Sto} {p : Pl} : eqS st (tsD p) (.tup []) = some (decide (p = [])) := eq_ts (q := [])
theorem cut_ts {p : Pl} {lo hi : Option Int} : cutL (p.map D.str) lo hi = (cutL p lo hi).map .str := by
  unfold cutL
  simp
@[simp] theorem sl_ts {st : Sto} {p : Pl} {lo hi : Option Int} : sliceS st (tsD p) lo hi = some (tsD (cutL p lo hi)) := by
  show some (D.tup (cutL (p.map D.str) lo hi)) = _
  rw [cut_ts]; rfl
@[simp] theorem add_ts {st : Sto} {p q : Pl} (h : p.length + q.length ≤ 16777216) : opS st .add (tsD p) (tsD q) = some (tsD (p ++ q)) := by
  unfold tsD
  rw [op_add_t (by simpa using h), List.map_append]
@[simp] theorem add_ts1 {st : Sto} {p : Pl} {l : Tx} (h : p.length + 1 ≤ 16777216) : opS st .add (tsD p) (.tup [.str l]) = some (tsD (p ++ [l])) := add_ts (q := [l]) h
@[simp] theorem len_ts {st : Sto} {p : Pl} : lenS st (tsD p) = some (.int p.length) := by
  show some (D.int (p.map D.str).length) = _
  simp
theorem kyD_pl (p : Pl) : kyD (plK p) = tsD p := by
  show D.tup ((p.map Kx.s).map kxD) = _
  rw [List.map_map]; rfl
theorem list_nd {st : Sto} {ns : Nds} : lstB st (.fd true (ndD ns)) = some (.ol ((keysN ns).map tsD)) := by
  show some (D.ol ((ndD ns).map fun p => kyD p.1)) = _
  unfold ndD keysN
  rw [List.map_map, List.map_map]
  congr 3; funext x
  exact kyD_pl x.1
/-- a number taken round -/
theorem emod_nat {z : Int} {n : Nat} (h : 0 < n) : ∃ m : Nat, z % (n : Int) = (m : Int) ∧ m < n :=
  ⟨(z % (n : Int)).toNat, by have := Int.emod_nonneg z (show (n : Int) ≠ 0 by omega); omega, by
    have := Int.emod_nonneg z (show (n : Int) ≠ 0 by omega)
    have := Int.emod_lt_of_pos z (show (0 : Int) < n by omega)
    omega⟩
theorem law_place_ok {C : Calls} {ns : Nds} {i : Int} {st : Sto} (hn : NdsOk ns) (hC : ∀ i st, ∃ s, C.f 0 [.int i] st = .ok (.str s) st ∧ labB s = true) :
    ∃ p, runFn C 2 4 Pr.fn_law_place [.fd true (ndD ns), .int i] st = .ok (tsD p) st ∧ PlOk 8 p := by
  have hlen : 0 < (keysN ns).length := List.length_pos_of_mem hn.root
  obtain ⟨m, em, hm⟩ := emod_nat (z := i / 4 + i % 4 * 3) hlen
  obtain ⟨p, hp⟩ : ∃ p, p = (keysN ns)[m] := ⟨_, rfl⟩
  have hpm : p ∈ keysN ns := by rw [hp]; exact List.getElem_mem hm
  have ea : atI ((keysN ns).map tsD) (m : Int) = some (tsD p) := by
    rw [atI_nat (by rw [List.length_map]; exact hm), List.getElem_map, ← hp]
  have hpl := hn.pl p hpm
  have h8 := hpl.1
  have H : wp (runFn C 2 4 Pr.fn_law_place [.fd true (ndD ns), .int i] st) fun d st' => st' = st ∧ ∃ p, d = tsD p ∧ PlOk 8 p := by
    refine runFn_wp rfl ?_
    refine wp_asg (d := .ol ((keysN ns).map tsD)) (st' := st) (by simp [list_nd]) ?_
    refine wp_asg (d := tsD p) (st' := st) (by simp [hlen, em, ea]) ?_
    obtain ⟨l, el, hlab⟩ := hC (i / 4) st
    obtain ⟨l2, el2, hlab2⟩ := hC (i / 16) st
    refine wp_iffE (t := (i % 4 == 3)) (st' := st) (by simp) (fun _ => ?_) fun _ => ?_
    · refine wp_ret ?_
      have : p.length - 1 + 1 ≤ 16777216 := by omega
      simp [cut_init, el, this]
      refine ⟨_, rfl, by simp; omega, fun z hz => ?_⟩
      rcases List.mem_append.mp hz with hz | hz
      · exact hpl.2 z (List.dropLast_subset p hz)
      · simp at hz; subst hz; exact hlab
    refine wp_iffE (t := (i % 16 == 6) && decide (p.length < 8)) (st' := st) (by
      by_cases h : i % 16 = 6 <;> simp [h]) (fun h => ?_) fun _ => ?_
    · simp only [Bool.and_eq_true, decide_eq_true_eq] at h
      refine wp_ret ?_
      have : p.length + 1 ≤ 16777216 := by omega
      simp [el2, this]
      refine ⟨_, rfl, by simp; omega, fun z hz => ?_⟩
      rcases List.mem_append.mp hz with hz | hz
      · exact hpl.2 z hz
      · simp at hz; subst hz; exact hlab2
    refine wp_ret ?_
    simp
    exact ⟨p, rfl, hpl⟩
  obtain ⟨d, e, p, ed, h⟩ := ex_of_wp H
  subst ed
  exact ⟨p, e, h⟩
mutual
def TreOk : Tre → Prop
  | .nd l w ks => labB l = true ∧ (∀ s ∈ w, wrdB s = true) ∧ TresOk ks
def TresOk : List Tre → Prop
  | [] => True
  | t :: r => TreOk t ∧ TresOk r
end
theorem treOk_nd {l : Tx} {w : List Tx} {ks : List Tre} : TreOk (.nd l w ks) = (labB l = true ∧ (∀ s ∈ w, wrdB s = true) ∧ TresOk ks) := by rw [TreOk]
def Chg.Ok : Chg → Prop
  | .swap p o n => PlOk 8 p ∧ (∀ s ∈ o, wrdB s = true) ∧ (∀ s ∈ n, wrdB s = true) ∧ o ≠ []
  | .read p w => PlOk 8 p ∧ ∀ s ∈ w, wrdB s = true
  | .put p t => PlOk 8 p ∧ TreOk t
  | .out p => PlOk 8 p
  | .anew p => PlOk 8 p
theorem treD_nd {l : Tx} {w : List Tx} {ks : List Tre} : treD (.nd l w ks) = .tup [.str l, tsD w, .tup (treDs ks)] := by rw [treD]
@[simp] theorem frz_tre {t : Tre} : frz (treD t) = treD t := by cases t; rfl
@[simp] theorem filt_tre {t : Tre} : Option.filter free (some (treD t)) = some (treD t) := by cases t; rfl
theorem mem_take {α : Type} {k : Nat} {xs : List α} {a : α} (h : a ∈ xs.take k) : a ∈ xs := List.mem_of_mem_take h
theorem cut_nn {α : Type} {xs : List α} {a b : Int} (h0 : 0 ≤ a) (h1 : 0 ≤ b) : cutL xs (some a) (some b) = (xs.drop a.toNat).take (b.toNat - a.toNat) := by
  obtain ⟨n, rfl⟩ := Int.eq_ofNat_of_zero_le h0
  obtain ⟨m, rfl⟩ := Int.eq_ofNat_of_zero_le h1
  exact cut_mid
theorem getN_ws {ns : Nds} (hn : NdsOk ns) (p : Pl) : ∀ s ∈ (getN p ns).getD [], wrdB s = true := by
  intro s hs
  unfold getN at hs
  cases hf : ns.find? fun x => decide (x.1 = p) with
  | none => rw [hf] at hs; cases hs
  | some x =>
    rw [hf] at hs
    exact (hn.ws x (List.mem_of_find?_eq_some hf)).2 s hs
theorem dget_nd {st : Sto} {p : Pl} {ns : Nds} : dgetD (.fd true (ndD ns)) (tsD p) (.tup []) st = .ok (tsD ((getN p ns).getD [])) st := by
  show (match keyOf true (tsD p) with
      | some y => R.ok ((dGet y (ndD ns)).getD (frz (.tup []))) st
      | none => .bad) = _
  rw [key_ts]
  dsimp only
  rw [dGet_nd]
  cases getN p ns <;> rfl
theorem law_change_ok {C : Calls} {ns : Nds} {i j : Int} {st : Sto} (hn : NdsOk ns) (hP : ∀ i st, ∃ p, C.f 0 [.fd true (ndD ns), .int i] st = .ok (tsD p) st ∧ PlOk 8 p)
    (hW : ∀ i st, ∃ w, C.f 1 [.int i] st = .ok (tsD w) st ∧ WsOk w) (hL : ∀ i st, ∃ s, C.f 2 [.int i] st = .ok (.str s) st ∧ labB s = true) :
    ∃ c : Chg, runFn C 3 7 Pr.fn_law_change [.fd true (ndD ns), .int i, .int j] st = .ok c.tu st ∧ c.Ok := by
  have H : wp (runFn C 3 7 Pr.fn_law_change [.fd true (ndD ns), .int i, .int j] st) fun d st' => st' = st ∧ ∃ c : Chg, d = c.tu ∧ c.Ok := by
    refine runFn_wp rfl ?_
    obtain ⟨p, ep, hp⟩ := hP (i / 5) st
    obtain ⟨w, ew, hw⟩ := hW j st
    obtain ⟨w6, ew6, hw6⟩ := hW (j / 6) st
    obtain ⟨w3, ew3, hw3⟩ := hW (j / 3) st
    obtain ⟨l, el, hl⟩ := hL j st
    have e7 : List.map some [D.fd true (ndD ns), D.int i, D.int j] ++ List.replicate (7 - [D.fd true (ndD ns), D.int i, D.int j].length) none = [some (.fd true (ndD ns)), some (.int i), some (.int j), none, none, none, none] := rfl
    rw [e7]
    refine wp_asg (d := tsD p) (st' := st) (by simp [ep]) ?_
    refine wp_iffE (t := (i % 5 == 0)) (st' := st) (by simp) (fun _ => ?_) fun _ => ?_
    · obtain ⟨o, ho⟩ : ∃ o, o = cutL ((getN p ns).getD []) (some (j % 3)) (some (j % 3 + 1 + j / 3 % 2)) := ⟨_, rfl⟩
      have hoz : ∀ s ∈ o, wrdB s = true := fun s hs => by
        rw [ho, cut_nn (by omega) (by omega)] at hs
        exact getN_ws hn p s (List.mem_of_mem_drop (List.mem_of_mem_take hs))
      refine wp_asg (d := tsD o) (st' := st) (by simp [dget_nd, dcOf, ho]) ?_
      refine wp_midP (fun ρ => ∃ o : List Tx, o ≠ [] ∧ (∀ s ∈ o, wrdB s = true) ∧ ρ = [some (.fd true (ndD ns)), some (.int i), some (.int j), some (tsD p), some (tsD o), none, none]) (wp_if (t := decide (o = [])) (st' := st) (by simp) (fun _ => ?_) fun h => wp_nil ⟨rfl, o, by simpa using h, hoz, rfl⟩) ?_
      · have le1 : min 2 w.length + 1 ≤ 16777216 := by omega
        refine wp_asg (d := tsD (w.take 2 ++ [['a']])) (st' := st) (by
          simp [ew]
          rw [show cutL w none (some 2) = w.take 2 from cut_hi (k := 2)]
          simp [le1]) (wp_nil ⟨rfl, _, by simp, fun s hs => ?_, rfl⟩)
        rcases List.mem_append.mp hs with hs | hs
        · exact hw.2 s (List.mem_of_mem_take hs)
        · simp at hs; subst hs; decide
      clear ho hoz o
      rintro _ ⟨o, ho, hoz, rfl⟩
      refine wp_ret ?_
      simp [ew6]
      exact ⟨.swap p o w6, rfl, hp, hoz, hw6.2, ho⟩
    refine wp_iffE (t := (i % 5 == 1)) (st' := st) (by simp) (fun _ => ?_) fun _ => ?_
    · refine wp_ret ?_
      simp [ew]
      exact ⟨.read p w, rfl, hp, hw.2⟩
    refine wp_iffE (t := (i % 5 == 2)) (st' := st) (by simp) (fun _ => ?_) fun _ => ?_
    · refine wp_asg (d := treD (.nd l w3 [])) (st' := st) (by simp [el, ew3, treD_nd, treDs]) ?_
      obtain ⟨n, e2, n0, n1⟩ := pick_int (xs := [D.int 0, D.int 0, D.int 1, D.int 7]) (i := j / 5 % 4) (a := 0) (b := 7) (by omega) (by simp; omega) rfl
      refine wp_forP (ds := [.int n]) (items := rangeL 0 n.toNat) (fun k ρ => ∃ (t : Tre) (a : Option D), TreOk t ∧ ρ = [some (.fd true (ndD ns)), some (.int i), some (.int j), some (tsD p), none, some (treD t), a]) (by simp [e2]) (range_items_i (by omega) (by omega)) (by rw [rgL_len]; omega) rfl ⟨_, _, by rw [treOk_nd]; exact ⟨hl, hw3.2, by rw [TresOk]; trivial⟩, rfl⟩ ?_ ?_
      · rintro k x ρ hx ⟨t, a, ht, e3⟩
        subst e3
        obtain ⟨ex, hk⟩ := rangeL_inv hx
        subst ex
        refine ⟨_, rfl, ?_⟩
        obtain ⟨l, el, hl⟩ := hL (j / 20 + (0 + (k : Int))) st
        refine wp_asg (d := treD (.nd l [] [t])) (st' := st) (by simp only [Int.zero_add] at el ⊢; simp [el, treD_nd, treDs, tsD]) (wp_nil ⟨rfl, _, _, by rw [treOk_nd]; exact ⟨hl, by simp, by rw [TresOk, TresOk]; exact ⟨ht, trivial⟩⟩, rfl⟩)
      · rintro ρ ⟨t, a, ht, e3⟩
        subst e3
        refine wp_ret ?_
        simp
        exact ⟨.put p t, rfl, hp, ht⟩
    refine wp_iffE (t := (i % 5 == 3)) (st' := st) (by simp) (fun _ => ?_) fun _ => ?_
    · refine wp_ret ?_
      simp
      exact ⟨.out p, rfl, hp⟩
    refine wp_ret ?_
    simp
    exact ⟨.anew p, rfl, hp⟩
  obtain ⟨d, e, c, ed, h⟩ := ex_of_wp H
  subst ed
  exact ⟨c, e, h⟩
end CM
end
section
set_option linter.all false
set_option maxRecDepth 100000
/-! Changes as objects; what is apart. -/
namespace CM
def Chg.cl : Chg → Cl
  | .swap _ _ _ => .Swap
  | .read _ _ => .Read
  | .put _ _ => .PutIn
  | .out _ => .LeaveOut
  | .anew _ => .Anew
def Chg.p : Chg → Pl
  | .swap p _ _ => p
  | .read p _ => p
  | .put p _ => p
  | .out p => p
  | .anew p => p
def Chg.fs : Chg → List (Fl × D)
  | .swap p o n => [(.place, tsD p), (.old, tsD o), (.new, tsD n)]
  | .read p w => [(.place, tsD p), (.words, tsD w)]
  | .put p t => [(.place, tsD p), (.node, treD t)]
  | .out p => [(.place, tsD p)]
  | .anew p => [(.place, tsD p)]
def Chg.obj (c : Chg) : Cell := .obj c.cl c.fs
theorem get_last {st : Sto} {c : Cell} : (st ++ [c])[st.length]? = some c := by simp
theorem set_last {st : Sto} {c d : Cell} : (st ++ [c]).set st.length d = st ++ [d] := by
  rw [List.set_append_right _ _ (Nat.le_refl _)]; simp
@[simp] theorem setFD_last {st : Sto} {c : Cl} {fs : List (Fl × D)} {f : Fl} {d : D} {ρ : Slots} (h : fs.length < 100) : setFD (.ref st.length) f d ρ (st ++ [.obj c fs]) = .ok (.next ρ) (st ++ [.obj c (putFl f (frz d) fs)]) := by
  unfold setFD setFld
  dsimp only
  rw [get_last]
  dsimp only
  rw [if_pos h, set_last]
theorem swap_init {C : Calls} {st : Sto} {a b c : D} (ha : free a = true) (hb : free b = true) (hc : free c = true) : runFn C 4 4 Pr.fn_Swap___init__ [.ref st.length, a, b, c] (st ++ [.obj .Swap []]) = .ok .non (st ++ [.obj .Swap [(.place, frz a), (.old, frz b), (.new, frz c)]]) := by
  refine eq_of_wp (runFn_wp rfl ?_)
  simp [Pr.fn_Swap___init__, filt_free ha, filt_free hb, filt_free hc, putFl]
theorem read_init {C : Calls} {st : Sto} {a b : D} (ha : free a = true) (hb : free b = true) : runFn C 3 3 Pr.fn_Read___init__ [.ref st.length, a, b] (st ++ [.obj .Read []]) = .ok .non (st ++ [.obj .Read [(.place, frz a), (.words, frz b)]]) := by
  refine eq_of_wp (runFn_wp rfl ?_)
  simp [Pr.fn_Read___init__, filt_free ha, filt_free hb, putFl]
theorem put_init {C : Calls} {st : Sto} {a b : D} (ha : free a = true) (hb : free b = true) : runFn C 3 3 Pr.fn_PutIn___init__ [.ref st.length, a, b] (st ++ [.obj .PutIn []]) = .ok .non (st ++ [.obj .PutIn [(.place, frz a), (.node, frz b)]]) := by
  refine eq_of_wp (runFn_wp rfl ?_)
  simp [Pr.fn_PutIn___init__, filt_free ha, filt_free hb, putFl]
theorem out_init {C : Calls} {st : Sto} {a : D} (ha : free a = true) : runFn C 2 2 Pr.fn_LeaveOut___init__ [.ref st.length, a] (st ++ [.obj .LeaveOut []]) = .ok .non (st ++ [.obj .LeaveOut [(.place, frz a)]]) := by
  refine eq_of_wp (runFn_wp rfl ?_)
  simp [Pr.fn_LeaveOut___init__, filt_free ha, putFl]
theorem anew_init {C : Calls} {st : Sto} {a : D} (ha : free a = true) : runFn C 2 2 Pr.fn_Anew___init__ [.ref st.length, a] (st ++ [.obj .Anew []]) = .ok .non (st ++ [.obj .Anew [(.place, frz a)]]) := by
  refine eq_of_wp (runFn_wp rfl ?_)
  simp [Pr.fn_Anew___init__, filt_free ha, putFl]
/-- what the classes' calls make -/
structure MkOk (C : Calls) (ks : Nat × Nat × Nat × Nat × Nat) : Prop where
  swap : ∀ p o n st, C.f ks.1 [tsD p, tsD o, tsD n] st = .ok (.ref st.length) (st ++ [(Chg.swap p o n).obj])
  read : ∀ p w st, C.f ks.2.1 [tsD p, tsD w] st = .ok (.ref st.length) (st ++ [(Chg.read p w).obj])
  put : ∀ p t st, C.f ks.2.2.1 [tsD p, treD t] st = .ok (.ref st.length) (st ++ [(Chg.put p t).obj])
  out : ∀ p st, C.f ks.2.2.2.1 [tsD p] st = .ok (.ref st.length) (st ++ [(Chg.out p).obj])
  anew : ∀ p st, C.f ks.2.2.2.2 [tsD p] st = .ok (.ref st.length) (st ++ [(Chg.anew p).obj])
@[simp] theorem eq_tag {st : Sto} {x y : List Char} : eqS st (.str x) (.str y) = some (x == y) := eq_s
theorem law_made_ok {C : Calls} {c : Chg} {st : Sto} (hC : MkOk C (0, 1, 2, 3, 4)) : runFn C 1 1 Pr.fn_law_made [c.tu] st = .ok (.ref st.length) (st ++ [c.obj]) := by
  refine eq_of_wp (runFn_wp rfl ?_)
  cases c with
  | swap p o n => simp [Pr.fn_law_made, Chg.tu, atI, L2.ixN, hC.swap]
  | read p w => simp [Pr.fn_law_made, Chg.tu, atI, L2.ixN, hC.read]
  | put p t => simp [Pr.fn_law_made, Chg.tu, atI, L2.ixN, hC.put]
  | out p => simp [Pr.fn_law_made, Chg.tu, atI, L2.ixN, hC.out]
  | anew p => simp [Pr.fn_law_made, Chg.tu, atI, L2.ixN, hC.anew]
/-! ### what a change touches -/
def Chg.goal : Chg → Pl
  | .put p t => p ++ [t.l]
  | c => c.p
def Chg.part : Chg → Tx
  | .swap _ _ _ => ['w', 'o', 'r', 'd', 's']
  | .read _ _ => ['w', 'o', 'r', 'd', 's']
  | .put _ _ => ['f', 'r', 'o', 'm']
  | .out _ => ['f', 'r', 'o', 'm']
  | .anew _ => ['b', 'e', 'n', 'e', 'a', 't', 'h']
def leadsB (p q : Pl) : Bool := decide (q.take p.length = p)
def metB (p : Pl) (part : Tx) (q : Pl) : Bool := if part = ['w', 'o', 'r', 'd', 's'] then decide (p = q) else if part = ['f', 'r', 'o', 'm'] then leadsB q p else !decide (q = p) && leadsB q p
def apartB (c d : Chg) : Bool := if c.part = ['w', 'o', 'r', 'd', 's'] then !metB c.goal d.part d.goal else if d.part = ['w', 'o', 'r', 'd', 's'] then !metB d.goal c.part c.goal else !leadsB c.goal d.goal && !leadsB d.goal c.goal
theorem isTy_obj {st : Sto} {n : Nat} {c : Cl} {fs : List (Fl × D)} {t : Cl} (h : st[n]? = some (.obj c fs)) : isTys st (.ref n) [.cl t] = some (c.isSub t) := by
  have e : isTy st (.ref n) (.cl t) = some (c.isSub t) := by
    unfold isTy; dsimp only; rw [h]
  show (match isTy st (.ref n) (.cl t) with
    | some true => some true
    | some false => some false
    | none => none) = _
  rw [e]
  cases c.isSub t <;> rfl
theorem fld_obj {st : Sto} {n : Nat} {c : Cl} {fs : List (Fl × D)} {f : Fl} (h : st[n]? = some (.obj c fs)) : fldOf st f (.ref n) = fs.lookup f := by
  unfold fldOf; dsimp only; rw [h]
theorem tre0 {st : Sto} {t : Tre} : idxS st (treD t) (.int 0) = some (.str t.l) := by cases t; rfl
theorem touched_ok {C : Calls} {c : Chg} {st : Sto} {n : Nat} (h : st[n]? = some c.obj) (hp : c.p.length ≤ 100) : runFn C 1 1 Pr.fn_touched [.ref n] st = .ok (.tup [.str c.part, tsD c.goal]) st := by
  refine eq_of_wp (runFn_wp rfl ?_)
  have h1 := fun t => isTy_obj (t := t) h
  have h2 := fun f => fld_obj (f := f) h
  cases c with
  | put p t =>
    have hl : p.length + 1 ≤ 16777216 := by simp only [Chg.p] at hp; omega
    simp [Pr.fn_touched, h1, h2, Chg.cl, Chg.fs, Cl.isSub, Cl.base, List.lookup, tre0, hl, Chg.part, Chg.goal]
  | _ => simp [Pr.fn_touched, h1, h2, Chg.cl, Chg.fs, Cl.isSub, Cl.base, List.lookup, Chg.part, Chg.goal, Chg.p]
theorem leads_ok {C : Calls} {p q : Pl} {st : Sto} : runFn C 2 2 Pr.fn_leads_to_it [tsD p, tsD q] st = .ok (.bl (leadsB p q)) st := by
  refine eq_of_wp (runFn_wp rfl ?_)
  simp [Pr.fn_leads_to_it, cut_hi, leadsB]
theorem met_ok {C : Calls} {p q : Pl} {x : Tx} {st : Sto} (hC : ∀ p q st, C.f 0 [tsD p, tsD q] st = .ok (.bl (leadsB p q)) st) : runFn C 3 3 Pr.fn_words_met [tsD p, .str x, tsD q] st = .ok (.bl (metB p x q)) st := by
  refine eq_of_wp (runFn_wp rfl ?_)
  by_cases h1 : x = ['w', 'o', 'r', 'd', 's']
  · simp [Pr.fn_words_met, h1, metB]
  · by_cases h2 : x = ['f', 'r', 'o', 'm']
    · simp [Pr.fn_words_met, h2, metB, hC]
    · by_cases h3 : q = p
      · simp [Pr.fn_words_met, h1, h2, metB, hC, h3]
      · simp [Pr.fn_words_met, h1, h2, metB, hC, h3]
theorem apart_ok {C : Calls} {c d : Chg} {st : Sto} {n m : Nat} (h1 : st[n]? = some c.obj) (h2 : st[m]? = some d.obj) (hT : ∀ c n, st[n]? = some (Chg.obj c) → c.p.length ≤ 100 → C.f 0 [.ref n] st = .ok (.tup [.str c.part, tsD c.goal]) st)
    (hM : ∀ p x q st, C.f 1 [tsD p, .str x, tsD q] st = .ok (.bl (metB p x q)) st) (hL : ∀ p q st, C.f 2 [tsD p, tsD q] st = .ok (.bl (leadsB p q)) st) (hc : c.p.length ≤ 100) (hd : d.p.length ≤ 100) :
    runFn C 2 6 Pr.fn_are_apart [.ref n, .ref m] st = .ok (.bl (apartB c d)) st := by
  refine eq_of_wp (runFn_wp rfl ?_)
  have t1 := hT c n h1 hc
  have t2 := hT d m h2 hd
  by_cases a1 : c.part = ['w', 'o', 'r', 'd', 's']
  · simp [Pr.fn_are_apart, t1, t2, a1, apartB, hM]
  · by_cases a2 : d.part = ['w', 'o', 'r', 'd', 's']
    · simp [Pr.fn_are_apart, t1, t2, a1, a2, apartB, hM]
    · cases a3 : leadsB c.goal d.goal <;> simp [Pr.fn_are_apart, t1, t2, a1, a2, a3, apartB, hL]
end CM
end
section
set_option linter.all false
set_option maxRecDepth 100000
/-! Trees by drawn changes. -/
namespace CM
theorem law_mix_ok {C : Calls} {i f : Int} {st : Sto} (h0 : 0 ≤ f) (h : f < 10 ^ 15) : ∃ n : Int, runFn C 2 2 Pr.fn_law_mix [.int i, .int f] st = .ok (.int n) st ∧ 0 ≤ n ∧ n < 2147483647 := by
  refine ⟨(i % 10 ^ 18 + 19) * f % 2147483647, eq_of_wp (runFn_wp rfl ?_), by omega, by omega⟩
  refine wp_ret ?_
  have hp : opS st .pow (.int 10) (.int 18) = some (.int (10 ^ 18)) := rfl
  have hm : opS st .mul (.int (i % 10 ^ 18 + 19)) (.int f) = some (.int ((i % 10 ^ 18 + 19) * f)) := op_mul_i (.inr ⟨by omega, by omega⟩)
  simp only [List.map_cons, List.map_nil, List.length_cons, List.length_nil]
  simp [hp]
  rw [show (1000000000000000000 : Int) = 10 ^ 18 from by decide, hm]
  simp
theorem joinC_nil : ∀ ss : List Tx, joinC [] ss = ss.flatten
  | [] => rfl
  | [x] => by simp [joinC]
  | x :: y :: r => by
    show x ++ [] ++ joinC [] (y :: r) = _
    rw [joinC_nil (y :: r)]; simp
theorem strs_ts : ∀ ss : List Tx, strsOf (ss.map .str) = some ss
  | [] => rfl
  | x :: r => by
    show (strsOf (r.map .str)).map (x :: ·) = _
    rw [strs_ts r]; rfl
theorem all_flat {p : Char → Bool} : ∀ ss : List Tx, (∀ s ∈ ss, s.length = 1 ∧ s.all p = true) → ss.flatten.length = ss.length ∧ ss.flatten.all p = true
  | [], _ => ⟨rfl, rfl⟩
  | x :: r, h => by
    obtain ⟨a, b⟩ := all_flat r fun s hs => h s (by simp [hs])
    obtain ⟨c, d⟩ := h x (by simp)
    refine ⟨by rw [List.flatten_cons, List.length_append, a, c, List.length_cons]; omega, ?_⟩
    rw [List.flatten_cons, List.all_append, b, d]; rfl
def signs36 : List Char := ['a', 'b', 'c', 'd', 'e', 'f', 'g', 'h', 'i', 'j', 'k', 'l', 'm', 'n', 'o', 'p', 'q', 'r', 's', 't', 'u', 'v', 'w', 'x', 'y', 'z', '0', '1', '2', '3', '4', '5', '6', '7', '8', '9']
theorem sign36 {c : Char} (h : c ∈ signs36) : (isLt c || isFig c) = true := by
  rw [show signs36 = letL26 ++ figL from rfl] at h
  rcases List.mem_append.mp h with h | h
  · simp [isLt, h]
  · simp [isFig, h]
theorem law_word4_ok {C : Calls} {i : Int} {st : Sto} (h0 : 0 ≤ i) : ∃ s, runFn C 1 4 Pr.fn_law_word_4 [.int i] st = .ok (.str s) st ∧ wrdB s = true := by
  have H : wp (runFn C 1 4 Pr.fn_law_word_4 [.int i] st) fun d st' => st' = st ∧ ∃ s, d = .str s ∧ wrdB s = true := by
    refine runFn_wp rfl ?_
    refine wp_iffE (t := !(i % 3 == 1)) (st' := st) (by simp) (fun _ => ?_) fun _ => ?_
    · obtain ⟨c, hc, e⟩ := idx_mem (st := st) (x := ['a', 'b', 'x']) (i := i / 3 % 3) (by omega) (by simp; omega) (by simp)
      refine wp_ret ?_
      simp [e]
      simp only [List.mem_cons, List.not_mem_nil, or_false] at hc
      rcases hc with h | h | h <;> subst h <;> decide
    · refine wp_asg (d := .str signs36) (st' := st) rfl ?_
      refine wp_asg (d := .int (1 + i / 3 % 12)) (st' := st) (by simp) ?_
      have hn : (1 + i / 3 % 12).toNat ≤ 12 := by omega
      obtain ⟨w, e, hl, hw⟩ := comp_texts (C := C) (ρ := [some (.int i), some (.str signs36), some (.int (1 + i / 3 % 12)), none]) (elt := .op .idx (.var 1) (.op .mod (.op .mod (.op .mul (.op .fdiv (.var 0) (.op .add (.var 3) (.int 4))) (.int 48271)) (.int 2147483647)) (.int 36))) (tg := .one 3) (ds := [.int (1 + i / 3 % 12)]) (st := st) (P := fun s => s.length = 1 ∧ s.all (fun c => isLt c || isFig c) = true) (items := rangeL 0 (1 + i / 3 % 12).toNat) fun x hx => by
        obtain ⟨k, hk⟩ := List.mem_iff_getElem?.mp hx
        obtain ⟨ex, hk2⟩ := rangeL_inv hk
        subst ex
        obtain ⟨c, hc, ec⟩ := idx_mem (st := st) (x := signs36) (i := i / ((k : Int) + 4) * 48271 % 2147483647 % 36) (by omega) (by simp [signs36]; omega) (by simp [signs36])
        refine ⟨[c], ?_, rfl, by simp [sign36 hc]⟩
        have hd : (0 : Int) < (k : Int) + 4 ∧ (k : Int) + 4 < 1073741824 := by omega
        simp only [Int.zero_add]
        simp [hd, ec]
      rw [rgL_len] at hl
      refine wp_ret ?_
      simp [bmT]
      rw [range_items_i (by omega) (by omega)]
      unfold compOf
      dsimp only
      rw [if_neg (by rw [rgL_len]; omega), e]
      obtain ⟨f1, f2⟩ := all_flat w hw
      have hsum : (w.map List.length).sum ≤ 16777216 := by
        rw [← List.length_flatten, f1]; omega
      have hj : bmS st .join (.str []) [.ol (w.map .str)] = some (.str w.flatten) := by
        show (((some (w.map D.str) : Option (List D)).bind strsOf).bind fun ss => if (ss.map List.length).sum + ([] : List Char).length * ss.length ≤ 16777216 then some (D.str (joinC [] ss)) else none) = _
        rw [Option.bind_some, strs_ts, Option.bind_some, if_pos (by simpa using hsum), joinC_nil]
      simp [hj]
      simp only [wrdB, Bool.and_eq_true, decide_eq_true_eq]
      exact ⟨⟨by omega, by omega⟩, f2⟩
  obtain ⟨d, e, s, ed, h⟩ := ex_of_wp H
  subst ed
  exact ⟨s, e, h⟩
theorem law_words4_ok {C : Calls} {i : Int} {st : Sto} (hC : ∀ i st, 0 ≤ i → ∃ s, C.f 0 [.int i] st = .ok (.str s) st ∧ wrdB s = true) : ∃ w, runFn C 1 3 Pr.fn_law_words_4 [.int i] st = .ok (tsD w) st ∧ WsOk w := by
  have hr : (i % 4).toNat ≤ 3 := by omega
  obtain ⟨w, e, hl, hw⟩ := comp_texts (C := C) (ρ := [some (.int i), some (.int (i % 4)), none]) (elt := .call 0 [.op .mod (.op .mul (.op .fdiv (.var 0) (.op .add (.op .mul (.int 5) (.var 2)) (.int 1))) (.int 16807)) (.int 2147483647)]) (tg := .one 2) (ds := [.int (i % 4)]) (st := st) (P := fun s => wrdB s = true) (items := rangeL 0 (i % 4).toNat) fun x hx => by
    obtain ⟨k, hk⟩ := List.mem_iff_getElem?.mp hx
    obtain ⟨ex, hk2⟩ := rangeL_inv hk
    subst ex
    obtain ⟨s, e, hs⟩ := hC (i / (5 * (k : Int) + 1) * 16807 % 2147483647) st (by omega)
    refine ⟨s, ?_, hs⟩
    have hd : (0 : Int) < 5 * (k : Int) + 1 ∧ 5 * (k : Int) + 1 < 1073741824 := by omega
    simp only [Int.zero_add]
    simp [mul_nr (show k < 1000000 by omega), hd, e]
  rw [rgL_len] at hl
  refine ⟨w, ?_, by omega, hw⟩
  refine eq_of_wp (runFn_wp rfl ?_)
  refine wp_asg (d := .int (i % 4)) (st' := st) (by simp) ?_
  refine wp_ret ?_
  simp
  rw [range_items_i (by omega) (by omega)]
  unfold compOf
  dsimp only
  rw [if_neg (by rw [rgL_len]; omega), e]
  simp [tupB, tsD]
theorem law_label4_ok {C : Calls} {i : Int} {st : Sto} : ∃ s, runFn C 1 1 Pr.fn_law_label_4 [.int i] st = .ok (.str s) st ∧ labB s = true := by
  have H : wp (runFn C 1 1 Pr.fn_law_label_4 [.int i] st) fun d st' => st' = st ∧ ∃ s, d = .str s ∧ labB s = true := by
    refine runFn_wp rfl ?_
    refine wp_iffE (t := (i % 5 == 0)) (st' := st) (by simp) (fun _ => ?_) fun _ => ?_
    · refine wp_ret ?_
      have hs := strB_int (n := 1 + i / 5 % 999999999) (by omega) (by omega)
      simp [hs]
      have := labB_num (n := (1 + i / 5 % 999999999).toNat) (t := []) (by omega) (by omega) (by simp) rfl
      rw [List.append_nil] at this
      exact this
    · obtain ⟨t, e2, h1, h2⟩ := pick_lt (xs := [D.str [], D.str [], D.str ['a'], D.str ['b'], D.str ['a', 'a'], D.str ['z', 'z', 'z']]) (i := i / 20 % 6) (k := 3) (by omega) (by simp; omega) rfl
      have hs := strB_int (n := 1 + i / 5 % 4) (by omega) (by omega)
      have hd := digs_len (n := (1 + i / 5 % 4).toNat) (k := 9) (by omega) (by omega)
      have : (Nat.toDigits 10 (1 + i / 5 % 4).toNat).length + t.length ≤ 16777216 := by omega
      refine wp_ret ?_
      simp [hs, e2, this]
      exact labB_num (by omega) (by omega) h1 h2
  obtain ⟨d, e, s, ed, h⟩ := ex_of_wp H
  subst ed
  exact ⟨s, e, h⟩
end CM
end
section
set_option linter.all false
set_option maxRecDepth 100000
/-! Labels ranked and gathered, as drafts do. -/
namespace CM
theorem lab_all {s : Tx} (h : labB s = true) : (letL s).all isLt = true := by
  simp only [labB, Bool.and_eq_true] at h
  exact h.2
theorem dw_all {α : Type} {p : α → Bool} : ∀ {a b : List α}, a.all p = true → (∀ c r, b = c :: r → p c = false) → (a ++ b).dropWhile p = b
  | [], [], _, _ => rfl
  | [], c :: r, _, h => by rw [List.nil_append, List.dropWhile_cons_of_neg (by rw [h c r rfl]; simp)]
  | x :: a, b, h, hb => by
    simp only [List.all_cons, Bool.and_eq_true] at h
    rw [List.cons_append, List.dropWhile_cons_of_pos h.1]
    exact dw_all h.2 hb
theorem fig_lt {c : Char} (h : isFig c = true) : isLt c = false := by
  cases e : isLt c with
  | false => rfl
  | true => rw [lt_fig e] at h; cases h
theorem rstrip_lab {s : Tx} (h : labB s = true) : (s.reverse.dropWhile fun c => decide (c ∈ letL26)).reverse = s.takeWhile isFig := by
  have e : s.reverse = (letL s).reverse ++ (s.takeWhile isFig).reverse := by
    rw [← List.reverse_append, lab_split]
  rw [e, dw_all (p := fun c => decide (c ∈ letL26)) (by rw [List.all_reverse]; exact lab_all h) (fun c r z => by
    have hm : c ∈ s.takeWhile isFig := List.mem_reverse.mp (by rw [z]; simp)
    exact fig_lt (List.all_eq_true.mp List.all_takeWhile c hm)), List.reverse_reverse]
theorem lstrip_lab {s : Tx} (h : labB s = true) : (s.dropWhile fun c => decide (c ∈ figL)) = letL s := by
  conv => lhs; rw [← lab_split s]
  refine dw_all (p := fun c => decide (c ∈ figL)) List.all_takeWhile fun c r z => ?_
  have hl := lab_all h
  rw [z] at hl
  simp only [List.all_cons, Bool.and_eq_true] at hl
  exact lt_fig hl.1
theorem intB_figs {s : Tx} (h : labB s = true) : intB (.str (s.takeWhile isFig)) = some (.int (numL s)) := by
  have h1 := labB_len h
  have := int_take (s := s) h1.2 (by omega)
  rw [take_figs] at this
  show (intStr (s.takeWhile isFig)).map D.int = _
  rw [this]; rfl
theorem label_rank_ok {C : Calls} {s : Tx} {st : Sto} (h : labB s = true) : runFn C 1 2 Pr.fn_label_rank [.str s] st = .ok (rankD s) st := by
  have h1 := labB_len h
  have hl : s.length ≤ 16777216 := by omega
  have hf := figs_le s
  have hf2 : (s.takeWhile isFig).length ≤ 16777216 := by show figs s ≤ _; omega
  have hr : bmS st .rstrip (.str s) [.str letL26] = some (.str (s.takeWhile isFig)) := by
    show (if s.length ≤ 16777216 then some (D.str (s.reverse.dropWhile fun c => decide (c ∈ letL26)).reverse) else none) = _
    rw [if_pos hl, rstrip_lab h]
  refine eq_of_wp (runFn_wp rfl ?_)
  refine wp_asg (d := .str (s.takeWhile isFig)) (st' := st) (by
    simp only [ev_bm, bor_var, List.map_cons, List.map_nil, List.length_cons, List.length_nil]
    simp [bmT]
    exact congrArg (fun o => ofO st o) hr) ?_
  refine wp_ret ?_
  simp [intB_figs h, hf2, hl, cut_lo, rankD, letL, figs]
theorem law_rank_ok {C : Calls} {s : Tx} {st : Sto} (h : labB s = true) : runFn C 1 2 Pr.fn_law_rank [.str s] st = .ok (rankD s) st := by
  have h1 := labB_len h
  have hl : s.length ≤ 16777216 := by omega
  have hr : bmS st .lstrip (.str s) [.str figL] = some (.str (letL s)) := by
    show (if s.length ≤ 16777216 then some (D.str (s.dropWhile fun c => decide (c ∈ figL))) else none) = _
    rw [if_pos hl, lstrip_lab h]
  have hf := figs_le s
  have hll : (letL s).length = s.length - figs s := by unfold letL; rw [List.length_drop]
  have hl2 : (letL s).length ≤ 16777216 := by omega
  have e : (s.length : Int) - ((letL s).length : Int) = (figs s : Int) := by omega
  refine eq_of_wp (runFn_wp rfl ?_)
  refine wp_asg (d := .str (letL s)) (st' := st) (by
    simp only [ev_bm, bor_var, List.map_cons, List.map_nil, List.length_cons, List.length_nil]
    simp [bmT]
    exact congrArg (fun o => ofO st o) hr) ?_
  refine wp_ret ?_
  simp [hl, hl2, e, cut_hi, take_figs, intB_figs h, rankD]
end CM
end
section
set_option linter.all false
set_option maxRecDepth 100000
/-! Dicts by texts; the kids of a node. -/
namespace CM
section
variable {α : Type} {enc : α → D} {st : Sto} {ρ : Slots}
def txK (l : Tx) : Ky := .k (.s l)
def txMD (enc : α → D) (m : List (Tx × α)) : List (Ky × D) := m.map fun p => (txK p.1, enc p.2)
def keysX (m : List (Tx × α)) : List Tx := m.map (·.1)
def getX (l : Tx) (m : List (Tx × α)) : Option α := (m.find? fun p => decide (p.1 = l)).map (·.2)
def putX (l : Tx) (a : α) (m : List (Tx × α)) : List (Tx × α) := if l ∈ keysX m then m.map (fun p => if p.1 = l then (p.1, a) else p) else m ++ [(l, a)]
theorem txK_eq {l k : Tx} : (txK l = txK k) = (l = k) := propext ⟨fun h => by simpa [txK] using h, fun h => by rw [h]⟩
theorem dGet_tx (l : Tx) : ∀ m : List (Tx × α), dGet (txK l) (txMD enc m) = (getX l m).map enc
  | [] => rfl
  | x :: r => by
    show (if txK x.1 = txK l then some (enc x.2) else dGet (txK l) (txMD enc r)) = _
    rw [dGet_tx l r]
    unfold getX
    rw [List.find?_cons]
    by_cases h : x.1 = l
    · simp [h]
    · rw [if_neg (fun z => h (by rw [txK_eq] at z; exact z))]
      simp [h]
theorem getX_mem {l : Tx} {m : List (Tx × α)} : (getX l m).isSome = decide (l ∈ keysX m) := by
  induction m with
  | nil => rfl
  | cons x r ih =>
    unfold getX keysX at *
    rw [List.find?_cons]
    by_cases h : x.1 = l
    · simp [h]
    · simp only [h, decide_false, List.map_cons, List.mem_cons]
      rw [ih]
      have : (l = x.1 ∨ l ∈ List.map (·.1) r) ↔ l ∈ List.map (·.1) r := ⟨fun z => z.elim (fun e => absurd e.symm h) id, .inr⟩
      simp only [this]
theorem dHas_tx (l : Tx) (m : List (Tx × α)) : dHas (txK l) (txMD enc m) = decide (l ∈ keysX m) := by
  unfold dHas
  rw [dGet_tx, Option.isSome_map, getX_mem]
theorem dPut_tx (l : Tx) (a : α) (m : List (Tx × α)) : dPut (txK l) (enc a) (txMD enc m) = txMD enc (putX l a m) := by
  unfold dPut
  have e : ((txMD enc m).any fun q => decide (q.1 = txK l)) = decide (l ∈ keysX m) := by
    unfold txMD keysX
    rw [List.any_map, Bool.eq_iff_iff]
    simp only [List.any_eq_true, Function.comp, decide_eq_true_eq, txK_eq, List.mem_map]
  rw [e]
  unfold putX
  by_cases h : l ∈ keysX m
  · rw [if_pos (by simpa using h), if_pos h]
    unfold txMD
    rw [List.map_map, List.map_map]
    congr 1; funext x
    simp only [Function.comp, txK_eq]
    by_cases hx : x.1 = l
    · simp [hx]
    · simp [hx]
  · rw [if_neg (by simpa using h), if_neg h]
    unfold txMD
    rw [List.map_append]; rfl
theorem keysX_put {l : Tx} {a : α} {m : List (Tx × α)} : keysX (putX l a m) = if l ∈ keysX m then keysX m else keysX m ++ [l] := by
  unfold putX
  by_cases h : l ∈ keysX m
  · rw [if_pos h, if_pos h]
    unfold keysX
    rw [List.map_map]
    congr 1; funext x
    simp only [Function.comp]
    split <;> rfl
  · rw [if_neg h, if_neg h]
    unfold keysX
    rw [List.map_append]; rfl
theorem tx_len (m : List (Tx × α)) : (txMD enc m).length = m.length := List.length_map ..
theorem putX_len {l : Tx} {a : α} {m : List (Tx × α)} : (putX l a m).length ≤ m.length + 1 := by
  unfold putX; split <;> simp
theorem setI_tx {i : Nat} {l : Tx} {a : α} {m : List (Tx × α)} {v : D} (hv : v = enc a) (h : m.length < 16777216) : setIdx (.var i) (.od false (txMD enc m)) (.str l) v ρ st = .ok (ρ.set i (some (.od false (txMD enc (putX l a m))))) st := by
  subst hv
  show updD (.var i) (.od false (txMD enc m)) ρ st (fun t kvs => (keyOf t (.str l)).bind fun y => if kvs.length < 16777216 then some (dPut y (enc a) kvs) else none) = _
  unfold updD
  dsimp only
  rw [show keyOf false (.str l) = some (txK l) from rfl, Option.bind_some, tx_len, if_pos h, dPut_tx]
theorem idx_tx {l : Tx} {m : List (Tx × α)} : idxS st (.od false (txMD enc m)) (.str l) = (getX l m).map enc := by
  show ((keyOf false (.str l)).bind fun k => dGet k (txMD enc m)) = _
  rw [show keyOf false (.str l) = some (txK l) from rfl, Option.bind_some, dGet_tx]
theorem src_tx {m : List (Tx × α)} : srcK st (.od false (txMD enc m)) = some ((keysX m).map .str) := by
  show some ((txMD enc m).map fun p => kyD p.1) = _
  unfold txMD keysX
  rw [List.map_map, List.map_map]; rfl
theorem keysX_nd {l : Tx} {a : α} {m : List (Tx × α)} (h : (keysX m).Nodup) : (keysX (putX l a m)).Nodup := by
  rw [keysX_put]
  split
  · exact h
  · rename_i hn
    rw [List.nodup_append]
    exact ⟨h, by simp, fun a ha b hb => by simp at hb; subst hb; exact fun z => hn (z ▸ ha)⟩
theorem keysX_mem {l k : Tx} {a : α} {m : List (Tx × α)} : k ∈ keysX (putX l a m) ↔ k = l ∨ k ∈ keysX m := by
  rw [keysX_put]
  split
  · rename_i h
    exact ⟨.inr, fun z => z.elim (fun e => e ▸ h) id⟩
  · simp only [List.mem_append, List.mem_singleton]
    exact ⟨fun z => z.symm, fun z => z.symm⟩
end
/-- labels of some nodes' kids, each once, by the order -/
def labsOf (ts : List Tre) : List Tx := ts.flatMap fun t => t.ks.map (·.l)
theorem idx2_tre {st : Sto} {t : Tre} : idxS st (treD t) (.int 2) = some (.tup (t.ks.map treD)) := by
  cases t with
  | nd l w ks => rw [treD_nd, treDs_map]; rfl
theorem idx1_tre {st : Sto} {t : Tre} : idxS st (treD t) (.int 1) = some (tsD t.w) := by
  cases t with
  | nd l w ks => rw [treD_nd]; rfl
theorem labels_in_ok {C : Calls} {ts : List Tre} {st : Sto} (hC : ∀ s st, labB s = true → C.f 0 [.str s] st = .ok (rankD s) st) (hl : ∀ x ∈ labsOf ts, labB x = true) (h1 : ts.length ≤ 100) (h2 : ∀ t ∈ ts, t.ks.length ≤ 10000) :
    ∃ ls, runFn C 1 4 Pr.fn_labels_in [.fl (ts.map treD)] st = .ok (.ol (ls.map .str)) st ∧ IncL ls ∧ ∀ x, x ∈ ls ↔ x ∈ labsOf ts := by
  have H : wp (runFn C 1 4 Pr.fn_labels_in [.fl (ts.map treD)] st) fun d st' => st' = st ∧ ∃ ls : List Tx, d = .ol (ls.map .str) ∧ IncL ls ∧ ∀ x, x ∈ ls ↔ x ∈ labsOf ts := by
    refine runFn_wp rfl ?_
    refine wp_asg (d := .od false (txMD D.bl [])) (st' := st) rfl ?_
    refine wp_forP (ds := [.fl (ts.map treD)]) (items := ts.map treD) (fun k ρ => ∃ (m : List (Tx × Bool)) (a b : Option D), (keysX m).Nodup ∧ m.length ≤ 10000 * k ∧ (∀ x, x ∈ keysX m ↔ x ∈ labsOf (ts.take k)) ∧ ρ = [some (.fl (ts.map treD)), some (.od false (txMD D.bl m)), a, b]) (by simp) rfl (by rw [List.length_map]; omega) rfl ⟨[], _, _, by simp [keysX], by simp, by simp [keysX, labsOf], rfl⟩ ?_ ?_
    · rintro k x ρ hx ⟨m, a, b, hn, hm, hk, e⟩
      subst e
      rw [List.getElem?_map] at hx
      obtain ⟨t, ht, e⟩ := Option.map_eq_some_iff.mp hx
      subst e
      have htm := List.mem_of_getElem? ht
      have hkl := (List.getElem?_eq_some_iff.mp ht).1
      refine ⟨_, rfl, ?_⟩
      refine wp_forP (ds := [.tup (t.ks.map treD)]) (items := t.ks.map treD) (fun j ρ => ∃ (m2 : List (Tx × Bool)) (b : Option D), (keysX m2).Nodup ∧ m2.length ≤ 10000 * k + j ∧ (∀ x, x ∈ keysX m2 ↔ x ∈ labsOf (ts.take k) ∨ x ∈ (t.ks.take j).map (·.l)) ∧ ρ = [some (.fl (ts.map treD)), some (.od false (txMD D.bl m2)), some (treD t), b]) (by simp [idx2_tre]) rfl (by rw [List.length_map]; have := h2 t htm; omega) rfl ⟨m, _, hn, by omega, fun x => by rw [hk]; simp, rfl⟩ ?_ ?_
      · rintro j y ρ hy ⟨m2, b, hn2, hm2, hk2, e⟩
        subst e
        rw [List.getElem?_map] at hy
        obtain ⟨q, hq, e⟩ := Option.map_eq_some_iff.mp hy
        subst e
        have hjl := (List.getElem?_eq_some_iff.mp hq).1
        have := h2 t htm
        refine ⟨_, rfl, ?_⟩
        have hb : m2.length < 16777216 := by omega
        refine wp_next (ρ' := [some (.fl (ts.map treD)), some (.od false (txMD D.bl (putX q.l true m2))), some (treD t), some (treD q)]) (st' := st) (by simp [tre0, setI_tx (enc := D.bl) (a := true) rfl hb]) (wp_nil ⟨rfl, _, _, keysX_nd hn2, by have := putX_len (l := q.l) (a := true) (m := m2); omega, fun x => ?_, rfl⟩)
        rw [keysX_mem, hk2, List.take_add_one, hq]
        simp only [Option.toList_some, List.map_append, List.map_cons, List.map_nil, List.mem_append, List.mem_singleton]
        constructor
        · rintro (h | h | h)
          · exact .inr (.inr h)
          · exact .inl h
          · exact .inr (.inl h)
        · rintro (h | h | h)
          · exact .inr (.inl h)
          · exact .inr (.inr h)
          · exact .inl h
      · rintro ρ ⟨m2, b, hn2, hm2, hk2, e⟩
        subst e
        rw [List.length_map] at hm2
        have := h2 t htm
        refine wp_nil ⟨rfl, m2, _, _, hn2, by omega, fun x => ?_, rfl⟩
        rw [hk2, List.length_map, List.take_length, List.take_add_one, ht]
        simp [labsOf]
    · rintro ρ ⟨m, a, b, hn, hm, hk, e⟩
      subst e
      rw [List.length_map, List.take_length] at hk
      refine wp_ret ?_
      have hlm : ∀ s ∈ keysX m, labB s = true := fun s hs => hl s ((hk s).mp hs)
      simp [sortk_rank hC src_tx hlm]
      exact ⟨_, rfl, sortL_inc hlm hn, fun x => by rw [sortL_mem, hk]⟩
  obtain ⟨d, e, ls, ed, h⟩ := ex_of_wp H
  subst ed
  exact ⟨ls, e, h⟩
end CM
end
section
set_option linter.all false
set_option maxRecDepth 100000
/-! A node's kids by a law's own hands. -/
namespace CM
theorem evS_setd {C : Calls} {ρ : Slots} {st : Sto} {o k e : E} : evS C (.setd o k e) ρ st = mutD C ρ o [k, e] st fun ds t kvs => match ds with
    | [d, v] => (keyOf t d).bind fun y => if kvs.length < 16777216 ∧ t = false then some (if dHas y kvs then kvs else dPut y v kvs) else none
    | _ => none := rfl
theorem mutD_own {C : Calls} {ρ : Slots} {st : Sto} {v : Nat} {es : List E} {g : List D → Bool → List (Ky × D) → Option (List (Ky × D))} {t : Bool} {kvs : List (Ky × D)} (h : getS ρ v = some (.od t kvs)) :
    mutD C ρ (.var v) es st g = (evs C ρ es st).bind fun ds st => ofO st ((g ds t kvs).map fun ys => .next (ρ.set v (some (.od t ys)))) := by
  unfold mutD
  show (ofO st (getS ρ v)).bind _ = _
  rw [h]
  simp only [ofO_some, bind_ok, dcP, dcOf, Option.isSome_some, if_true]
  congr 1; funext ds st
  unfold updD
  dsimp only
  cases g ds t kvs <;> rfl
theorem comp_enc {α : Type} {C : Calls} {ρ : Slots} {elt : E} {tg : Tg} {ds : List D} {st : Sto} {enc : α → D} {P : α → Prop} : ∀ {items : List D}, (∀ x ∈ items, ∃ s, compB C ρ elt tg [] ds st x st = .ok (some (enc s)) st ∧ P s) → ∃ w : List α, compGo (compB C ρ elt tg [] ds st) items st = .ok (w.map enc) st ∧ w.length = items.length ∧ ∀ s ∈ w, P s
  | [], _ => ⟨[], rfl, rfl, by simp⟩
  | x :: r, h => by
    obtain ⟨s, e, hs⟩ := h x (by simp)
    obtain ⟨w, e2, hl, hw⟩ := comp_enc (items := r) fun y hy => h y (by simp [hy])
    refine ⟨s :: w, ?_, by simp [hl], fun z hz => ?_⟩
    · simp only [compGo]
      rw [e, bind_ok, e2, bind_ok]; rfl
    · rcases List.mem_cons.mp hz with rfl | hz
      · exact hs
      · exact hw z hz
theorem getX_find {α : Type} {l : Tx} {m : List (Tx × α)} {a : α} (h : getX l m = some a) : (l, a) ∈ m := by
  unfold getX at h
  cases e : m.find? fun p => decide (p.1 = l) with
  | none => rw [e] at h; cases h
  | some p =>
    rw [e] at h
    have h1 := List.find?_some e
    have h2 := List.mem_of_find?_eq_some e
    simp only [decide_eq_true_eq] at h1
    have h : p.2 = a := Option.some.inj h
    rw [← h1, ← h]; exact h2
/-- the first of each label, by the order -/
theorem law_kids2_ok {C : Calls} {ks : List Tre} {d : D} {st : Sto} (hC : ∀ s st, labB s = true → C.f 0 [.str s] st = .ok (rankD s) st) (hl : ∀ k ∈ ks, labB k.l = true) (hn : ks.length ≤ 10000) (hd : d = .fl (ks.map treD) ∨ d = .tup (ks.map treD)) :
    ∃ qs : List Tre, runFn C 1 4 Pr.fn_law_kids_2 [d] st = .ok (.tup (qs.map treD)) st ∧ IncL (qs.map (·.l)) ∧ (∀ q ∈ qs, q ∈ ks) ∧ (∀ l, l ∈ qs.map (·.l) ↔ l ∈ ks.map (·.l)) := by
  have hf : frz d = d := by rcases hd with rfl | rfl <;> rfl
  have hfr : free d = true := by rcases hd with rfl | rfl <;> rfl
  have hi : itemsOf st .seq [d] = some (ks.map treD) := by rcases hd with rfl | rfl <;> rfl
  have hs : still st st [d] = true := by rcases hd with rfl | rfl <;> rfl
  have H : wp (runFn C 1 4 Pr.fn_law_kids_2 [d] st) fun r st' => st' = st ∧ ∃ qs : List Tre, r = .tup (qs.map treD) ∧ IncL (qs.map (·.l)) ∧ (∀ q ∈ qs, q ∈ ks) ∧ (∀ l, l ∈ qs.map (·.l) ↔ l ∈ ks.map (·.l)) := by
    refine runFn_wp rfl ?_
    refine wp_asg (d := .od false (txMD treD [])) (st' := st) rfl ?_
    refine wp_forP (ds := [d]) (items := ks.map treD) (fun k ρ => ∃ (m : List (Tx × Tre)) (a : Option D), (keysX m).Nodup ∧ m.length ≤ k ∧ (∀ x, x ∈ keysX m ↔ x ∈ (ks.take k).map (·.l)) ∧ (∀ p ∈ m, p.2 ∈ ks ∧ p.2.l = p.1) ∧ ρ = [some d, some (.od false (txMD treD m)), a, none]) (by simp [filt_free hfr, hf]) hi (by rw [List.length_map]; omega) hs ⟨[], _, by simp [keysX], by simp, by simp [keysX], by simp, rfl⟩ ?_ ?_
    · rintro k x ρ hx ⟨m, a, hn1, hm, hk, hp, e⟩
      subst e
      rw [List.getElem?_map] at hx
      obtain ⟨q, hq, e⟩ := Option.map_eq_some_iff.mp hx
      subst e
      have hqm := List.mem_of_getElem? hq
      have hkl := (List.getElem?_eq_some_iff.mp hq).1
      refine ⟨_, rfl, ?_⟩
      have hb : (txMD treD m).length < 16777216 := by rw [tx_len]; omega
      have step : ∀ m2 : List (Tx × Tre), (if dHas (txK q.l) (txMD treD m) then txMD treD m else dPut (txK q.l) (treD q) (txMD treD m)) = txMD treD m2 → evS C (.setd (.var 1) (.op .idx (.var 2) (.int 0)) (.var 2)) [some d, some (.od false (txMD treD m)), some (treD q), none] st = .ok (.next [some d, some (.od false (txMD treD m2)), some (treD q), none]) st := fun m2 e2 => by
        rw [evS_setd, mutD_own (by rfl)]
        simp only [evs_cons, evs_nil, ev_op, ev_int, bor_var, bor_int, ev_var, getS_0, getS_s, ofO_some, bind_ok, op_idx_, tre0, filt_tre, frz_tre, frz_str]
        rw [show keyOf false (.str q.l) = some (txK q.l) from rfl, Option.bind_some, if_pos ⟨hb, trivial⟩, e2]
        rfl
      by_cases hin : q.l ∈ keysX m
      · refine wp_next (step m (by rw [dHas_tx, decide_eq_true hin, if_pos rfl])) (wp_nil ⟨rfl, m, _, hn1, by omega, fun x => ?_, hp, rfl⟩)
        rw [hk, List.take_add_one, hq]
        simp only [Option.toList_some, List.map_append, List.map_cons, List.map_nil, List.mem_append, List.mem_singleton]
        exact ⟨.inl, fun z => z.elim id fun e => e ▸ (hk _).mp hin⟩
      · refine wp_next (step (putX q.l q m) (by rw [dHas_tx, decide_eq_false hin, if_neg (by decide), dPut_tx])) (wp_nil ⟨rfl, putX q.l q m, _, keysX_nd hn1, by have := putX_len (l := q.l) (a := q) (m := m); omega, fun x => ?_, fun p hp2 => ?_, rfl⟩)
        · rw [keysX_mem, hk, List.take_add_one, hq]
          simp only [Option.toList_some, List.map_append, List.map_cons, List.map_nil, List.mem_append, List.mem_singleton]
          exact ⟨fun z => z.symm, fun z => z.symm⟩
        · unfold putX at hp2
          rw [if_neg hin] at hp2
          rcases List.mem_append.mp hp2 with h | h
          · exact hp p h
          · simp at h; subst h; exact ⟨hqm, rfl⟩
    · rintro ρ ⟨m, a, hn1, hm, hk, hp, e⟩
      subst e
      rw [List.length_map] at hm
      rw [List.length_map, List.take_length] at hk
      have hlm : ∀ s ∈ keysX m, labB s = true := fun s hs => by
        obtain ⟨q, hq, e⟩ := List.mem_map.mp ((hk s).mp hs)
        rw [← e]; exact hl q hq
      have hlen : (sortL (keysX m)).length ≤ 16777216 := by
        have : ∀ l : List Tx, (sortL l).length = l.length := by
          have ins : ∀ (x : Tx) (l : List Tx), (insL x l).length = l.length + 1 := by
            intro x l
            induction l with
            | nil => rfl
            | cons y r ih =>
              unfold insL
              split
              · rw [List.length_cons, ih, List.length_cons]
              · rfl
          intro l
          induction l with
          | nil => rfl
          | cons x r ih => rw [sortL, ins, ih, List.length_cons]
        rw [this]
        have e : (keysX m).length = m.length := List.length_map ..
        omega
      obtain ⟨f, hf2⟩ : ∃ f : Tx → Tre, f = fun l => (getX l m).getD default := ⟨_, rfl⟩
      have hfl : ∀ l ∈ sortL (keysX m), getX l m = some (f l) ∧ f l ∈ ks ∧ (f l).l = l := fun l hl2 => by
        have hl3 := sortL_mem.mp hl2
        have : (getX l m).isSome = true := by rw [getX_mem]; simpa using hl3
        obtain ⟨q, hq⟩ := Option.isSome_iff_exists.mp this
        have e : f l = q := by rw [hf2]; simp [hq]
        have h3 := hp _ (getX_find hq)
        rw [e]; exact ⟨hq, h3.1, h3.2⟩
      have e : compOf C [some d, some (.od false (txMD treD m)), a, none] (.op .idx (.var 1) (.var 3)) (.one 3) [] [.ol ((sortL (keysX m)).map .str)] st (some ((sortL (keysX m)).map .str)) = .ok (.ol (((sortL (keysX m)).map f).map treD)) st := by
        rw [comp_map (f := fun x => match x with
          | .str l => treD (f l)
          | _ => .non) (by rw [List.length_map]; exact hlen) (fun x hx => by
          obtain ⟨l, hl2, e⟩ := List.mem_map.mp hx
          subst e
          simp [idx_tx, (hfl l hl2).1])]
        rw [List.map_map, List.map_map]; rfl
      have hlab : ((sortL (keysX m)).map f).map (·.l) = sortL (keysX m) := by
        rw [List.map_map]
        conv => rhs; rw [← List.map_id (sortL (keysX m))]
        exact List.map_congr_left fun l hl2 => (hfl l hl2).2.2
      have hqs : ∀ q ∈ (sortL (keysX m)).map f, q ∈ ks := fun q hq => by
        obtain ⟨l, hl2, e⟩ := List.mem_map.mp hq
        rw [← e]; exact (hfl l hl2).2.1
      generalize (sortL (keysX m)).map f = qs at e hlab hqs
      refine wp_ret ?_
      simp [sortk_rank hC src_tx hlm]
      rw [e]
      simp [tupB]
      refine ⟨qs, rfl, ?_, hqs, fun l => ?_⟩
      · have := sortL_inc hlm hn1
        rw [← hlab] at this
        exact this
      · have : l ∈ qs.map (·.l) ↔ l ∈ ks.map (·.l) := by rw [hlab, sortL_mem, hk]
        simpa using this
  obtain ⟨r, e, qs, er, h⟩ := ex_of_wp H
  subst er
  exact ⟨qs, e, h⟩
end CM
end
section
set_option linter.all false
set_option maxRecDepth 100000
/-! Trees by labels' order; their places. -/
namespace CM
mutual
def siz : Tre → Nat
  | .nd _ _ ks => 1 + sizs ks
def sizs : List Tre → Nat
  | [] => 0
  | t :: r => siz t + sizs r
end
mutual
def dep : Tre → Nat
  | .nd _ _ ks => 1 + deps ks
def deps : List Tre → Nat
  | [] => 0
  | t :: r => max (dep t) (deps r)
end
mutual
def places (p : Pl) : Tre → List Pl
  | .nd _ _ ks => p :: placess p ks
def placess (p : Pl) : List Tre → List Pl
  | [] => []
  | t :: r => places (p ++ [t.l]) t ++ placess p r
end
theorem dep_mem {k : Tre} : ∀ {ks : List Tre}, k ∈ ks → dep k ≤ deps ks
  | [], h => by cases h
  | t :: r, h => by
    rw [deps]
    rcases List.mem_cons.mp h with rfl | h
    · exact Nat.le_max_left _ _
    · exact Nat.le_trans (dep_mem h) (Nat.le_max_right _ _)
mutual
theorem places_len (p : Pl) : ∀ t : Tre, (places p t).length = siz t
  | .nd _ _ ks => by rw [places, siz, List.length_cons, placess_len p ks]; omega
theorem placess_len (p : Pl) : ∀ ks : List Tre, (placess p ks).length = sizs ks
  | [] => by rw [placess, sizs]; rfl
  | t :: r => by rw [placess, sizs, List.length_append, places_len _ t, placess_len p r]
end
theorem placess_app (p : Pl) : ∀ a b : List Tre, placess p (a ++ b) = placess p a ++ placess p b
  | [], b => by rw [List.nil_append]; simp [placess]
  | t :: a, b => by rw [List.cons_append, placess, placess, placess_app p a b, List.append_assoc]
theorem sizs_take : ∀ (ks : List Tre) (k : Nat), sizs (ks.take k) ≤ sizs ks
  | [], _ => by simp
  | t :: r, 0 => by simp [sizs]
  | t :: r, k + 1 => by rw [List.take_succ_cons, sizs, sizs]; have := sizs_take r k; omega
theorem ks_len : ∀ ks : List Tre, ks.length ≤ sizs ks
  | [] => by simp
  | .nd _ _ _ :: r => by rw [sizs, siz, List.length_cons]; have := ks_len r; omega
theorem law_places_ok {C : Calls} {l : Tx} {w : List Tx} {ks : List Tre} {p : Pl} {st : Sto} (hC : ∀ k ∈ ks, C.f 0 [treD k, tsD (p ++ [k.l])] st = .ok (.ol ((places (p ++ [k.l]) k).map tsD)) st) (hs : sizs ks ≤ 10000) (hp : p.length ≤ 10000) :
    runFn C 2 4 Pr.fn_law_places [treD (.nd l w ks), tsD p] st = .ok (.ol ((places p (.nd l w ks)).map tsD)) st := by
  refine eq_of_wp (runFn_wp rfl ?_)
  refine wp_asg (d := .ol [tsD p]) (st' := st) (by simp) ?_
  have hkl := ks_len ks
  show wp (evSs C _ [some (treD (.nd l w ks)), some (tsD p), some (.ol [tsD p]), none] st) _
  refine wp_forP (ds := [.tup (ks.map treD)]) (items := ks.map treD) (fun k ρ => ∃ a, ρ = [some (treD (.nd l w ks)), some (tsD p), some (.ol ((p :: placess p (ks.take k)).map tsD)), a]) (by simp [idx2_tre, Tre.ks]) rfl (by rw [List.length_map]; omega) rfl ⟨none, by simp [placess]⟩ ?_ ?_
  · rintro k x ρ hx ⟨a, e⟩
    subst e
    rw [List.getElem?_map] at hx
    obtain ⟨q, hq, e⟩ := Option.map_eq_some_iff.mp hx
    subst e
    have hqm := List.mem_of_getElem? hq
    have hkl2 := (List.getElem?_eq_some_iff.mp hq).1
    refine ⟨_, rfl, ?_⟩
    have h1 := sizs_take ks k
    have h2 := sizs_take ks (k + 1)
    have ht : ks.take (k + 1) = ks.take k ++ [q] := by rw [List.take_add_one, hq]; rfl
    have hsz : (placess p (ks.take k)).length + 1 + (places (p ++ [q.l]) q).length ≤ 16777216 := by
      have e : (placess p (ks.take (k + 1))).length = (placess p (ks.take k)).length + (places (p ++ [q.l]) q).length := by
        rw [ht, placess_app, List.length_append]
        simp [placess]
      rw [placess_len] at e
      omega
    have hadd : opS st .add (.ol ((p :: placess p (ks.take k)).map tsD)) (.ol ((places (p ++ [q.l]) q).map tsD)) = some (.ol ((p :: placess p (ks.take (k + 1))).map tsD)) := by
      show (if ((p :: placess p (ks.take k)).map tsD).length + ((places (p ++ [q.l]) q).map tsD).length ≤ 16777216 then some (D.ol (((p :: placess p (ks.take k)).map tsD) ++ ((places (p ++ [q.l]) q).map tsD))) else none) = _
      rw [if_pos (by simp only [List.length_map, List.length_cons]; omega), ← List.map_append, ht, placess_app, List.cons_append]
      simp [placess]
    have hp1 : p.length + 1 ≤ 16777216 := by omega
    refine wp_asg (d := .ol ((p :: placess p (ks.take (k + 1))).map tsD)) (st' := st) (by
      simp only [ev_op, ev_call, evs_cons, evs_nil, ev_var, bor_var, bor_call, bor_op, bor_tup, ev_tup, bor_int, ev_int, getS_0, getS_s, List.set_cons_succ, List.set_cons_zero, ofO_some, bind_ok, filt_tre, filt_ts, frz_tre, frz_ts, op_idx_, tre0, frz_str, add_ts1 hp1, hC q hqm]
      rw [hadd]; rfl) (wp_nil ⟨rfl, _, rfl⟩)
  · rintro ρ ⟨a, e⟩
    subst e
    refine wp_ret ?_
    rw [List.length_map, List.take_length]
    simp [places]
end CM
end
section
set_option linter.all false
set_option maxRecDepth 100000
/-! A tree at a place; a tree with a node changed. -/
namespace CM
def atP : Pl → Tre → Option Tre
  | [], t => some t
  | x :: p, .nd _ _ ks => match ks.find? fun k => decide (k.l = x) with
    | none => none
    | some k => atP p k
def madeP (w' : List Tx) (ks' : List Tre) : Pl → Tre → Tre
  | [], .nd l _ _ => .nd l w' ks'
  | x :: p, .nd l w ks => .nd l w (ks.map fun k => if k.l = x then madeP w' ks' p k else k)
def oD : Option Tre → D
  | none => .non
  | some t => treD t
mutual
theorem okd_tre : ∀ (t : Tre) (n : Nat), 2 * dep t ≤ n → okd n (treD t) = true
  | .nd l w ks, n, h => by
    rw [dep] at h
    rw [treD, okd, okds, okds, okds, okds, tsD, okd, okd, okd, okd_ts, okd_tres ks (n - 1 - 1) (by omega)]
    have h1 : 0 < n := by omega
    have h2 : 0 < n - 1 := by omega
    simp [h1, h2]
theorem okd_tres : ∀ (ks : List Tre) (n : Nat), 2 * deps ks ≤ n → okds n (treDs ks) = true
  | [], _, _ => rfl
  | t :: r, n, h => by
    rw [deps] at h
    rw [treDs, okds, okd_tre t n (by omega), okd_tres r n (by omega)]; rfl
end
theorem deps_filter {ok : Tre → Bool} : ∀ ks : List Tre, deps (ks.filter ok) ≤ deps ks
  | [] => Nat.le_refl _
  | t :: r => by
    have := deps_filter (ok := ok) r
    rw [List.filter_cons]
    split
    · rw [deps, deps]; omega
    · rw [deps]; omega
theorem eq_tres_nil {st : Sto} {ks : List Tre} (h : deps ks ≤ 29) : eqS st (.ol (ks.map treD)) (.ol []) = some (decide (ks = [])) := by
  have e : okd 60 (.ol (ks.map treD)) = true := by
    rw [← treDs_map, okd, okd_tres ks (60 - 1) (by omega)]; rfl
  unfold eqS
  rw [e, if_pos (by rfl)]
  cases ks <;> simp [peq, peqs]
theorem compGo_filt {α : Type} {g : D → Sto → R (Option D)} {enc : α → D} {ok : α → Bool} {st : Sto} : ∀ {xs : List α}, (∀ x ∈ xs, g (enc x) st = .ok (if ok x then some (enc x) else none) st) → compGo g (xs.map enc) st = .ok ((xs.filter ok).map enc) st
  | [], _ => rfl
  | x :: r, h => by
    rw [List.map_cons, compGo, h x (by simp), bind_ok, compGo_filt fun y hy => h y (by simp [hy]), bind_ok, List.filter_cons]
    cases ok x <;> rfl
theorem siz_mem {k : Tre} : ∀ {ks : List Tre}, k ∈ ks → siz k ≤ sizs ks
  | [], h => by cases h
  | t :: r, h => by
    rw [sizs]
    rcases List.mem_cons.mp h with rfl | h
    · omega
    · have := siz_mem h; omega
theorem comp_filt {α : Type} {C : Calls} {ρ : Slots} {elt : E} {tg : Tg} {ifs : List E} {ds : List D} {st : Sto} {enc : α → D} {ok : α → Bool} {xs : List α} (hl : xs.length ≤ 16777216) (h : ∀ x ∈ xs, compB C ρ elt tg ifs ds st (enc x) st = .ok (if ok x then some (enc x) else none) st) :
    compOf C ρ elt tg ifs ds st (some (xs.map enc)) = .ok (.ol ((xs.filter ok).map enc)) st := by
  unfold compOf
  dsimp only
  rw [if_neg (by rw [List.length_map]; omega), compGo_filt h]; rfl
theorem law_at_ok {C : Calls} {t : Tre} {p : Pl} {st : Sto} (hk : siz t ≤ 10000) (hdp : dep t ≤ 29) (hp : p.length ≤ 10000) :
    runFn C 2 5 Pr.fn_law_at [treD t, tsD p] st = .ok (oD (atP p t)) st := by
  refine eq_of_wp (runFn_wp rfl ?_)
  show wp (evSs C _ [some (treD t), some (tsD p), none, none, none] st) _
  refine wp_forP (ds := [tsD p]) (items := p.map .str) (fun k ρ => ∃ (q : Tre) (a b c : Option D), siz q ≤ 10000 ∧ dep q ≤ 29 ∧ atP (p.drop k) q = atP p t ∧ ρ = [some (treD q), some (tsD p), a, b, c]) (by simp) rfl (by rw [List.length_map]; omega) rfl ⟨t, none, none, none, hk, hdp, rfl, rfl⟩ ?_ ?_
  · rintro k x ρ hx ⟨q, a, b, c, hz, hdq, hq, e⟩
    subst e
    rw [List.getElem?_map] at hx
    obtain ⟨s, hs, e⟩ := Option.map_eq_some_iff.mp hx
    subst e
    refine ⟨_, rfl, ?_⟩
    have hd : p.drop k = s :: p.drop (k + 1) := by
      obtain ⟨h1, h2⟩ := List.getElem?_eq_some_iff.mp hs
      rw [← h2]; exact List.drop_eq_getElem_cons h1
    rw [hd] at hq
    obtain ⟨l, w, ks⟩ := q
    have hkl := ks_len ks
    rw [siz] at hz
    rw [dep] at hdq
    have hdf := deps_filter (ok := fun r => decide (r.l = s)) ks
    refine wp_asg (d := .ol ((ks.filter fun r => decide (r.l = s)).map treD)) (st' := st) (by
      rw [ev_comp]
      have e0 : evBs C ([some (treD (Tre.nd l w ks)), some (tsD p), a, b, c].set 2 (some (D.str s))) [E.op Op.idx (E.var 0) (E.int 2)] st = .ok [.tup (ks.map treD)] st := by simp [idx2_tre, Tre.ks]
      rw [e0, bind_ok, show itemsOf st .seq [.tup (ks.map treD)] = some (ks.map treD) from rfl]
      refine comp_filt (by omega) fun r hr => ?_
      rw [compB_one1]
      by_cases h : r.l = s <;> simp [tre0, h, still, frz_tre]) ?_
    refine wp_iffE (t := decide ((ks.filter fun r => decide (r.l = s)) = [])) (st' := st) ?_ (fun h => ?_) fun h => ?_
    · simp only [ev_op, evs_cons, evs_nil, bor_var, bor_lst, List.set_cons_succ, List.set_cons_zero, getS_0, getS_s, ofO_some, bind_ok]
      rw [show ev C [some (treD (Tre.nd l w ks)), some (tsD p), some (D.str s), some (D.ol (List.map treD (List.filter (fun r => decide (r.l = s)) ks))), c] (E.lst []) st = .ok (.ol []) st from rfl, bind_ok]
      rw [show ∀ x : D, opS st .eq x (.ol []) = (eqS st x (.ol [])).map D.bl from fun _ => rfl, eq_tres_nil (by omega)]; rfl
    · have hn : atP (s :: List.drop (k + 1) p) (Tre.nd l w ks) = none := by
        rw [atP]
        have : ks.find? (fun r => decide (r.l = s)) = none := by
          rw [List.find?_eq_none]; intro x hx hc
          have : x ∈ ks.filter fun r => decide (r.l = s) := List.mem_filter.mpr ⟨hx, hc⟩
          rw [of_decide_eq_true h] at this; cases this
        rw [this]
      refine wp_ret ?_
      rw [← hq, hn]
      simp [oD]
    · obtain ⟨r, R, hF⟩ : ∃ r R, (ks.filter fun r => decide (r.l = s)) = r :: R := by
        cases hF : ks.filter fun r => decide (r.l = s) with
        | nil => rw [hF] at h; cases h
        | cons r R => exact ⟨r, R, rfl⟩
      have hf : ks.find? (fun r => decide (r.l = s)) = some r := by rw [← List.head?_filter, hF]; rfl
      have hrm := List.mem_of_find?_eq_some hf
      rw [List.nil_append, hF]
      refine wp_asg (d := treD r) (st' := st) (by simp [frz_tre, filt_tre]; rw [show atI (treD r :: List.map treD R) 0 = some (treD r) from by simp [atI, L2.ixN]]; rfl) (wp_nil ⟨rfl, r, _, _, _, ?_, ?_, ?_, rfl⟩)
      · have := siz_mem hrm; omega
      · have := dep_mem hrm; omega
      · rw [← hq, atP, hf]
  · rintro ρ ⟨q, a, b, c, hz, hdq, hq, e⟩
    subst e
    rw [List.length_map, List.drop_length] at hq
    refine wp_ret ?_
    rw [← hq]
    simp [atP, oD]
theorem at_0 {a : D} {r : List D} : atI (a :: r) 0 = some a := by simp [atI, L2.ixN]
theorem at_1 {a b : D} {r : List D} : atI (a :: b :: r) 1 = some b := by
  rw [atI_int (by decide) (by simp only [List.length_cons]; omega)]; rfl
theorem cut_1 {α : Type} {a : α} {r : List α} : cutL (a :: r) (some 1) none = r := by
  unfold cutL
  simp only [HT.sIx, List.length_cons]
  simp
theorem tup_ol {st : Sto} {xs : List D} : tupB st (.ol xs) = some (.tup xs) := rfl
theorem law_made2_ok {C : Calls} {l : Tx} {w w' : List Tx} {ks ks' : List Tre} {p : Pl} {st : Sto} (hC : ∀ x q k, p = x :: q → k ∈ ks → C.f 0 [treD k, tsD q, tsD w', .tup (ks'.map treD)] st = .ok (treD (madeP w' ks' q k)) st) (hs : sizs ks ≤ 10000) :
    runFn C 4 6 Pr.fn_law_made_2 [treD (.nd l w ks), tsD p, tsD w', .tup (ks'.map treD)] st = .ok (treD (madeP w' ks' p (.nd l w ks))) st := by
  refine eq_of_wp (runFn_wp rfl ?_)
  have hkl := ks_len ks
  refine wp_iffE (t := decide (p = [])) (st' := st) (by simp) (fun h => ?_) fun h => ?_
  · have h := of_decide_eq_true h
    subst h
    refine wp_ret ?_
    simp [tre0, madeP, treD, treDs_map, at_0]
  · obtain ⟨x, q, e⟩ := List.exists_cons_of_ne_nil (of_decide_eq_false h)
    subst e
    rw [List.nil_append]
    refine wp_asg (d := .ol []) (st' := st) rfl ?_
    show wp (evSs C _ [some (treD (.nd l w ks)), some (tsD (x :: q)), some (tsD w'), some (.tup (ks'.map treD)), some (.ol []), none] st) _
    refine wp_forP (ds := [.tup (ks.map treD)]) (items := ks.map treD) (fun k ρ => ∃ a, ρ = [some (treD (.nd l w ks)), some (tsD (x :: q)), some (tsD w'), some (.tup (ks'.map treD)), some (.ol (((ks.take k).map fun k => if k.l = x then madeP w' ks' q k else k).map treD)), a]) (by simp [idx2_tre, Tre.ks]) rfl (by rw [List.length_map]; omega) rfl ⟨none, rfl⟩ ?_ ?_
    · rintro k y ρ hy ⟨a, e⟩
      subst e
      rw [List.getElem?_map] at hy
      obtain ⟨r, hr, e⟩ := Option.map_eq_some_iff.mp hy
      subst e
      have hrm := List.mem_of_getElem? hr
      have hrl := (List.getElem?_eq_some_iff.mp hr).1
      refine ⟨_, rfl, ?_⟩
      have ht : ks.take (k + 1) = ks.take k ++ [r] := by rw [List.take_add_one, hr]; rfl
      have fin : ∀ z : Tre, z = (if r.l = x then madeP w' ks' q r else r) → evS C (.append (.var 4) (.var 5)) [some (treD (.nd l w ks)), some (tsD (x :: q)), some (tsD w'), some (.tup (ks'.map treD)), some (.ol (((ks.take k).map fun k => if k.l = x then madeP w' ks' q k else k).map treD)), some (treD z)] st = .ok (.next [some (treD (.nd l w ks)), some (tsD (x :: q)), some (tsD w'), some (.tup (ks'.map treD)), some (.ol (((ks.take (k + 1)).map fun k => if k.l = x then madeP w' ks' q k else k).map treD)), some (treD z)]) st := fun z hz => by
        rw [ht, List.map_append, List.map_append, List.map_cons, List.map_cons, List.map_nil, List.map_nil, ← hz]
        have hl : ((ks.take k).map fun k => if k.l = x then madeP w' ks' q k else k).length < 16777216 := by rw [List.length_map, List.length_take]; omega
        rw [evS_append, mutL_own (by rfl)]
        simp only [evs_cons, evs_nil, bor_var, ev_var, getS_0, getS_s, ofO_some, bind_ok, filt_tre, frz_tre]
        rw [if_pos (by rw [List.length_map]; exact hl)]; rfl
      refine wp_iffE (t := decide (r.l = x)) (st' := st) (by simp [tre0, tsD, at_0]; exact (Bool.beq_eq_decide_eq _ _)) (fun h => ?_) fun h => ?_
      · have h := of_decide_eq_true h
        refine wp_asg (d := treD (madeP w' ks' q r)) (st' := st) (by simp [tre0, cut_1]; exact hC x q r rfl hrm) ?_
        refine wp_next (fin _ (by rw [if_pos h])) (wp_nil ⟨rfl, _, rfl⟩)
      · have h := of_decide_eq_false h
        refine wp_next (fin _ (by rw [if_neg h])) (wp_nil ⟨rfl, _, rfl⟩)
    · rintro ρ ⟨a, e⟩
      subst e
      rw [List.length_map, List.take_length]
      refine wp_ret ?_
      simp [tre0, madeP, treD, treDs_map, at_0, at_1, tup_ol]
end CM
end
section
set_option linter.all false
set_option maxRecDepth 100000
set_option maxRecDepth 100000
/-! Trees in order; the drawn ones. -/
namespace CM
mutual
/-- kids by rising labels, words n at most at each place -/
def Wf (n : Nat) : Tre → Prop
  | .nd _ w ks => w.length ≤ n ∧ IncL (ks.map (·.l)) ∧ Wfs n ks
def Wfs (n : Nat) : List Tre → Prop
  | [] => True
  | t :: r => (labB t.l = true ∧ Wf n t) ∧ Wfs n r
end
theorem wfs_iff {n : Nat} : ∀ {ks : List Tre}, Wfs n ks ↔ ∀ k ∈ ks, labB k.l = true ∧ Wf n k
  | [] => by simp [Wfs]
  | t :: r => by rw [Wfs, wfs_iff (ks := r)]; simp
theorem wf_nd {n : Nat} {l : Tx} {w : List Tx} {ks : List Tre} : Wf n (.nd l w ks) ↔ w.length ≤ n ∧ IncL (ks.map (·.l)) ∧ ∀ k ∈ ks, labB k.l = true ∧ Wf n k := by rw [Wf, wfs_iff]
theorem Wf.ws {n : Nat} {t : Tre} (h : Wf n t) : t.w.length ≤ n := by cases t; exact (wf_nd.mp h).1
theorem Wf.inc {n : Nat} {t : Tre} (h : Wf n t) : IncL (t.ks.map (·.l)) := by cases t; exact (wf_nd.mp h).2.1
theorem Wf.kid {n : Nat} {t k : Tre} (h : Wf n t) (hk : k ∈ t.ks) : labB k.l = true ∧ Wf n k := by cases t; exact (wf_nd.mp h).2.2 k hk
theorem Wf.mk {n : Nat} {t : Tre} (h1 : t.w.length ≤ n) (h2 : IncL (t.ks.map (·.l))) (h3 : ∀ k ∈ t.ks, labB k.l = true ∧ Wf n k) : Wf n t := by cases t; exact wf_nd.mpr ⟨h1, h2, h3⟩
mutual
theorem wf_le {n m : Nat} (hnm : n ≤ m) : ∀ t : Tre, Wf n t → Wf m t
  | .nd l w ks, h => by
    rw [Wf] at h ⊢
    exact ⟨by omega, h.2.1, wfs_le hnm ks h.2.2⟩
theorem wfs_le {n m : Nat} (hnm : n ≤ m) : ∀ ks : List Tre, Wfs n ks → Wfs m ks
  | [], _ => trivial
  | t :: r, h => by
    rw [Wfs] at h ⊢
    exact ⟨⟨h.1.1, wf_le hnm t h.1.2⟩, wfs_le hnm r h.2⟩
end
theorem Wf.le {n m : Nat} {t : Tre} (h : Wf n t) (hnm : n ≤ m) : Wf m t := wf_le hnm t h
theorem deps_le {n : Nat} : ∀ {ks : List Tre}, (∀ k ∈ ks, dep k ≤ n) → deps ks ≤ n
  | [], _ => Nat.zero_le _
  | t :: r, h => by
    rw [deps]
    have h1 := h t (by simp)
    have h2 := deps_le (ks := r) fun k hk => h k (by simp [hk])
    omega
theorem cut_take {α : Type} {xs : List α} {b : Int} (h : 0 ≤ b) : cutL xs none (some b) = xs.take b.toNat := by
  unfold cutL
  have e1 : HT.sIx xs.length 0 none = 0 := rfl
  have e2 : HT.sIx xs.length xs.length (some b) = min b.toNat xs.length := by
    show (if b < 0 then (b + xs.length).toNat else min b.toNat xs.length) = _
    rw [if_neg (by omega)]
  rw [e1, e2, List.drop_zero, Nat.sub_zero]
  by_cases hh : b.toNat ≤ xs.length
  · rw [Nat.min_eq_left hh]
  · rw [Nat.min_eq_right (by omega), List.take_length, List.take_of_length_le (by omega)]
theorem incL_nodup {l : List Tx} (h : IncL l) : l.Nodup := List.Pairwise.imp (fun {a b} hab e => by rw [e, ltL_irr] at hab; cases hab) h
theorem inc_cons {t : Tre} {r : List Tre} : IncL ((t :: r).map (·.l)) ↔ (∀ k ∈ r, ltL t.l k.l = true) ∧ IncL (r.map (·.l)) := by
  unfold IncL
  rw [List.map_cons, List.pairwise_cons]
  simp
theorem inc_nodup : ∀ {ks : List Tre}, IncL (ks.map (·.l)) → ks.Nodup
  | [], _ => List.nodup_nil
  | t :: r, h => by
    obtain ⟨h1, h2⟩ := inc_cons.mp h
    refine List.nodup_cons.mpr ⟨fun z => ?_, inc_nodup h2⟩
    have := h1 t z
    rw [ltL_irr] at this; cases this
theorem sizs_app : ∀ a b : List Tre, sizs (a ++ b) = sizs a + sizs b
  | [], b => by rw [List.nil_append, sizs]; omega
  | t :: a, b => by rw [List.cons_append, sizs, sizs, sizs_app a b]; omega
theorem sizs_sub : ∀ {a b : List Tre}, a.Nodup → (∀ x ∈ a, x ∈ b) → sizs a ≤ sizs b
  | [], _, _, _ => by rw [sizs]; omega
  | x :: a, b, h, hs => by
    obtain ⟨h1, h2⟩ := List.nodup_cons.mp h
    obtain ⟨b1, b2, e⟩ := List.append_of_mem (hs x (by simp))
    subst e
    have := sizs_sub (a := a) (b := b1 ++ b2) h2 fun y hy => by
      have := hs y (by simp [hy])
      rcases List.mem_append.mp this with z | z
      · exact List.mem_append_left _ z
      · rcases List.mem_cons.mp z with z | z
        · subst z; exact absurd hy h1
        · exact List.mem_append_right _ z
    rw [sizs_app] at this
    rw [sizs_app, sizs, sizs]; omega
theorem law_node2_ok {C : Calls} {x : Int} {st : Sto} (h0 : 0 ≤ x) (hL : ∀ i, ∃ s, C.f 0 [.int i] st = .ok (.str s) st ∧ labB s = true) (hW : ∀ i, ∃ w, C.f 1 [.int i] st = .ok (tsD w) st ∧ WsOk w)
    (hK : ∀ ks : List Tre, (∀ k ∈ ks, labB k.l = true) → ks.length ≤ 10000 → ∃ qs : List Tre, C.f 2 [.fl (ks.map treD)] st = .ok (.tup (qs.map treD)) st ∧ IncL (qs.map (·.l)) ∧ (∀ q ∈ qs, q ∈ ks) ∧ (∀ l, l ∈ qs.map (·.l) ↔ l ∈ ks.map (·.l))) :
    ∃ t, runFn C 1 5 Pr.fn_law_node_2 [.int x] st = .ok (treD t) st ∧ (labB t.l = true ∧ Wf 4 t) ∧ dep t ≤ 3 ∧ siz t ≤ 4 := by
  obtain ⟨l1, e1, g1⟩ := hL (x * 69621 % 2147483629)
  obtain ⟨w1, e2, g2⟩ := hW (x / 11)
  obtain ⟨l2, e3, g3⟩ := hL (x * 40692 % 2147483399)
  obtain ⟨w2, e4, g4⟩ := hW (x / 13)
  obtain ⟨l3, e5, g5⟩ := hL x
  obtain ⟨w3, e6, g6⟩ := hW (x / 7)
  have wf1 : labB l1 = true ∧ Wf 4 (.nd l1 w1 []) := ⟨g1, wf_nd.mpr ⟨g2.1, List.Pairwise.nil, by simp⟩⟩
  have t1 : ∀ {α : Type} (a : α) (n : Nat), ∀ k ∈ [a].take n, k = a := fun a n k hk => List.mem_singleton.mp (List.mem_of_mem_take hk)
  obtain ⟨q2, e7, i7, m7, _⟩ := hK ([Tre.nd l1 w1 []].take (x / 3 % 2).toNat) (fun k hk => by
    have := t1 _ _ k hk; subst this; exact g1) (by rw [List.length_take]; simp only [List.length_cons, List.length_nil]; omega)
  have wf2 : labB l2 = true ∧ Wf 4 (.nd l2 w2 q2) := ⟨g3, wf_nd.mpr ⟨g4.1, i7, fun k hk => by
      have := t1 _ _ k (m7 k hk); subst this; exact wf1⟩⟩
  have d2 : dep (.nd l2 w2 q2) ≤ 2 := by
    rw [dep]
    have := deps_le (n := 1) (ks := q2) fun k hk => by
      have := t1 _ _ k (m7 k hk); subst this; exact Nat.le_refl _
    omega
  have s2 : siz (.nd l2 w2 q2) ≤ 2 := by
    have := sizs_sub (inc_nodup i7) (b := [Tre.nd l1 w1 []]) fun k hk => List.mem_of_mem_take (m7 k hk)
    simp only [siz, sizs] at this ⊢; omega
  obtain ⟨q3, e8, i8, m8, _⟩ := hK ([Tre.nd l1 w1 [], .nd l2 w2 q2].take (x / 2 % 3).toNat) (fun k hk => by
    have := List.mem_of_mem_take hk
    rcases List.mem_cons.mp this with e | e
    · subst e; exact g1
    · rw [List.mem_singleton] at e; subst e; exact g3) (by rw [List.length_take]; simp only [List.length_cons, List.length_nil]; omega)
  have m9 : ∀ k ∈ q3, (labB k.l = true ∧ Wf 4 k) ∧ dep k ≤ 2 := fun k hk => by
    have := List.mem_of_mem_take (m8 k hk)
    rcases List.mem_cons.mp this with e | e
    · subst e; exact ⟨wf1, Nat.le_succ 1⟩
    · rw [List.mem_singleton] at e; subst e; exact ⟨wf2, d2⟩
  have s3 : siz (.nd l3 w3 q3) ≤ 4 := by
    have := sizs_sub (inc_nodup i8) (b := [Tre.nd l1 w1 [], .nd l2 w2 q2]) fun k hk => List.mem_of_mem_take (m8 k hk)
    simp only [siz, sizs] at this s2 ⊢; omega
  refine ⟨.nd l3 w3 q3, eq_of_wp (runFn_wp rfl ?_), ⟨g5, wf_nd.mpr ⟨g6.1, i8, fun k hk => (m9 k hk).1⟩⟩, by rw [dep]; have := deps_le (n := 2) fun k hk => (m9 k hk).2; omega, s3⟩
  have c1 : cutL [treD (.nd l1 w1 [])] none (some (x / 3 % 2)) = ([Tre.nd l1 w1 []].take (x / 3 % 2).toNat).map treD := by rw [cut_take (by omega), ← List.map_singleton (f := treD), List.map_take]
  have c2 : cutL [treD (.nd l1 w1 []), treD (.nd l2 w2 q2)] none (some (x / 2 % 3)) = ([Tre.nd l1 w1 [], .nd l2 w2 q2].take (x / 2 % 3).toNat).map treD := by rw [cut_take (by omega), List.map_take]; rfl
  refine wp_asg (d := treD (.nd l1 w1 [])) (st' := st) (by simp [e1, e2, treD_nd, treDs]) ?_
  refine wp_asg (d := .tup (q2.map treD)) (st' := st) (by rw [List.map_take] at c1 e7; simp only [List.map_cons, List.map_nil] at c1 e7; simp [c1, e7]) ?_
  refine wp_asg (d := treD (.nd l2 w2 q2)) (st' := st) (by simp [e3, e4, treD_nd, treDs_map]) ?_
  refine wp_asg (d := .tup (q3.map treD)) (st' := st) (by rw [List.map_take] at c2 e8; simp only [List.map_cons, List.map_nil] at c2 e8; simp [c2, e8]) ?_
  refine wp_ret ?_
  simp [e5, e6, treD_nd, treDs_map]
end CM
end
section
set_option linter.all false
set_option maxRecDepth 100000
set_option maxRecDepth 100000
/-! Changed trees stay in order. -/
namespace CM
theorem madeP_l {w' : List Tx} {ks' : List Tre} : ∀ {p : Pl} {t : Tre}, (madeP w' ks' p t).l = t.l
  | [], .nd _ _ _ => rfl
  | _ :: _, .nd _ _ _ => rfl
theorem madeP_ls {w' : List Tx} {ks' ks : List Tre} {x : Tx} {p : Pl} : (ks.map fun k => if k.l = x then madeP w' ks' p k else k).map (·.l) = ks.map (·.l) := by
  rw [List.map_map]
  refine List.map_congr_left fun k _ => ?_
  show (if k.l = x then madeP w' ks' p k else k).l = k.l
  split
  · exact madeP_l
  · rfl
theorem madeP_wf {n : Nat} {w' : List Tx} {ks' : List Tre} (hw : w'.length ≤ n) (hi : IncL (ks'.map (·.l))) (hk : ∀ k ∈ ks', labB k.l = true ∧ Wf n k) : ∀ {p : Pl} {t : Tre}, Wf n t → Wf n (madeP w' ks' p t)
  | [], .nd l w ks, h => by
    rw [madeP]
    exact wf_nd.mpr ⟨hw, hi, hk⟩
  | x :: p, .nd l w ks, h => by
    obtain ⟨h1, h2, h3⟩ := wf_nd.mp h
    rw [madeP]
    refine wf_nd.mpr ⟨h1, by rw [madeP_ls]; exact h2, fun k hk2 => ?_⟩
    obtain ⟨r, hr, e⟩ := List.mem_map.mp hk2
    have hwr := h3 r hr
    subst e
    split
    · rw [madeP_l]; exact ⟨hwr.1, madeP_wf hw hi hk hwr.2⟩
    · exact hwr
/-- the depth of a changed tree -/
theorem madeP_dep {w' : List Tx} {ks' : List Tre} {n : Nat} (hk : ∀ k ∈ ks', dep k ≤ n) : ∀ {p : Pl} {t : Tre}, dep (madeP w' ks' p t) ≤ max (dep t) (p.length + 1 + n)
  | [], .nd l w ks => by
    rw [madeP, dep]
    have := deps_le hk
    simp only [List.length_nil]; omega
  | x :: p, .nd l w ks => by
    rw [madeP, dep, dep]
    have : deps (ks.map fun k => if k.l = x then madeP w' ks' p k else k) ≤ max (deps ks) (p.length + 1 + n) := deps_le fun k hk2 => by
      obtain ⟨r, hr, e⟩ := List.mem_map.mp hk2
      have h1 := dep_mem hr
      have h2 := madeP_dep (w' := w') hk (p := p) (t := r)
      subst e
      split
      · omega
      · omega
    simp only [List.length_cons]; omega
/-! ### kids by label -/
def kidL (x : Tx) (ks : List Tre) : Option Tre := ks.find? fun k => decide (k.l = x)
theorem kid_some {x : Tx} {ks : List Tre} {k : Tre} (h : kidL x ks = some k) : k ∈ ks ∧ k.l = x := ⟨List.mem_of_find?_eq_some h, by
  unfold kidL at h
  have := List.find?_some h
  exact of_decide_eq_true this⟩
theorem kid_none {x : Tx} {ks : List Tre} : kidL x ks = none ↔ ∀ k ∈ ks, k.l ≠ x := by
  unfold kidL
  rw [List.find?_eq_none]
  simp
theorem kid_cons {x : Tx} {t : Tre} {r : List Tre} : kidL x (t :: r) = if t.l = x then some t else kidL x r := by
  unfold kidL
  rw [List.find?_cons]
  by_cases h : t.l = x <;> simp [h]
theorem kid_inc : ∀ {ks : List Tre}, IncL (ks.map (·.l)) → ∀ {k : Tre}, k ∈ ks → kidL k.l ks = some k
  | [], _, _, h => by cases h
  | t :: r, h, k, hk => by
    obtain ⟨h1, h2⟩ := inc_cons.mp h
    rw [kid_cons]
    rcases List.mem_cons.mp hk with e | e
    · subst e; rw [if_pos rfl]
    · rw [if_neg fun z => by have := h1 k e; rw [z, ltL_irr] at this; cases this]
      exact kid_inc h2 e
theorem at_cons {x : Tx} {p : Pl} {t : Tre} : atP (x :: p) t = (kidL x t.ks).bind (atP p) := by
  cases t with
  | nd l w ks =>
    rw [atP]
    show _ = (ks.find? _).bind (atP p)
    cases ks.find? fun k => decide (k.l = x) <;> rfl
theorem at_nil {t : Tre} : atP [] t = some t := by rw [atP]
theorem at_app : ∀ {p q : Pl} {t : Tre}, atP (p ++ q) t = (atP p t).bind (atP q)
  | [], q, t => by rw [at_nil]; rfl
  | x :: p, q, t => by
    rw [List.cons_append, at_cons, at_cons]
    cases kidL x t.ks with
    | none => rfl
    | some k => exact at_app
theorem at_one {x : Tx} {t : Tre} : atP [x] t = kidL x t.ks := by
  rw [at_cons]
  cases kidL x t.ks with
  | none => rfl
  | some k => exact at_nil
theorem dep_ks {t k : Tre} (h : k ∈ t.ks) : dep k + 1 ≤ dep t := by
  cases t with
  | nd l w ks => rw [dep]; have := dep_mem (ks := ks) h; omega
theorem at_dep : ∀ {p : Pl} {t v : Tre}, atP p t = some v → dep v + p.length ≤ dep t
  | [], t, v, h => by rw [at_nil] at h; cases h; simp
  | x :: p, t, v, h => by
    rw [at_cons] at h
    cases e : kidL x t.ks with
    | none => rw [e] at h; cases h
    | some k =>
      rw [e] at h
      have h1 := at_dep (show atP p k = some v from h)
      have h2 := dep_ks (kid_some e).1
      simp only [List.length_cons]; omega
theorem at_wf {n : Nat} : ∀ {p : Pl} {t v : Tre}, Wf n t → atP p t = some v → Wf n v
  | [], t, v, hw, h => by rw [at_nil] at h; cases h; exact hw
  | x :: p, t, v, hw, h => by
    rw [at_cons] at h
    cases e : kidL x t.ks with
    | none => rw [e] at h; cases h
    | some k => rw [e] at h; exact at_wf (hw.kid (kid_some e).1).2 (show atP p k = some v from h)
theorem siz_nd {t : Tre} : siz t = 1 + sizs t.ks := by cases t; rw [siz]; rfl
theorem at_siz : ∀ {p : Pl} {t v : Tre}, atP p t = some v → siz v ≤ siz t
  | [], t, v, h => by rw [at_nil] at h; cases h; exact Nat.le_refl _
  | x :: p, t, v, h => by
    rw [at_cons] at h
    cases e : kidL x t.ks with
    | none => rw [e] at h; cases h
    | some k =>
      rw [e] at h
      have h1 := at_siz (show atP p k = some v from h)
      have h2 := siz_mem (kid_some e).1
      rw [siz_nd (t := t)]; omega
theorem upd_none {x : Tx} {f : Tre → Tre} : ∀ {ks : List Tre}, (∀ k ∈ ks, k.l ≠ x) → (ks.map fun k => if k.l = x then f k else k) = ks
  | [], _ => rfl
  | t :: r, h => by rw [List.map_cons, if_neg (h t (by simp)), upd_none fun k hk => h k (by simp [hk])]
theorem sizs_upd {x : Tx} {f : Tre → Tre} : ∀ {ks : List Tre}, IncL (ks.map (·.l)) → ∀ {k : Tre}, kidL x ks = some k → sizs (ks.map fun k => if k.l = x then f k else k) + siz k = sizs ks + siz (f k)
  | [], _, _, h => by cases h
  | t :: r, hi, k, h => by
    obtain ⟨h1, h2⟩ := inc_cons.mp hi
    rw [kid_cons] at h
    rw [List.map_cons]
    by_cases e : t.l = x
    · rw [if_pos e] at h ⊢
      cases h
      rw [upd_none fun z hz y => by have := h1 z hz; rw [e, y, ltL_irr] at this; cases this]
      rw [sizs, sizs]; omega
    · rw [if_neg e] at h ⊢
      have := sizs_upd (f := f) h2 h
      rw [sizs, sizs]; omega
theorem madeP_siz {n : Nat} {w' : List Tx} {ks' : List Tre} : ∀ {p : Pl} {t v : Tre}, Wf n t → atP p t = some v → siz (madeP w' ks' p t) + sizs v.ks = siz t + sizs ks'
  | [], .nd l w ks, v, _, h => by
    rw [at_nil] at h; cases h
    rw [madeP, siz, siz]
    show _ + sizs ks = _
    omega
  | x :: p, .nd l w ks, v, hw, h => by
    rw [at_cons] at h
    cases e : kidL x ks with
    | none => rw [show (Tre.nd l w ks).ks = ks from rfl, e] at h; cases h
    | some k =>
      rw [show (Tre.nd l w ks).ks = ks from rfl, e] at h
      have h1 := madeP_siz (w' := w') (ks' := ks') (hw.kid (kid_some e).1).2 (show atP p k = some v from h)
      have h2 := sizs_upd (f := madeP w' ks' p) hw.inc e
      rw [madeP, siz, siz]
      simp only [Tre.ks] at h2
      omega
theorem placess_mem {p : Pl} {x : Pl} : ∀ {ks : List Tre}, x ∈ placess p ks → ∃ k ∈ ks, x ∈ places (p ++ [k.l]) k
  | [], h => by rw [placess] at h; cases h
  | t :: r, h => by
    rw [placess] at h
    rcases List.mem_append.mp h with h | h
    · exact ⟨t, by simp, h⟩
    · obtain ⟨k, hk, h⟩ := placess_mem h
      exact ⟨k, by simp [hk], h⟩
theorem places_at {n : Nat} : ∀ (m : Nat) {p x : Pl} {t : Tre}, dep t ≤ m → Wf n t → x ∈ places p t → ∃ q v, x = p ++ q ∧ atP q t = some v
  | 0, p, x, .nd _ _ _, hm, _, _ => by rw [dep] at hm; omega
  | m + 1, p, x, .nd l w ks, hm, hw, h => by
    rw [places] at h
    rcases List.mem_cons.mp h with h | h
    · exact ⟨[], _, by rw [h, List.append_nil], at_nil⟩
    · obtain ⟨k, hk, h⟩ := placess_mem h
      have hd := dep_ks (t := .nd l w ks) hk
      obtain ⟨q, v, e, hv⟩ := places_at m (by omega) (hw.kid hk).2 h
      refine ⟨k.l :: q, v, by rw [e, List.append_assoc]; rfl, ?_⟩
      rw [at_cons, kid_inc hw.inc hk]
      exact hv
/-! ### a kid more, by the order -/
def insT (k : Tre) : List Tre → List Tre
  | [] => [k]
  | t :: r => if ltL t.l k.l = true then t :: insT k r else k :: t :: r
theorem insT_mem {k x : Tre} : ∀ {ks : List Tre}, x ∈ insT k ks ↔ x = k ∨ x ∈ ks
  | [] => by simp [insT]
  | t :: r => by
    rw [insT]
    split
    · rw [List.mem_cons, insT_mem, List.mem_cons]
      constructor
      · rintro (h | h | h)
        · exact .inr (.inl h)
        · exact .inl h
        · exact .inr (.inr h)
      · rintro (h | h | h)
        · exact .inr (.inl h)
        · exact .inl h
        · exact .inr (.inr h)
    · rw [List.mem_cons]
theorem insT_inc {k : Tre} (hl : labB k.l = true) : ∀ {ks : List Tre}, (∀ r ∈ ks, labB r.l = true) → IncL (ks.map (·.l)) → (∀ r ∈ ks, r.l ≠ k.l) → IncL ((insT k ks).map (·.l))
  | [], _, _, _ => List.pairwise_singleton ..
  | t :: r, hr, h, hn => by
    obtain ⟨h1, h2⟩ := inc_cons.mp h
    rw [insT]
    split
    · rename_i hlt
      refine inc_cons.mpr ⟨fun x hx => ?_, insT_inc hl (fun z hz => hr z (by simp [hz])) h2 fun z hz => hn z (by simp [hz])⟩
      rcases insT_mem.mp hx with e | e
      · subst e; exact hlt
      · exact h1 x e
    · rename_i hlt
      have hkt : ltL k.l t.l = true := (ltL_tri (hr t (by simp)) hl (hn t (by simp))).resolve_left hlt
      refine inc_cons.mpr ⟨fun x hx => ?_, h⟩
      rcases List.mem_cons.mp hx with e | e
      · subst e; exact hkt
      · exact ltL_trans hkt (h1 x e)
theorem insT_siz {k : Tre} : ∀ {ks : List Tre}, sizs (insT k ks) = siz k + sizs ks
  | [] => rfl
  | t :: r => by
    rw [insT]
    split
    · rw [sizs, insT_siz, sizs]; omega
    · rw [sizs]
theorem inc_ext : ∀ {a b : List Tre}, IncL (a.map (·.l)) → IncL (b.map (·.l)) → (∀ t, t ∈ a ↔ t ∈ b) → a = b
  | [], [], _, _, _ => rfl
  | [], y :: b, _, _, h => by have := (h y).mpr (by simp); cases this
  | x :: a, [], _, _, h => by have := (h x).mp (by simp); cases this
  | x :: a, y :: b, ha, hb, h => by
    obtain ⟨a1, a2⟩ := inc_cons.mp ha
    obtain ⟨b1, b2⟩ := inc_cons.mp hb
    have irr : ∀ t : Tre, ¬ ltL t.l t.l = true := fun t z => by rw [ltL_irr] at z; cases z
    have e : x = y := by
      rcases List.mem_cons.mp ((h x).mp (by simp)) with e | e
      · exact e
      · rcases List.mem_cons.mp ((h y).mpr (by simp)) with e2 | e2
        · exact e2.symm
        · exact absurd (ltL_trans (a1 y e2) (b1 x e)) (irr x)
    subst e
    congr 1
    refine inc_ext a2 b2 fun t => ⟨fun ht => ?_, fun ht => ?_⟩
    · rcases List.mem_cons.mp ((h t).mp (by simp [ht])) with e | e
      · subst e; exact absurd (a1 t ht) (irr t)
      · exact e
    · rcases List.mem_cons.mp ((h t).mpr (by simp [ht])) with e | e
      · subst e; exact absurd (b1 t ht) (irr t)
      · exact e
/-- what the first of each label, by the order, come to where a kid with a label of its own comes in -/
theorem kids_ins {k : Tre} {ks qs : List Tre} (hl : labB k.l = true) (hr : ∀ r ∈ ks, labB r.l = true) (hi : IncL (ks.map (·.l))) (hn : ∀ r ∈ ks, r.l ≠ k.l)
    (h1 : IncL (qs.map (·.l))) (h2 : ∀ q ∈ qs, q ∈ ks ++ [k]) (h3 : ∀ l, l ∈ qs.map (·.l) ↔ l ∈ (ks ++ [k]).map (·.l)) : qs = insT k ks := by
  refine inc_ext h1 (insT_inc hl hr hi hn) fun t => ?_
  have un : ∀ a b : Tre, a ∈ ks ++ [k] → b ∈ ks ++ [k] → a.l = b.l → a = b := fun a b ha hb e => by
    rcases List.mem_append.mp ha with za | za <;> rcases List.mem_append.mp hb with zb | zb
    · have h1 := kid_inc hi za
      rw [e, kid_inc hi zb] at h1
      exact (Option.some.inj h1).symm
    · rw [List.mem_singleton] at zb; subst zb; exact absurd e (hn a za)
    · rw [List.mem_singleton] at za; subst za; exact absurd e.symm (hn b zb)
    · rw [List.mem_singleton] at za zb; rw [za, zb]
  rw [insT_mem]
  constructor
  · intro h
    have := h2 t h
    rcases List.mem_append.mp this with z | z
    · exact .inr z
    · exact .inl (List.mem_singleton.mp z)
  · intro h
    have ht : t ∈ ks ++ [k] := by rcases h with h | h <;> simp [h]
    obtain ⟨q, hq, e⟩ := List.mem_map.mp ((h3 t.l).mpr (List.mem_map.mpr ⟨t, ht, rfl⟩))
    exact un q t (h2 q hq) ht e ▸ hq
/-- one drawn change -/
inductive Step1 (t : Tre) : Tre → Prop
  | words (p : Pl) (v : Tre) (w' : List Tx) : atP p t = some v → Step1 t (madeP w' v.ks p t)
  | put (p : Pl) (v k : Tre) : atP p t = some v → (∀ r ∈ v.ks, r.l ≠ k.l) → labB k.l = true → Step1 t (madeP v.w (insT k v.ks) p t)
  | out (p : Pl) (v : Tre) (x : Tx) : atP p t = some v → (∃ r ∈ v.ks, r.l = x) → Step1 t (madeP v.w (v.ks.filter fun r => decide (r.l ≠ x)) p t)
end CM
end
section
set_option linter.all false
set_option maxRecDepth 100000
/-! A tree by one drawn change, by many; drafts. -/
namespace CM
/-- a tree as the laws draw it: n words at most at a place -/
structure TOk (n : Nat) (t : Tre) : Prop where
  l : t.l = []
  wf : Wf n t
  siz : siz t ≤ 64
  dep : dep t ≤ 10
theorem Step1.ok {n : Nat} {t u : Tre} (h : Step1 t u) : u.l = t.l := by
  cases h <;> exact madeP_l
theorem filt_inc {ok : Tre → Bool} {ks : List Tre} (h : IncL (ks.map (·.l))) : IncL ((ks.filter ok).map (·.l)) := by
  unfold IncL at *
  rw [List.pairwise_map] at *
  exact List.Pairwise.filter _ h
theorem sizs_filt {ok : Tre → Bool} : ∀ ks : List Tre, sizs (ks.filter ok) ≤ sizs ks
  | [] => Nat.le_refl _
  | t :: r => by
    have := sizs_filt (ok := ok) r
    rw [List.filter_cons]
    split
    · rw [sizs, sizs]; omega
    · rw [sizs]; omega
/-- what of a tree stays so where a node of it is made anew -/
theorem made_ok {n m : Nat} {t v : Tre} {p : Pl} {w' : List Tx} {ks' : List Tre} (ht : TOk n t) (hv : atP p t = some v) (hnm : n ≤ m) (hw : w'.length ≤ m) (hi : IncL (ks'.map (·.l))) (hk : ∀ k ∈ ks', labB k.l = true ∧ Wf m k)
    (hd : ∀ k ∈ ks', p.length + 1 + CM.dep k ≤ 10) (hs : sizs ks' ≤ sizs v.ks + (64 - CM.siz t)) : TOk m (madeP w' ks' p t) := by
  refine ⟨by rw [madeP_l]; exact ht.l, madeP_wf hw hi hk (ht.wf.le hnm), ?_, ?_⟩
  · have := madeP_siz (w' := w') (ks' := ks') ht.wf hv
    have h1 := ht.siz
    omega
  · have hdv := at_dep hv
    have h2 := ht.dep
    have : 1 ≤ CM.dep v := by cases v; rw [CM.dep]; omega
    have := madeP_dep (w' := w') (ks' := ks') (n := 10 - (p.length + 1)) (fun k hk => by have := hd k hk; omega) (p := p) (t := t)
    omega
theorem kid_dep {p : Pl} {t v k : Tre} (hv : atP p t = some v) (hk : k ∈ v.ks) : p.length + 1 + dep k ≤ dep t := by
  have h1 := at_dep hv
  have h2 := dep_ks hk
  omega
theorem oD_some {t : Tre} : oD (some t) = treD t := rfl
theorem isNon_tre {t : Tre} : isNon (treD t) = false := by cases t; rfl
theorem isNon_oD {o : Option Tre} : isNon (oD o) = o.isNone := by
  cases o with
  | none => rfl
  | some t => exact isNon_tre
theorem free_oD {o : Option Tre} : free (oD o) = true := by
  cases o with
  | none => rfl
  | some t => cases t; rfl
@[simp] theorem filt_oD {o : Option Tre} : Option.filter free (some (oD o)) = some (oD o) := filt_free free_oD
@[simp] theorem frz_oD {o : Option Tre} : frz (oD o) = oD o := by
  cases o with
  | none => rfl
  | some t => exact frz_tre
@[simp] theorem isNon_oD' {o : Option Tre} : isNon (oD o) = o.isNone := isNon_oD
@[simp] theorem isNon_tre' {t : Tre} : isNon (treD t) = false := isNon_tre
/-- the calls that law_changed makes -/
structure ChC (C : Calls) : Prop where
  mix : ∀ i f st, 0 ≤ f → f < 10 ^ 15 → ∃ n : Int, C.f 0 [.int i, .int f] st = .ok (.int n) st ∧ 0 ≤ n ∧ n < 2147483647
  places : ∀ t st, siz t ≤ 64 → dep t ≤ 10 → C.f 1 [treD t, tsD []] st = .ok (.ol ((places [] t).map tsD)) st
  at' : ∀ t p st, siz t ≤ 64 → dep t ≤ 10 → p.length ≤ 100 → C.f 2 [treD t, tsD p] st = .ok (oD (atP p t)) st
  node : ∀ x st, 0 ≤ x → ∃ k, C.f 3 [.int x] st = .ok (treD k) st ∧ (labB k.l = true ∧ Wf 4 k) ∧ dep k ≤ 3 ∧ siz k ≤ 4
  made : ∀ t p w ks st, siz t ≤ 64 → dep t ≤ 10 → C.f 4 [treD t, tsD p, tsD w, .tup (ks.map treD)] st = .ok (treD (madeP w ks p t)) st
  kids : ∀ (ks : List Tre) st, (∀ k ∈ ks, labB k.l = true) → ks.length ≤ 10000 → ∃ qs : List Tre, C.f 5 [.tup (ks.map treD)] st = .ok (.tup (qs.map treD)) st ∧ IncL (qs.map (·.l)) ∧ (∀ q ∈ qs, q ∈ ks) ∧ (∀ l, l ∈ qs.map (·.l) ↔ l ∈ ks.map (·.l))
  words : ∀ i st, ∃ w, C.f 6 [.int i] st = .ok (tsD w) st ∧ WsOk w
theorem ts_nil : D.tup [] = tsD [] := rfl
theorem at_m1 {xs : List D} {d : D} : atI (xs ++ [d]) (-1) = some d := by
  unfold atI L2.ixN
  rw [List.length_append]
  simp only [List.length_cons, List.length_nil]
  rw [if_neg (by omega), if_pos (by omega)]
  rw [Option.bind_some, show ((-1 : Int) + ((xs.length + (0 + 1) : Nat) : Int)).toNat = xs.length by omega]
  simp
theorem getlast_ts {q : Pl} {x : Tx} : atI ((q ++ [x]).map D.str) (-1) = some (.str x) := by
  rw [List.map_append]; exact at_m1
theorem law_changed_ok {C : Calls} {n : Nat} {t : Tre} {c : Int} {st : Sto} (hC : ChC C) (h4 : 4 ≤ n) (hn : n ≤ 1000) (ht : TOk n t) :
    ∃ u, runFn C 2 15 Pr.fn_law_changed [treD t, .int c] st = .ok (treD u) st ∧ TOk (n + 3) u ∧ Step1 t u := by
  obtain ⟨n1, en1, _, _⟩ := hC.mix c 48271 st (by omega) (by omega)
  obtain ⟨n2, en2, g2, _⟩ := hC.mix c 69621 st (by omega) (by omega)
  obtain ⟨n3, en3, g3, _⟩ := hC.mix c 40692 st (by omega) (by omega)
  obtain ⟨k, ek, wk, dk, sk⟩ := hC.node n3 st g3
  have epl := hC.places t st ht.siz ht.dep
  have hpl : (places [] t).length = siz t := places_len _ _
  have hpos : 0 < siz t := by rw [siz_nd]; omega
  have hs64 := ht.siz
  obtain ⟨m2, em2, hm2⟩ := emod_nat (z := n2) (n := siz t) hpos
  obtain ⟨p, ep⟩ : ∃ p, (places [] t)[m2]? = some p := ⟨_, List.getElem?_eq_getElem (by omega)⟩
  have hpm := List.mem_of_getElem? ep
  obtain ⟨q, v, ev0, hv⟩ := places_at 10 ht.dep ht.wf hpm
  rw [List.nil_append] at ev0
  subst ev0
  have hdv := at_dep hv
  have hd10 := ht.dep
  have hdv1 : 1 ≤ dep v := by cases v; rw [dep]; omega
  have hp9 : p.length ≤ 9 := by omega
  have eat := hC.at' t p st ht.siz ht.dep (by omega)
  rw [hv] at eat
  have hvw := at_wf ht.wf hv
  have hvs := at_siz hv
  have eidx : atI ((places [] t).map tsD) (n2 % (siz t : Int)) = some (tsD p) := by
    rw [em2, atI_nat (by rw [List.length_map]; omega)]
    rw [List.getElem_map]
    congr 2
    exact (List.getElem?_eq_some_iff.mp ep).2
  have hvk : ∀ {r : Tre}, r ∈ v.ks → labB r.l = true ∧ Wf n r := fun hr => hvw.kid hr
  have hvl : v.ks.length ≤ 64 := by have := ks_len v.ks; rw [siz_nd (t := v)] at hvs; omega
  have H : wp (runFn C 2 15 Pr.fn_law_changed [treD t, .int c] st) fun d st' => st' = st ∧ ∃ u, d = treD u ∧ TOk (n + 3) u ∧ Step1 t u := by
    refine runFn_wp rfl ?_
    refine wp_asg (d := .int n1) (st' := st) (by simp [en1]) ?_
    refine wp_asg (d := .ol ((places [] t).map tsD)) (st' := st) (by simp [ts_nil, epl]) ?_
    refine wp_asg (d := tsD p) (st' := st) (by simp [en2, hpl, hpos, eidx]) ?_
    refine wp_asg (d := treD v) (st' := st) (by simp [eat, oD_some]) ?_
    refine wp_asg (d := treD k) (st' := st) (by simp [en3, ek]) ?_
    refine wp_asg (d := .int (n1 % 5)) (st' := st) (by simp) ?_
    refine wp_asg (d := .bl (decide (p.length < 6) && decide (siz t < 60))) (st' := st) (by
      simp [hpl]
      by_cases h1 : p.length < 6 <;> by_cases h2 : siz t < 60 <;> simp [h1, h2]) ?_
    have ekid := hC.at' v [k.l] st (by omega) (by omega) (by simp)
    rw [at_one] at ekid
    refine wp_iffE (t := decide (n1 % 5 < 2) && (decide (p.length < 6) && decide (siz t < 60)) && (kidL k.l v.ks).isNone) (st' := st) (by
      simp [tre0]
      rw [show D.tup [.str k.l] = tsD [k.l] from rfl, ekid]
      simp
      by_cases h1 : n1 % 5 < 2 <;> by_cases h2 : p.length < 6 <;> by_cases h3 : siz t < 60 <;> simp [h1, h2, h3]) (fun hh => ?_) fun _ => ?_
    · simp only [Bool.and_eq_true, decide_eq_true_eq, Option.isNone_iff_eq_none] at hh
      obtain ⟨⟨_, hp6, hs60⟩, hno⟩ := hh
      have hno := kid_none.mp hno
      obtain ⟨qs, eq, i1, i2, i3⟩ := hC.kids (v.ks ++ [k]) st (fun r hr => by
        rcases List.mem_append.mp hr with z | z
        · exact (hvk z).1
        · rw [List.mem_singleton] at z; subst z; exact wk.1) (by rw [List.length_append]; simp only [List.length_cons, List.length_nil]; omega)
      have eqs := kids_ins wk.1 (fun r hr => (hvk hr).1) hvw.inc hno i1 i2 i3
      subst eqs
      refine wp_ret ?_
      have hadd : opS st .add (.tup (v.ks.map treD)) (.tup [treD k]) = some (.tup ((v.ks ++ [k]).map treD)) := by
        rw [op_add_t (by simp only [List.length_map, List.length_cons, List.length_nil]; omega), List.map_append]; rfl
      simp [idx1_tre, idx2_tre, hadd]
      rw [List.map_append] at eq
      simp at eq
      simp [eq, hC.made t p v.w _ st ht.siz ht.dep]
      refine ⟨_, rfl, made_ok ht hv (by omega) (by have := hvw.ws; omega) i1 (fun r hr => ?_) (fun r hr => ?_) ?_, Step1.put p v k hv hno wk.1⟩
      · rcases insT_mem.mp hr with e | e
        · subst e; exact ⟨wk.1, wk.2.le (by omega)⟩
        · exact ⟨(hvk e).1, (hvk e).2.le (by omega)⟩
      · rcases insT_mem.mp hr with e | e
        · subst e; omega
        · have := kid_dep hv e; omega
      · rw [insT_siz]; omega
    · rw [List.nil_append]
      refine wp_iffE (t := decide (n1 % 5 = 2) && decide (p ≠ [])) (st' := st) (by
        simp [tre0]
        by_cases h1 : n1 % 5 = 2 <;> by_cases h2 : p = [] <;> simp [h1, h2]) (fun hh => ?_) fun _ => ?_
      · simp only [Bool.and_eq_true, decide_eq_true_eq] at hh
        obtain ⟨_, hne⟩ := hh
        obtain ⟨q, x, e⟩ : ∃ q x, p = q ++ [x] := ⟨p.dropLast, p.getLast hne, (List.dropLast_concat_getLast hne).symm⟩
        subst e
        rw [at_app] at hv
        obtain ⟨a, ha, hax⟩ : ∃ a, atP q t = some a ∧ kidL x a.ks = some v := by
          cases ha : atP q t with
          | none => rw [ha] at hv; cases hv
          | some a => rw [ha] at hv; exact ⟨a, rfl, by rw [← at_one]; exact hv⟩
        have ea := hC.at' t q st ht.siz ht.dep (by simp at hp9; omega)
        rw [ha] at ea
        have haw := at_wf ht.wf ha
        have has := at_siz ha
        have hal : a.ks.length ≤ 64 := by have := ks_len a.ks; rw [siz_nd (t := a)] at has; omega
        refine wp_asg (d := treD a) (st' := st) (by simp [cut_init, ea, oD_some]) ?_
        refine wp_asg (d := .ol ((a.ks.filter fun r => decide (r.l ≠ x)).map treD)) (st' := st) (by
          rw [ev_comp]
          have e0 : ∀ ρ : Slots, getS ρ 9 = some (treD a) → evBs C ρ [E.op Op.idx (E.var 9) (E.int 2)] st = .ok [.tup (a.ks.map treD)] st := fun ρ h => by simp [h, idx2_tre]
          rw [e0 _ rfl, bind_ok, show itemsOf st .seq [.tup (a.ks.map treD)] = some (a.ks.map treD) from rfl]
          refine comp_filt (by omega) fun r hr => ?_
          have eg : atI ((q ++ [x]).map D.str) (-1) = some (.str x) := getlast_ts
          have eg2 : idxS st (tsD (q ++ [x])) (.int (-1)) = some (.str x) := eg
          rw [compB_one1]
          by_cases h : r.l = x <;> simp [tre0, h, still, frz_tre, eg2, -List.map_append]) ?_
        refine wp_ret ?_
        simp [cut_init, idx1_tre, tup_ol]
        have em := hC.made t q a.w (a.ks.filter fun r => decide (r.l ≠ x)) st ht.siz ht.dep
        simp at em
        simp [em]
        refine ⟨_, rfl, ?_, ?_⟩
        · have := made_ok (w' := a.w) (ks' := a.ks.filter fun r => decide (r.l ≠ x)) ht ha (m := n + 3) (by omega) (by have := haw.ws; omega) (filt_inc haw.inc) (fun r hr => by
            have := haw.kid (List.mem_filter.mp hr).1
            exact ⟨this.1, this.2.le (by omega)⟩) (fun r hr => by
            have := kid_dep ha (List.mem_filter.mp hr).1; omega) (by have := sizs_filt (ok := fun r => decide (r.l ≠ x)) a.ks; omega)
          simpa using this
        · have := Step1.out q a x ha ⟨v, (kid_some hax).1, (kid_some hax).2⟩
          simpa using this
      · rw [List.nil_append]
        have fin : ∀ w', w'.length ≤ n + 3 → TOk (n + 3) (madeP w' v.ks p t) ∧ Step1 t (madeP w' v.ks p t) := fun w' hw' =>
          ⟨made_ok ht hv (by omega) hw' hvw.inc (fun r hr => ⟨(hvk hr).1, (hvk hr).2.le (by omega)⟩) (fun r hr => by have := kid_dep hv hr; omega) (by omega), Step1.words p v w' hv⟩
        refine wp_iffE (t := decide (n1 % 5 = 3) && decide (v.w ≠ [])) (st' := st) (by
          simp [idx1_tre]
          by_cases h1 : n1 % 5 = 3 <;> by_cases h2 : v.w = [] <;> simp [h1, h2]) (fun hh => ?_) fun _ => ?_
        · simp only [Bool.and_eq_true, decide_eq_true_eq] at hh
          have hwl : 0 < v.w.length := List.length_pos_iff.mpr hh.2
          have hwn := hvw.ws
          obtain ⟨j, ej, hj⟩ := emod_nat (z := n1 / 5) (n := v.w.length) hwl
          obtain ⟨w, ew, hw⟩ := hC.words (n1 / 40) st
          have hw4 := hw.1
          refine wp_asg (d := tsD v.w) (st' := st) (by simp [idx1_tre]) ?_
          refine wp_asg (d := .int j) (st' := st) (by simp [hwl, ej]) ?_
          have c1 : cutL v.w none (some (j : Int)) = v.w.take j := cut_hi
          have c2 : cutL v.w (some ((j : Int) + 1)) none = v.w.drop (j + 1) := by
            rw [show ((j : Int) + 1) = ((j + 1 : Nat) : Int) from rfl]; exact cut_lo
          have l1 : (v.w.take j).length + w.length ≤ 16777216 := by rw [List.length_take]; omega
          have l2 : (v.w.take j ++ w).length + (v.w.drop (j + 1)).length ≤ 16777216 := by rw [List.length_append, List.length_take, List.length_drop]; omega
          have a1 := add_ts (st := st) l1
          have a2 := add_ts (st := st) l2
          refine wp_asg (d := tsD (v.w.take j ++ w ++ v.w.drop (j + 1))) (st' := st) (by
            simp [c1, c2, ew, a1, -List.append_assoc]
            rw [a2]; rfl) ?_
          refine wp_ret ?_
          simp [idx2_tre, hC.made t p _ v.ks st ht.siz ht.dep, -List.append_assoc]
          refine ⟨_, rfl, fin _ ?_⟩
          rw [List.length_append, List.length_append, List.length_take, List.length_drop, Nat.min_eq_left (Nat.le_of_lt hj)]
          clear l1 l2 a1 a2 c1 c2
          omega
        · obtain ⟨w, ew, hw⟩ := hC.words (n1 / 5) st
          have hw4 := hw.1
          refine wp_ret ?_
          simp [ew, idx2_tre, hC.made t p _ v.ks st ht.siz ht.dep]
          exact ⟨_, rfl, fin _ (by omega)⟩
  obtain ⟨d, e, u, ed, h⟩ := ex_of_wp H
  subst ed
  exact ⟨u, e, h⟩
end CM
end
section
set_option linter.all false
set_option maxRecDepth 100000
/-! A drawn tree, two drafts; where a program has these defs. -/
namespace CM
theorem tok_nil {n : Nat} : TOk n (.nd [] [] []) := ⟨rfl, wf_nd.mpr ⟨Nat.zero_le _, List.Pairwise.nil, by simp⟩, by simp [siz, sizs], by simp [dep, deps]⟩
theorem TOk.le {n m : Nat} (h : n ≤ m) {t : Tre} (ht : TOk n t) : TOk m t := ⟨ht.l, ht.wf.le h, ht.siz, ht.dep⟩
theorem law_tree4_ok {C : Calls} {cells : List Int} {st : Sto} (hl : cells.length ≤ 63) (hC : ∀ n t c st, 4 ≤ n → n ≤ 1000 → TOk n t → ∃ u, C.f 0 [treD t, .int c] st = .ok (treD u) st ∧ TOk (n + 3) u ∧ Step1 t u) :
    ∃ t, runFn C 1 3 Pr.fn_law_tree_4 [.fl (cells.map .int)] st = .ok (treD t) st ∧ TOk (4 + 3 * cells.length) t := by
  have H : wp (runFn C 1 3 Pr.fn_law_tree_4 [.fl (cells.map .int)] st) fun d st' => st' = st ∧ ∃ t, d = treD t ∧ TOk (4 + 3 * cells.length) t := by
    refine runFn_wp rfl ?_
    refine wp_asg (d := treD (.nd [] [] [])) (st' := st) (by simp; rfl) ?_
    refine wp_forP (ds := [.fl (cells.map .int)]) (items := cells.map .int) (fun k ρ => ∃ t a, TOk (4 + 3 * k) t ∧ ρ = [some (.fl (cells.map .int)), some (treD t), a]) (by simp) rfl (by rw [List.length_map]; omega) rfl ⟨_, none, tok_nil, rfl⟩ ?_ ?_
    · rintro k x ρ hx ⟨t, a, ht, e⟩
      subst e
      have hk := (List.getElem?_eq_some_iff.mp hx).1
      rw [List.length_map] at hk
      rw [List.getElem?_map] at hx
      obtain ⟨c, hc, e⟩ := Option.map_eq_some_iff.mp hx
      subst e
      refine ⟨_, rfl, ?_⟩
      obtain ⟨u, eu, hu, _⟩ := hC (4 + 3 * k) t c st (by omega) (by omega) ht
      refine wp_asg (d := treD u) (st' := st) (by simp [eu]) (wp_nil ⟨rfl, u, _, hu, rfl⟩)
    · rintro ρ ⟨t, a, ht, e⟩
      subst e
      rw [List.length_map] at ht
      refine wp_ret ?_
      simp
      exact ⟨t, rfl, ht⟩
  obtain ⟨d, e, u, ed, h⟩ := ex_of_wp H
  subst ed
  exact ⟨u, e, h⟩
theorem cells_cut {ns : List Int} {a b : Nat} : cutL (ns.map D.int) (some (a : Int)) (some (b : Int)) = ((ns.drop a).take (b - a)).map .int := by
  rw [cut_mid, ← List.map_drop, ← List.map_take]
theorem law_drafts_ok {C : Calls} {ns : List Int} {st : Sto} {sc : D} (hsc : sc = .sc (ns.map .int) ∨ sc = .fl (ns.map .int)) (hl : ns.length ≤ 1000) (hT : ∀ cells : List Int, ∀ st, cells.length ≤ 63 → ∃ t, C.f 0 [.fl (cells.map .int)] st = .ok (treD t) st ∧ TOk (4 + 3 * cells.length) t)
    (hM : ∀ i f st, 0 ≤ f → f < 10 ^ 15 → ∃ n : Int, C.f 1 [.int i, .int f] st = .ok (.int n) st ∧ 0 ≤ n ∧ n < 2147483647)
    (hC : ∀ n t c st, 4 ≤ n → n ≤ 1000 → TOk n t → ∃ u, C.f 2 [treD t, .int c] st = .ok (treD u) st ∧ TOk (n + 3) u ∧ Step1 t u) :
    ∃ f a b, runFn C 1 7 Pr.fn_law_drafts [sc] st = .ok (.tup [treD f, treD a, treD b]) st ∧ TOk 200 f ∧ TOk 200 a ∧ TOk 200 b := by
  have H : wp (runFn C 1 7 Pr.fn_law_drafts [sc] st) fun d st' => st' = st ∧ ∃ f a b, d = .tup [treD f, treD a, treD b] ∧ TOk 200 f ∧ TOk 200 a ∧ TOk 200 b := by
    refine runFn_wp rfl ?_
    obtain ⟨f, ef, hf⟩ := hT ((ns.drop 1).take 18) st (by rw [List.length_take]; omega)
    have hf : TOk 60 f := hf.le (by rw [List.length_take]; omega)
    have cut1 : sliceS st sc (some 1) (some 19) = some (.ol (((ns.drop 1).take 18).map .int)) := by
      rcases hsc with e | e <;> subst e
      · rw [sl_sc]; exact congrArg (fun x => some (D.ol x)) (cells_cut (a := 1) (b := 19))
      · rw [sl_fl]; exact congrArg (fun x => some (D.ol x)) (cells_cut (a := 1) (b := 19))
    have cut2 : sliceS st sc (some 19) (some 37) = some (.ol (((ns.drop 19).take 18).map .int)) := by
      rcases hsc with e | e <;> subst e
      · rw [sl_sc]; exact congrArg (fun x => some (D.ol x)) (cells_cut (a := 19) (b := 37))
      · rw [sl_fl]; exact congrArg (fun x => some (D.ol x)) (cells_cut (a := 19) (b := 37))
    generalize (ns.drop 1).take 18 = cs at cut1 ef
    refine wp_asg (d := treD f) (st' := st) (by simp [cut1, ef]) ?_
    refine wp_asg (d := .ol [treD f, treD f]) (st' := st) (by simp) ?_
    have hlc : ((ns.drop 19).take 18).length ≤ 18 := by rw [List.length_take]; omega
    generalize (ns.drop 19).take 18 = cells at cut2 hlc
    show wp (evSs C _ [some sc, some (treD f), some (.ol [treD f, treD f]), none, none, none, none] st) _
    refine wp_forP (ds := [.fl (cells.map .int)]) (items := cells.map .int) (fun k ρ => ∃ a b x y z u, TOk (60 + 3 * k) a ∧ TOk (60 + 3 * k) b ∧ ρ = [some sc, some (treD f), some (.ol [treD a, treD b]), x, y, z, u]) (by simp [cut2]) rfl (by rw [List.length_map]; omega) rfl ⟨f, f, none, none, none, none, hf, hf, rfl⟩ ?_ ?_
    · rintro k x ρ hx ⟨a, b, x1, y1, z1, u1, ha, hb, e⟩
      subst e
      have hk := (List.getElem?_eq_some_iff.mp hx).1
      rw [List.length_map] at hk
      rw [List.getElem?_map] at hx
      obtain ⟨c, hc, e⟩ := Option.map_eq_some_iff.mp hx
      subst e
      refine ⟨_, rfl, ?_⟩
      obtain ⟨n, en, hn, _⟩ := hM c 630360016 st (by omega) (by omega)
      obtain ⟨a2, ea, ha2, _⟩ := hC (60 + 3 * k) a c st (by omega) (by omega) ha
      obtain ⟨b2, eb, hb2, _⟩ := hC (60 + 3 * k) b c st (by omega) (by omega) hb
      refine wp_asg (d := .int n) (st' := st) (by simp [en]) ?_
      refine wp_iffE (t := decide (n % 7 = 0)) (st' := st) (by simp; rw [Bool.beq_eq_decide_eq]) (fun _ => ?_) fun _ => ?_
      · refine wp_asg (d := .ol [treD a2, treD b2]) (st' := st) (by simp [compOf, compGo, ea, eb, still]) (wp_nil ⟨rfl, a2, b2, _, _, _, _, ha2, hb2, rfl⟩)
      · refine wp_asg (d := .int (n % 2)) (st' := st) (by simp) ?_
        rcases (by omega : n % 2 = 0 ∨ n % 2 = 1) with e | e
        · rw [e]
          refine wp_next (ρ' := [some sc, some (treD f), some (.ol [treD a2, treD b]), some (.int c), some (.int n), z1, some (.int 0)]) (st' := st) (by simp [at_0, ea, setIdx, updL, L2.ixN]) (wp_nil ⟨rfl, a2, b, _, _, _, _, ha2, hb.le (by omega), rfl⟩)
        · rw [e]
          refine wp_next (ρ' := [some sc, some (treD f), some (.ol [treD a, treD b2]), some (.int c), some (.int n), z1, some (.int 1)]) (st' := st) (by simp [at_1, eb, setIdx, updL, L2.ixN]) (wp_nil ⟨rfl, a, b2, _, _, _, _, ha.le (by omega), hb2, rfl⟩)
    · rintro ρ ⟨a, b, x, y, z, u, ha, hb, e⟩
      subst e
      rw [List.length_map] at ha hb
      refine wp_ret ?_
      simp [at_0, at_1]
      exact ⟨f, a, b, ⟨rfl, rfl, rfl⟩, hf.le (by omega), ha.le (by omega), hb.le (by omega)⟩
  obtain ⟨d, e, f, a, b, ed, h⟩ := ex_of_wp H
  subst ed
  exact ⟨f, a, b, e, h⟩
/-! ### where a program has the defs that draw trees -/
structure F1 (ds : List Def) (i0 i1 i2 i3 i4 i5 i6 i7 i8 i9 i10 i11 : Nat) : Prop where
  rank : ds[i0]? = some ⟨1, 2, Pr.fn_law_rank, [], []⟩
  mix : ds[i1]? = some ⟨2, 2, Pr.fn_law_mix, [], []⟩
  word : ds[i2]? = some ⟨1, 4, Pr.fn_law_word_4, [], []⟩
  words : ds[i3]? = some ⟨1, 3, Pr.fn_law_words_4, [.fn i2 []], []⟩
  label : ds[i4]? = some ⟨1, 1, Pr.fn_law_label_4, [], []⟩
  kids : ds[i5]? = some ⟨1, 4, Pr.fn_law_kids_2, [.fn i0 []], []⟩
  node : ds[i6]? = some ⟨1, 5, Pr.fn_law_node_2, [.fn i4 [], .fn i3 [], .fn i5 []], []⟩
  places : ds[i7]? = some ⟨2, 4, Pr.fn_law_places, [.fn i7 []], []⟩
  at' : ds[i8]? = some ⟨2, 5, Pr.fn_law_at, [], []⟩
  made : ds[i9]? = some ⟨4, 6, Pr.fn_law_made_2, [.fn i9 []], []⟩
  changed : ds[i10]? = some ⟨2, 15, Pr.fn_law_changed, [.fn i1 [], .fn i7 [], .fn i8 [], .fn i6 [], .fn i9 [], .fn i5 [], .fn i3 []], []⟩
  tree : ds[i11]? = some ⟨1, 3, Pr.fn_law_tree_4, [.fn i10 []], []⟩
section
variable {ds : List Def} {i0 i1 i2 i3 i4 i5 i6 i7 i8 i9 i10 i11 n : Nat} {st : Sto} (h : F1 ds i0 i1 i2 i3 i4 i5 i6 i7 i8 i9 i10 i11)
include h
theorem F1.rank_run {s : Tx} (hs : labB s = true) : runP ds (n + 1) i0 [.str s] st = .ok (rankD s) st := by
  rw [run_def h.rank]; exact law_rank_ok hs
theorem F1.mix_run {i f : Int} (h0 : 0 ≤ f) (h1 : f < 10 ^ 15) : ∃ m : Int, runP ds (n + 1) i1 [.int i, .int f] st = .ok (.int m) st ∧ 0 ≤ m ∧ m < 2147483647 := by
  rw [run_def h.mix]; exact law_mix_ok h0 h1
theorem F1.word_run {i : Int} (h0 : 0 ≤ i) : ∃ s, runP ds (n + 1) i2 [.int i] st = .ok (.str s) st ∧ wrdB s = true := by
  rw [run_def h.word]; exact law_word4_ok h0
theorem F1.words_run {i : Int} : ∃ w, runP ds (n + 2) i3 [.int i] st = .ok (tsD w) st ∧ WsOk w := by
  rw [run_def h.words]; exact law_words4_ok fun i st h0 => h.word_run h0
theorem F1.label_run {i : Int} : ∃ s, runP ds (n + 1) i4 [.int i] st = .ok (.str s) st ∧ labB s = true := by
  rw [run_def h.label]; exact law_label4_ok
theorem F1.kids_run {ks : List Tre} {d : D} (hl : ∀ k ∈ ks, labB k.l = true) (hn : ks.length ≤ 10000) (hd : d = .fl (ks.map treD) ∨ d = .tup (ks.map treD)) :
    ∃ qs : List Tre, runP ds (n + 2) i5 [d] st = .ok (.tup (qs.map treD)) st ∧ IncL (qs.map (·.l)) ∧ (∀ q ∈ qs, q ∈ ks) ∧ (∀ l, l ∈ qs.map (·.l) ↔ l ∈ ks.map (·.l)) := by
  rw [run_def h.kids]; exact law_kids2_ok (fun s st hs => h.rank_run hs) hl hn hd
theorem F1.node_run {x : Int} (h0 : 0 ≤ x) : ∃ t, runP ds (n + 3) i6 [.int x] st = .ok (treD t) st ∧ (labB t.l = true ∧ Wf 4 t) ∧ dep t ≤ 3 ∧ siz t ≤ 4 := by
  rw [run_def h.node]; exact law_node2_ok h0 (fun i => h.label_run) (fun i => h.words_run) fun ks h1 h2 => h.kids_run h1 h2 (.inl rfl)
theorem F1.places_run : ∀ {m n : Nat} {t : Tre} {p : Pl} {st : Sto}, dep t ≤ m → siz t ≤ 1000 → p.length + m ≤ 1000 → runP ds (n + m) i7 [treD t, tsD p] st = .ok (.ol ((CM.places p t).map tsD)) st
  | 0, n, .nd l w ks, p, st, hd, _, _ => by rw [dep] at hd; omega
  | m + 1, n, .nd l w ks, p, st, hd, hs, hp => by
    show runP ds ((n + m) + 1) i7 _ _ = _
    rw [run_def h.places]
    rw [siz] at hs
    exact law_places_ok (fun k hk => F1.places_run (by have := dep_ks (t := .nd l w ks) hk; omega) (by have := siz_mem hk; omega) (by simp only [List.length_append, List.length_cons, List.length_nil]; omega)) (by omega) (by omega)
theorem F1.at_run {t : Tre} {p : Pl} (hs : siz t ≤ 10000) (hd : dep t ≤ 29) (hp : p.length ≤ 10000) : runP ds (n + 1) i8 [treD t, tsD p] st = .ok (oD (atP p t)) st := by
  rw [run_def h.at']; exact law_at_ok hs hd hp
theorem F1.made_run : ∀ {m n : Nat} {t : Tre} {p : Pl} {w : List Tx} {ks : List Tre} {st : Sto}, dep t ≤ m → siz t ≤ 1000 → runP ds (n + m) i9 [treD t, tsD p, tsD w, .tup (ks.map treD)] st = .ok (treD (madeP w ks p t)) st
  | 0, n, .nd l w ks, p, w', ks', st, hd, _ => by rw [dep] at hd; omega
  | m + 1, n, .nd l w ks, p, w', ks', st, hd, hs => by
    show runP ds ((n + m) + 1) i9 _ _ = _
    rw [run_def h.made]
    rw [siz] at hs
    exact law_made2_ok (fun x q k _ hk => F1.made_run (by have := dep_ks (t := .nd l w ks) hk; omega) (by have := siz_mem hk; omega)) (by omega)
theorem F1.changed_run {m : Nat} {t : Tre} {c : Int} (h4 : 4 ≤ m) (hm : m ≤ 1000) (ht : TOk m t) : ∃ u, runP ds (n + 14) i10 [treD t, .int c] st = .ok (treD u) st ∧ TOk (m + 3) u ∧ Step1 t u := by
  rw [run_def h.changed]
  exact law_changed_ok ⟨fun i f st a b => h.mix_run a b, fun t st a b => F1.places_run (m := 10) (n := n + 3) h b (by omega) (by simp), fun t p st a b c => h.at_run (by omega) (by omega) (by omega), fun x st a => h.node_run a,
    fun t p w ks st a b => F1.made_run (m := 10) (n := n + 3) h b (by omega), fun ks st a b => h.kids_run a b (.inr rfl), fun i st => h.words_run⟩ h4 hm ht
theorem F1.tree_run {cells : List Int} (hl : cells.length ≤ 63) : ∃ t, runP ds (n + 15) i11 [.fl (cells.map .int)] st = .ok (treD t) st ∧ TOk (4 + 3 * cells.length) t := by
  rw [run_def h.tree]
  exact law_tree4_ok hl fun n t c st a b ht => h.changed_run a b ht
theorem F1.drafts_run {d : Nat} (hd : ds[d]? = some ⟨1, 7, Pr.fn_law_drafts, [.fn i11 [], .fn i1 [], .fn i10 []], []⟩) {ns : List Int} {sc : D} (hsc : sc = .sc (ns.map .int) ∨ sc = .fl (ns.map .int)) (hl : ns.length ≤ 1000) :
    ∃ f a b, runP ds (n + 16) d [sc] st = .ok (.tup [treD f, treD a, treD b]) st ∧ TOk 200 f ∧ TOk 200 a ∧ TOk 200 b := by
  rw [run_def hd]
  exact law_drafts_ok hsc hl (fun cells st a => h.tree_run a) (fun i f st a b => h.mix_run a b) fun m t c st a b ht => h.changed_run a b ht
end
end CM
end
section
set_option linter.all false
set_option maxRecDepth 100000
set_option maxRecDepth 100000
/-! Trees compared; labels of some trees' kids; three trees brought together, in plain Lean. -/
namespace CM
mutual
theorem peq_tre : ∀ a b : Tre, peq (treD a) (treD b) = true ↔ a = b
  | .nd l w ks, .nd l' w' ks' => by
    rw [treD, treD]
    show ((l == l') && ((peqs (w.map .str) (w'.map .str)) && (peqs (treDs ks) (treDs ks') && true))) = true ↔ _
    rw [peq_ts, Bool.and_eq_true, Bool.and_eq_true, Bool.and_true, beq_iff_eq, decide_eq_true_eq, peq_tres ks ks']
    simp
theorem peq_tres : ∀ a b : List Tre, peqs (treDs a) (treDs b) = true ↔ a = b
  | [], [] => by simp [treDs, peqs]
  | [], _ :: _ => by simp [treDs, peqs]
  | _ :: _, [] => by simp [treDs, peqs]
  | t :: r, t' :: r' => by
    rw [treDs, treDs]
    show (peq (treD t) (treD t') && peqs (treDs r) (treDs r')) = true ↔ _
    rw [Bool.and_eq_true, peq_tre t t', peq_tres r r']
    simp
end
instance : DecidableEq Tre := fun a b => decidable_of_iff _ (peq_tre a b)
theorem peq_treB {a b : Tre} : peq (treD a) (treD b) = decide (a = b) := by
  rw [Bool.eq_iff_iff, peq_tre, decide_eq_true_eq]
theorem eq_tre {st : Sto} {a b : Tre} (ha : dep a ≤ 29) (hb : dep b ≤ 29) : eqS st (treD a) (treD b) = some (decide (a = b)) := by
  unfold eqS
  rw [okd_tre a 60 (by omega), okd_tre b 60 (by omega), if_pos (by rfl), peq_treB]
def depO : Option Tre → Nat
  | none => 0
  | some t => dep t
def sizO : Option Tre → Nat
  | none => 0
  | some t => siz t
theorem okd_oD {o : Option Tre} (h : depO o ≤ 29) : okd 60 (oD o) = true := by
  cases o with
  | none => rfl
  | some t => exact okd_tre t 60 (by simp only [depO] at h; omega)
theorem eq_oD {st : Sto} {a b : Option Tre} (ha : depO a ≤ 29) (hb : depO b ≤ 29) : eqS st (oD a) (oD b) = some (decide (a = b)) := by
  unfold eqS
  rw [okd_oD ha, okd_oD hb, if_pos (by rfl)]
  cases a with
  | none => cases b with
    | none => rfl
    | some b => cases b; rfl
  | some a => cases b with
    | none => cases a; rfl
    | some b =>
      show some (peq (treD a) (treD b)) = _
      rw [peq_treB]
      simp
theorem okds_tss : ∀ ps : List Pl, okds 59 (ps.map tsD) = true
  | [] => rfl
  | p :: r => by
    rw [List.map_cons, okds, tsD, okd, okd_ts, okds_tss r]; rfl
theorem eq_tss {st : Sto} {ps : List Pl} : eqS st (.fl (ps.map tsD)) (.ol []) = some (decide (ps = [])) := by
  unfold eqS
  rw [show okd 60 (.fl (ps.map tsD)) = true by rw [okd, okds_tss]; rfl, show okd 60 (.ol []) = true from rfl, if_pos (by rfl)]
  cases ps <;> simp [peq, peqs]
/-! ### labels of some trees' kids -/
def ddL : List Tx → List Tx
  | [] => []
  | x :: r => if x ∈ ddL r then ddL r else x :: ddL r
theorem ddL_mem {x : Tx} : ∀ {l : List Tx}, x ∈ ddL l ↔ x ∈ l
  | [] => by simp [ddL]
  | y :: r => by
    rw [ddL]
    split
    · rename_i h
      rw [ddL_mem, List.mem_cons]
      exact ⟨.inr, fun z => z.elim (fun e => by subst e; exact ddL_mem.mp h) id⟩
    · rw [List.mem_cons, ddL_mem, List.mem_cons]
theorem ddL_nd : ∀ {l : List Tx}, (ddL l).Nodup
  | [] => List.nodup_nil
  | y :: r => by
    rw [ddL]
    split
    · exact ddL_nd
    · rename_i h
      exact List.nodup_cons.mpr ⟨h, ddL_nd⟩
def labsL (ts : List Tre) : List Tx := sortL (ddL (labsOf ts))
theorem labsL_mem {x : Tx} {ts : List Tre} : x ∈ labsL ts ↔ x ∈ labsOf ts := by
  unfold labsL; rw [sortL_mem, ddL_mem]
theorem labsL_inc {ts : List Tre} (h : ∀ x ∈ labsOf ts, labB x = true) : IncL (labsL ts) := sortL_inc (fun y hy => h y (ddL_mem.mp hy)) ddL_nd
theorem labels_in_run {C : Calls} {ts : List Tre} {st : Sto} (hC : ∀ s st, labB s = true → C.f 0 [.str s] st = .ok (rankD s) st) (hl : ∀ x ∈ labsOf ts, labB x = true) (h1 : ts.length ≤ 100) (h2 : ∀ t ∈ ts, t.ks.length ≤ 10000) :
    runFn C 1 4 Pr.fn_labels_in [.fl (ts.map treD)] st = .ok (.ol ((labsL ts).map .str)) st := by
  obtain ⟨ls, e, hi, hm⟩ := labels_in_ok (st := st) hC hl h1 h2
  rw [e, inc_uniq hi (labsL_inc hl) fun x => by rw [hm, labsL_mem]]
theorem mem_labs {x : Tx} {ts : List Tre} : x ∈ labsOf ts ↔ ∃ t ∈ ts, ∃ k ∈ t.ks, k.l = x := by
  simp [labsOf]
/-- each kid alone: the sizes add up -/
theorem sum_kid : ∀ {ks : List Tre} {ls : List Tx}, ls.Nodup → (ls.map fun x => sizO (kidL x ks)).sum ≤ sizs ks
  | [], ls, _ => by
    have : (ls.map fun x => sizO (kidL x [])).sum = 0 := by
      induction ls with
      | nil => rfl
      | cons y r ih => rw [List.map_cons, List.sum_cons, ih (by rename_i h; exact (List.nodup_cons.mp h).2)]; rfl
    omega
  | t :: r, ls, h => by
    have h1 := sum_kid (ks := r) h
    have h2 : (ls.map fun x => sizO (kidL x (t :: r))).sum ≤ siz t + (ls.map fun x => sizO (kidL x r)).sum := by
      clear h1
      induction ls with
      | nil => simp
      | cons y q ih =>
        obtain ⟨h3, h4⟩ := List.nodup_cons.mp h
        rw [List.map_cons, List.sum_cons, List.map_cons, List.sum_cons]
        by_cases e : t.l = y
        · have : (q.map fun x => sizO (kidL x (t :: r))).sum = (q.map fun x => sizO (kidL x r)).sum := by
            congr 1
            refine List.map_congr_left fun x hx => ?_
            rw [kid_cons, if_neg fun z => h3 (by rw [← e, z]; exact hx)]
          rw [this, kid_cons, if_pos e]
          show siz t + _ ≤ _
          omega
        · rw [kid_cons, if_neg e]
          have := ih h4
          omega
    rw [sizs]; omega
/-! ### three trees brought together -/
def wordsT (a b c : List Tx) : Option (List Tx) := if b = c ∨ c = a then some b else if b = a then some c else none
def woD : Option (List Tx) → D
  | none => .non
  | some w => tsD w
def kidT (W : Pl → Tre → Tre → Tre → Tre × List Pl) (p : Pl) : Option Tre → Option Tre → Option Tre → Option Tre × List Pl
  | none, none, o => (o, [])
  | none, some a, none => (some a, [])
  | none, some a, some b => if a = b then (some a, []) else (none, [p])
  | some _, none, none => (none, [])
  | some f, none, some b => (none, if b = f then [] else [p])
  | some f, some a, none => (none, if a = f then [] else [p])
  | some f, some a, some b => (some (W p f a b).1, (W p f a b).2)
def walkT : Nat → Pl → Tre → Tre → Tre → Tre × List Pl
  | 0, _, f, _, _ => (f, [])
  | n + 1, p, f, a, b =>
    let rs := (labsL [f, a, b]).map fun x => kidT (walkT n) (p ++ [x]) (kidL x f.ks) (kidL x a.ks) (kidL x b.ks)
    (.nd f.l ((wordsT f.w a.w b.w).getD []) (rs.filterMap (·.1)), (if wordsT f.w a.w b.w = none then [p] else []) ++ rs.flatMap (·.2))
theorem kidT_len {W : Pl → Tre → Tre → Tre → Tre × List Pl} {p : Pl} {f a b : Option Tre} (h : ∀ f' a' b', f = some f' → a = some a' → b = some b' → (W p f' a' b').2.length ≤ siz f' + siz a' + siz b') : (kidT W p f a b).2.length ≤ sizO f + sizO a + sizO b := by
  have pos : ∀ t : Tre, 1 ≤ siz t := fun t => by rw [siz_nd]; omega
  cases f with
  | none => cases a with
    | none => simp [kidT]
    | some a => cases b with
      | none => simp [kidT]
      | some b =>
        have := pos a
        rw [kidT]
        split <;> simp only [sizO, List.length_nil, List.length_cons] <;> omega
  | some f =>
    have hf := pos f
    cases a with
    | none => cases b with
      | none => simp [kidT]
      | some b =>
        rw [kidT]
        dsimp only
        split <;> simp only [sizO, List.length_nil, List.length_cons] <;> omega
    | some a => cases b with
      | none =>
        rw [kidT]
        dsimp only
        split <;> simp only [sizO, List.length_nil, List.length_cons] <;> omega
      | some b => exact h f a b rfl rfl rfl
theorem flat_le {α : Type} {ls : List Tx} {g : Tx → List α} {u v w : Tx → Nat} (h : ∀ x ∈ ls, (g x).length ≤ u x + v x + w x) : (ls.flatMap g).length ≤ (ls.map u).sum + (ls.map v).sum + (ls.map w).sum := by
  induction ls with
  | nil => simp
  | cons x r ih =>
    have h1 := h x (by simp)
    have h2 := ih fun y hy => h y (by simp [hy])
    simp only [List.flatMap_cons, List.length_append, List.map_cons, List.sum_cons]
    omega
/-- kids' labels are labels, at each place -/
def Lab3 (f a b : Tre) : Prop := ∀ x ∈ labsOf [f, a, b], labB x = true
theorem lab3_inc {f a b : Tre} (h : Lab3 f a b) : IncL (labsL [f, a, b]) := labsL_inc h
theorem inc_nd {l : List Tx} (h : IncL l) : l.Nodup := by
  unfold IncL at h
  refine List.Pairwise.imp (fun {a b} hab => ?_) h
  intro e; subst e; rw [ltL_irr] at hab; cases hab
theorem wf_lab3 {n : Nat} {f a b : Tre} (hf : Wf n f) (ha : Wf n a) (hb : Wf n b) : Lab3 f a b := fun x hx => by
  obtain ⟨t, ht, k, hk, e⟩ := mem_labs.mp hx
  subst e
  simp only [List.mem_cons, List.not_mem_nil, or_false] at ht
  rcases ht with e | e | e <;> subst e
  · exact (hf.kid hk).1
  · exact (ha.kid hk).1
  · exact (hb.kid hk).1
theorem walk_len {m : Nat} : ∀ {n : Nat} {p : Pl} {f a b : Tre}, Wf m f → Wf m a → Wf m b → (walkT n p f a b).2.length ≤ siz f + siz a + siz b
  | 0, _, _, _, _, _, _, _ => by simp [walkT]
  | n + 1, p, f, a, b, hf, ha, hb => by
    have hn := inc_nd (lab3_inc (wf_lab3 hf ha hb))
    have h1 := sum_kid (ks := f.ks) hn
    have h2 := sum_kid (ks := a.ks) hn
    have h3 := sum_kid (ks := b.ks) hn
    have h4 : (((labsL [f, a, b]).map fun x => kidT (walkT n) (p ++ [x]) (kidL x f.ks) (kidL x a.ks) (kidL x b.ks)).flatMap (·.2)).length ≤ ((labsL [f, a, b]).map fun x => sizO (kidL x f.ks)).sum + ((labsL [f, a, b]).map fun x => sizO (kidL x a.ks)).sum + ((labsL [f, a, b]).map fun x => sizO (kidL x b.ks)).sum := by
      rw [List.flatMap_map]
      exact flat_le (u := fun x => sizO (kidL x f.ks)) (v := fun x => sizO (kidL x a.ks)) (w := fun x => sizO (kidL x b.ks)) fun x _ => kidT_len fun f' a' b' e1 e2 e3 =>
        walk_len (hf.kid (kid_some e1).1).2 (ha.kid (kid_some e2).1).2 (hb.kid (kid_some e3).1).2
    rw [walkT]
    dsimp only
    rw [List.length_append]
    have h5 : (if wordsT f.w a.w b.w = none then [p] else []).length ≤ 1 := by split <;> simp
    rw [siz_nd (t := f), siz_nd (t := a), siz_nd (t := b)]
    omega
end CM
end
section
set_option linter.all false
set_option maxRecDepth 100000
/-! The runs of the program's bringing together. -/
namespace CM
theorem kid_at_ok {C : Calls} {t : Tre} {x : Tx} {st : Sto} (h : t.ks.length ≤ 10000) : runFn C 2 3 Pr.fn_kid_at [treD t, .str x] st = .ok (oD (kidL x t.ks)) st := by
  refine eq_of_wp (runFn_wp rfl ?_)
  show wp (evSs C _ [some (treD t), some (.str x), none] st) _
  refine wp_forP (ds := [.tup (t.ks.map treD)]) (items := t.ks.map treD) (fun k ρ => ∃ a, kidL x (t.ks.drop k) = kidL x t.ks ∧ ρ = [some (treD t), some (.str x), a]) (by simp [idx2_tre]) rfl (by rw [List.length_map]; omega) rfl ⟨none, rfl, rfl⟩ ?_ ?_
  · rintro k y ρ hy ⟨a, hk, e⟩
    subst e
    rw [List.getElem?_map] at hy
    obtain ⟨q, hq, e⟩ := Option.map_eq_some_iff.mp hy
    subst e
    refine ⟨_, rfl, ?_⟩
    have hd : t.ks.drop k = q :: t.ks.drop (k + 1) := by
      obtain ⟨h1, h2⟩ := List.getElem?_eq_some_iff.mp hq
      rw [← h2]; exact List.drop_eq_getElem_cons h1
    rw [hd, kid_cons] at hk
    refine wp_iffE (t := decide (q.l = x)) (st' := st) (by simp [tre0]; exact Bool.beq_eq_decide_eq _ _) (fun h => ?_) fun h => ?_
    · rw [if_pos (of_decide_eq_true h)] at hk
      refine wp_ret ?_
      rw [← hk]
      simp [oD]
    · rw [if_neg (of_decide_eq_false h)] at hk
      exact wp_nil ⟨rfl, _, hk, rfl⟩
  · rintro ρ ⟨a, hk, e⟩
    subst e
    rw [List.length_map, List.drop_length] at hk
    refine wp_ret ?_
    rw [← hk]
    simp [oD, kidL]
theorem words_together_ok {C : Calls} {a b c : List Tx} {st : Sto} : runFn C 3 3 Pr.fn_words_together [tsD a, tsD b, tsD c] st = .ok (woD (wordsT a b c)) st := by
  refine eq_of_wp (runFn_wp rfl ?_)
  refine wp_iffE (t := decide (b = c) || decide (c = a)) (st' := st) (by
    by_cases h1 : b = c <;> by_cases h2 : c = a <;> simp [h1, h2]) (fun h => ?_) fun h => ?_
  · refine wp_ret ?_
    have h : b = c ∨ c = a := by simpa using h
    simp [wordsT, h, woD]
  · have h : ¬ (b = c ∨ c = a) := by simpa using h
    refine wp_iffE (t := decide (b = a)) (st' := st) (by simp) (fun h2 => ?_) fun h2 => ?_
    · refine wp_ret ?_
      have h2 := of_decide_eq_true h2
      rw [wordsT, if_neg h, if_pos h2]
      simp [woD]
    · refine wp_ret ?_
      have h2 := of_decide_eq_false h2
      rw [wordsT, if_neg h, if_neg h2]
      simp [woD]
def Tells (r : R D) (st : Sto) (o : Option Tre) (cl : List Pl) : Prop := ∃ d, r = .ok (.tup [d, .fl (cl.map tsD)]) st ∧ free d = true ∧ frz d = d ∧ isNon d = o.isNone ∧ (cl = [] → d = oD o)
theorem tells_of {r : R D} {st : Sto} {o : Option Tre} {cl : List Pl} (h : r = .ok (.tup [oD o, .fl (cl.map tsD)]) st) : Tells r st o cl := ⟨oD o, h, free_oD, frz_oD, isNon_oD, fun _ => rfl⟩
theorem mul_pl {st : Sto} {d : D} {b : Bool} : opS st .mul (.ol [d]) (.int (if b = true then 1 else 0)) = some (.ol (if b = true then [d] else [])) := by cases b <;> simp [opS, mulS, lsP]
theorem mul_0 {st : Sto} {d : D} : opS st .mul (.ol [d]) (.int 0) = some (.ol []) := mul_pl (b := false)
theorem mul_1 {st : Sto} {d : D} : opS st .mul (.ol [d]) (.int 1) = some (.ol [d]) := mul_pl (b := true)
theorem bi_int_bl {st : Sto} {b : Bool} : biS st .int [.bl b] = some (.int (if b = true then 1 else 0)) := rfl
theorem kid_together_ok {C : Calls} {W : Pl → Tre → Tre → Tre → Tre × List Pl} {p : Pl} {f a b : Option Tre} {st : Sto} (hf : depO f ≤ 29) (ha : depO a ≤ 29) (hb : depO b ≤ 29)
    (hC : ∀ f' a' b', f = some f' → a = some a' → b = some b' → Tells (C.f 0 [tsD p, treD f', treD a', treD b'] st) st (some (W p f' a' b').1) (W p f' a' b').2) :
    Tells (runFn C 4 4 Pr.fn_kid_together [tsD p, oD f, oD a, oD b] st) st (kidT W p f a b).1 (kidT W p f a b).2 := by
  have eq3 : ∀ x y : Option Tre, depO x ≤ 29 → depO y ≤ 29 → eqS st (oD x) (oD y) = some (decide (x = y)) := fun x y hx hy => eq_oD hx hy
  cases f with
  | none =>
    refine tells_of (eq_of_wp (runFn_wp rfl ?_))
    refine wp_iffE (t := true) (st' := st) (by simp) (fun _ => ?_) fun h => by cases h
    show wp (evSs C (.iff _ _ _ :: _) _ st) _
    refine wp_iffE (t := a.isNone || decide (a = b)) (st' := st) (by
      cases ha' : a.isNone <;> simp [ha', eq3 a b ha hb]) (fun h => ?_) fun h => ?_
    · refine wp_ret ?_
      cases a with
      | none => simp [kidT]
      | some a =>
        have h : some a = b := by simpa using h
        subst h
        simp [kidT]
    · cases a with
      | none => cases h
      | some a =>
        refine wp_iffE (t := b.isNone) (st' := st) (by simp) (fun h2 => ?_) fun h2 => ?_
        · cases b with
          | some b => cases h2
          | none =>
            refine wp_ret ?_
            simp [kidT]
        · cases b with
          | none => cases h2
          | some b =>
            have h : ¬ a = b := by simpa using h
            refine wp_ret ?_
            rw [kidT, if_neg h]
            simp [oD]
  | some f =>
    cases a with
    | none =>
      refine tells_of (eq_of_wp (runFn_wp rfl ?_))
      refine wp_iffE (t := false) (st' := st) (by simp) (fun h => by cases h) fun _ => ?_
      cases b with
      | none =>
        refine wp_iffE (t := true) (st' := st) (by simp) (fun _ => ?_) fun h => by cases h
        refine wp_ret ?_
        simp [kidT, oD]
      | some b =>
        refine wp_iffE (t := false) (st' := st) (by simp) (fun h => by cases h) fun _ => ?_
        refine wp_iffE (t := true) (st' := st) (by simp) (fun _ => ?_) fun h => by cases h
        refine wp_ret ?_
        have e := eq_tre (st := st) (a := b) (b := f) hb hf
        by_cases h : b = f
        · simp [kidT, h] at e ⊢
          simp [e, intB, mul_0, oD]
        · simp [kidT, h] at e ⊢
          simp [e, intB, mul_1, oD]
    | some a => cases b with
      | none =>
        refine tells_of (eq_of_wp (runFn_wp rfl ?_))
        refine wp_iffE (t := false) (st' := st) (by simp) (fun h => by cases h) fun _ => ?_
        refine wp_iffE (t := false) (st' := st) (by simp) (fun h => by cases h) fun _ => ?_
        refine wp_iffE (t := false) (st' := st) (by simp) (fun h => by cases h) fun _ => ?_
        refine wp_iffE (t := true) (st' := st) (by simp) (fun _ => ?_) fun h => by cases h
        refine wp_ret ?_
        have e := eq_tre (st := st) (a := a) (b := f) ha hf
        by_cases h : a = f
        · simp [kidT, h] at e ⊢
          simp [e, intB, mul_0, oD]
        · simp [kidT, h] at e ⊢
          simp [e, intB, mul_1, oD]
      | some b =>
        obtain ⟨d, e, h1, h2, h3, h4⟩ := hC f a b rfl rfl rfl
        refine ⟨d, eq_of_wp (runFn_wp rfl ?_), h1, h2, h3, h4⟩
        refine wp_iffE (t := false) (st' := st) (by simp) (fun h => by cases h) fun _ => ?_
        refine wp_iffE (t := false) (st' := st) (by simp) (fun h => by cases h) fun _ => ?_
        refine wp_iffE (t := false) (st' := st) (by simp) (fun h => by cases h) fun _ => ?_
        refine wp_iffE (t := false) (st' := st) (by simp) (fun h => by cases h) fun _ => ?_
        refine wp_ret ?_
        simp [oD_some, e, kidT]
theorem insL_len (x : Tx) : ∀ l : List Tx, (insL x l).length = l.length + 1
  | [] => rfl
  | y :: r => by
    unfold insL
    split
    · rw [List.length_cons, insL_len, List.length_cons]
    · rfl
theorem sortL_len : ∀ l : List Tx, (sortL l).length = l.length
  | [] => rfl
  | x :: r => by rw [sortL, insL_len, sortL_len, List.length_cons]
theorem ddL_len : ∀ l : List Tx, (ddL l).length ≤ l.length
  | [] => Nat.le_refl _
  | x :: r => by
    have := ddL_len r
    rw [ddL]
    split
    · rw [List.length_cons]; omega
    · rw [List.length_cons, List.length_cons]; omega
theorem labs_len3 {f a b : Tre} : (labsL [f, a, b]).length ≤ siz f + siz a + siz b := by
  unfold labsL
  rw [sortL_len]
  have h1 := ddL_len (labsOf [f, a, b])
  have h2 := ks_len f.ks
  have h3 := ks_len a.ks
  have h4 := ks_len b.ks
  rw [siz_nd (t := f), siz_nd (t := a), siz_nd (t := b)]
  simp only [labsOf, List.flatMap_cons, List.flatMap_nil, List.length_append, List.length_map, List.length_nil] at h1 ⊢
  omega
theorem free_woD {o : Option (List Tx)} : free (woD o) = true := by cases o <;> rfl
theorem frz_woD {o : Option (List Tx)} : frz (woD o) = woD o := by cases o <;> rfl
theorem isNon_woD {o : Option (List Tx)} : isNon (woD o) = o.isNone := by cases o <;> rfl
theorem filt_woD {o : Option (List Tx)} : Option.filter free (some (woD o)) = some (woD o) := filt_free free_woD
theorem flat_take_le {α β : Type} {g : α → List β} {xs : List α} {k : Nat} : ((xs.take k).flatMap g).length ≤ (xs.flatMap g).length := by
  conv => rhs; rw [← List.take_append_drop k xs]
  rw [List.flatMap_append, List.length_append]; omega
theorem node_together_ok {C : Calls} {n m : Nat} {p : Pl} {f a b : Tre} {st : Sto} (hp : p.length ≤ 10000) (hf : Wf m f) (ha : Wf m a) (hb : Wf m b) (sf : siz f ≤ 10000) (sa : siz a ≤ 10000) (sb : siz b ≤ 10000)
    (h0 : C.f 0 [tsD f.w, tsD a.w, tsD b.w] st = .ok (woD (wordsT f.w a.w b.w)) st)
    (h1 : C.f 1 [.fl ([f, a, b].map treD)] st = .ok (.ol ((labsL [f, a, b]).map .str)) st)
    (h2 : ∀ x ∈ labsL [f, a, b], Tells (C.f 2 [tsD (p ++ [x]), oD (kidL x f.ks), oD (kidL x a.ks), oD (kidL x b.ks)] st) st (kidT (walkT n) (p ++ [x]) (kidL x f.ks) (kidL x a.ks) (kidL x b.ks)).1 (kidT (walkT n) (p ++ [x]) (kidL x f.ks) (kidL x a.ks) (kidL x b.ks)).2)
    (h3 : ∀ t ∈ [f, a, b], ∀ x, C.f 3 [treD t, .str x] st = .ok (oD (kidL x t.ks)) st) :
    Tells (runFn C 4 11 Pr.fn_node_together [tsD p, treD f, treD a, treD b] st) st (some (walkT (n + 1) p f a b).1) (walkT (n + 1) p f a b).2 := by
  have hlen := walk_len (n := n + 1) (p := p) hf ha hb
  have hlab := labs_len3 (f := f) (a := a) (b := b)
  obtain ⟨g, hg⟩ : ∃ g : Tx → Option Tre × List Pl, g = fun x => kidT (walkT n) (p ++ [x]) (kidL x f.ks) (kidL x a.ks) (kidL x b.ks) := ⟨_, rfl⟩
  obtain ⟨ls, hls⟩ : ∃ ls, ls = labsL [f, a, b] := ⟨_, rfl⟩
  obtain ⟨ws, hws⟩ : ∃ ws, ws = wordsT f.w a.w b.w := ⟨_, rfl⟩
  have hW : walkT (n + 1) p f a b = (.nd f.l (ws.getD []) ((ls.map g).filterMap (·.1)), (if ws = none then [p] else []) ++ (ls.map g).flatMap (·.2)) := by rw [hws, hls, hg, walkT]
  have h2 : ∀ x ∈ ls, Tells (C.f 2 [tsD (p ++ [x]), oD (kidL x f.ks), oD (kidL x a.ks), oD (kidL x b.ks)] st) st (g x).1 (g x).2 := by rw [hls, hg]; exact h2
  rw [hW] at hlen ⊢
  rw [← hws] at h0
  rw [← hls] at h1 hlab
  clear hW hws hls hg
  simp only [List.length_append] at hlen
  have hc0 : (if ws = none then [tsD p] else []) = (if ws = none then [p] else []).map tsD := by split <;> rfl
  have hcn : (if ws = none then [p] else []) = [] → ∃ w, ws = some w := fun h => by
    cases ws with
    | none => cases h
    | some w => exact ⟨w, rfl⟩
  generalize (if ws = none then [p] else []) = c0 at hlen hc0 hcn ⊢
  have hf3 := h3 f (by simp)
  have ha3 := h3 a (by simp)
  have hb3 := h3 b (by simp)
  have H : wp (runFn C 4 11 Pr.fn_node_together [tsD p, treD f, treD a, treD b] st) fun d st' => st' = st ∧ ∃ kd : List D, d = .tup [.tup [.str f.l, woD ws, .tup kd], .fl ((c0 ++ (ls.map g).flatMap (·.2)).map tsD)] ∧ ((ls.map g).flatMap (·.2) = [] → kd = ((ls.map g).filterMap (·.1)).map treD) := by
    refine runFn_wp rfl ?_
    refine wp_asg (d := woD ws) (st' := st) (by simp [idx1_tre, h0]) ?_
    refine wp_asg (d := .ol (c0.map tsD)) (st' := st) (by
      rw [← hc0]
      have e := mul_pl (st := st) (d := tsD p) (b := decide (ws = none))
      simp only [decide_eq_true_eq] at e
      simp [isNon_woD, intB, e]) ?_
    refine wp_asg (d := .ol []) (st' := st) rfl ?_
    show wp (evSs C _ [some (tsD p), some (treD f), some (treD a), some (treD b), some (woD ws), some (.ol (c0.map tsD)), some (.ol []), none, none, none, none] st) _
    refine wp_forP (ds := [.fl (ls.map .str)]) (items := ls.map .str) (fun k ρ => ∃ (kd : List D) (x7 x8 x9 x10 : Option D), kd.length ≤ k ∧ (((ls.map g).take k).flatMap (·.2) = [] → kd = (((ls.map g).take k).filterMap (·.1)).map treD) ∧ ρ = [some (tsD p), some (treD f), some (treD a), some (treD b), some (woD ws), some (.ol ((c0 ++ ((ls.map g).take k).flatMap (·.2)).map tsD)), some (.ol kd), x7, x8, x9, x10]) (by
      simp only [List.map_cons, List.map_nil] at h1
      simp [h1]) rfl (by rw [List.length_map]; omega) rfl ⟨[], none, none, none, none, by simp, by simp, by simp⟩ ?_ ?_
    · rintro k y ρ hy ⟨kd, x7, x8, x9, x10, hk, hkd, e⟩
      subst e
      have hkl := (List.getElem?_eq_some_iff.mp hy).1
      rw [List.length_map] at hkl
      rw [List.getElem?_map] at hy
      obtain ⟨x, hx, e⟩ := Option.map_eq_some_iff.mp hy
      subst e
      have hxm := List.mem_of_getElem? hx
      obtain ⟨d, e, fr, fz, nn, hd⟩ := h2 x hxm
      refine ⟨_, rfl, ?_⟩
      have hp1 : p.length + 1 ≤ 16777216 := by omega
      have ht : (ls.map g).take (k + 1) = (ls.map g).take k ++ [g x] := by rw [List.take_add_one, List.getElem?_map, hx]; rfl
      have hfl := flat_take_le (g := fun z : Option Tre × List Pl => z.2) (xs := ls.map g) (k := k + 1)
      refine wp_asg (d := tsD (p ++ [x])) (st' := st) (by
        simp only [ev_op, evs_cons, evs_nil, ev_var, bor_var, bor_tup, ev_tup, List.set_cons_succ, List.set_cons_zero, getS_0, getS_s, ofO_some, bind_ok, filt_str, frz_str, add_ts1 hp1]) ?_
      refine wp_next (ρ' := [some (tsD p), some (treD f), some (treD a), some (treD b), some (woD ws), some (.ol ((c0 ++ ((ls.map g).take k).flatMap (·.2)).map tsD)), some (.ol kd), some (.str x), some (tsD (p ++ [x])), some d, some (.fl ((g x).2.map tsD))]) (st' := st) (by simp [hf3, ha3, hb3, e]) ?_
      have hext : (c0 ++ ((ls.map g).take k).flatMap (·.2)).map tsD ++ (g x).2.map tsD = (c0 ++ ((ls.map g).take (k + 1)).flatMap (·.2)).map tsD := by
        rw [ht, List.flatMap_append, ← List.append_assoc, List.map_append (l₁ := c0 ++ _)]
        simp
      have hel : ((c0 ++ ((ls.map g).take k).flatMap (·.2)).map tsD).length + ((g x).2.map tsD).length ≤ 16777216 := by
        rw [← List.length_append, hext, List.length_map, List.length_append]; omega
      refine wp_next (ρ' := [some (tsD p), some (treD f), some (treD a), some (treD b), some (woD ws), some (.ol ((c0 ++ ((ls.map g).take (k + 1)).flatMap (·.2)).map tsD)), some (.ol kd), some (.str x), some (tsD (p ++ [x])), some d, some (.fl ((g x).2.map tsD))]) (st' := st) (by
        rw [evS_extend]
        simp only [bor_var, getS_0, getS_s, ofO_some, bind_ok, lsP_ol, Option.isSome_some, if_true]
        rw [extD_fl hel, hext]; rfl) ?_
      refine wp_iffE (t := !isNon d) (st' := st) (by simp) (fun h => ?_) fun h => ?_
      · refine wp_next (ρ' := [some (tsD p), some (treD f), some (treD a), some (treD b), some (woD ws), some (.ol ((c0 ++ ((ls.map g).take (k + 1)).flatMap (·.2)).map tsD)), some (.ol (kd ++ [d])), some (.str x), some (tsD (p ++ [x])), some d, some (.fl ((g x).2.map tsD))]) (st' := st) (by
          rw [evS_append, mutL_own (by rfl)]
          simp only [evs_cons, evs_nil, bor_var, ev_var, getS_0, getS_s, ofO_some, bind_ok, filt_free fr, fz]
          rw [if_pos (by omega)]; rfl) (wp_nil ⟨rfl, kd ++ [d], _, _, _, _, by rw [List.length_append]; simp only [List.length_cons, List.length_nil]; omega, fun hz => ?_, rfl⟩)
        rw [ht, List.flatMap_append, List.append_eq_nil_iff] at hz
        have hz2 : (g x).2 = [] := by simpa using hz.2
        rw [hkd hz.1, ht, List.filterMap_append, List.map_append, hd hz2]
        rw [nn] at h
        obtain ⟨t, et⟩ : ∃ t, (g x).1 = some t := by
          cases e2 : (g x).1 with
          | none => rw [e2] at h; cases h
          | some t => exact ⟨t, rfl⟩
        simp [et, oD_some]
      · refine wp_nil ⟨rfl, kd, _, _, _, _, by omega, fun hz => ?_, rfl⟩
        rw [ht, List.flatMap_append, List.append_eq_nil_iff] at hz
        rw [hkd hz.1, ht, List.filterMap_append, List.map_append]
        rw [nn] at h
        have et : (g x).1 = none := by
          cases e2 : (g x).1 with
          | none => rfl
          | some t => rw [e2] at h; cases h
        simp [et]
    · rintro ρ ⟨kd, x7, x8, x9, x10, hk, hkd, e⟩
      subst e
      rw [List.take_of_length_le (by rw [List.length_map, List.length_map]; exact Nat.le_refl _)] at hkd
      rw [List.take_of_length_le (by rw [List.length_map, List.length_map]; exact Nat.le_refl _)]
      refine wp_frz (d := .ol ((c0 ++ (ls.map g).flatMap (·.2)).map tsD)) rfl ?_
      refine wp_ret ?_
      simp [tre0, filt_woD, frz_woD, tup_ol, -List.map_append, -List.flatMap_map, -List.filterMap_map, -List.flatMap_eq_nil_iff]
      exact hkd
  obtain ⟨r, e, kd, er, hk⟩ := ex_of_wp H
  subst er
  refine ⟨_, e, rfl, rfl, rfl, fun hz => ?_⟩
  obtain ⟨z1, z2⟩ := List.append_eq_nil_iff.mp hz
  obtain ⟨w, ew⟩ := hcn z1
  subst ew
  rw [hk z2, oD_some, treD_nd, treDs_map]
  rfl
end CM
end
section
set_option linter.all false
set_option maxRecDepth 100000
/-! Where a program brings trees together; where one draft is alone. -/
namespace CM
/-- trees small enough for all runs -/
structure Sml (q : Nat) (t : Tre) : Prop where
  wf : Wf q t
  siz : CM.siz t ≤ 1000
  dep : CM.dep t ≤ 29
theorem TOk.sml {q : Nat} {t : Tre} (h : TOk q t) : Sml q t := ⟨h.wf, by have := h.siz; omega, by have := h.dep; omega⟩
theorem Sml.kid {q : Nat} {t k : Tre} (h : Sml q t) (hk : k ∈ t.ks) : Sml q k := ⟨(h.wf.kid hk).2, by have := siz_mem hk; have h1 := h.siz; rw [siz_nd] at h1; omega, by have := dep_ks hk; have := h.dep; omega⟩
theorem Sml.kl {q : Nat} {t : Tre} (h : Sml q t) : t.ks.length ≤ 1000 := by have := ks_len t.ks; have h1 := h.siz; rw [siz_nd] at h1; omega
theorem Sml.kdep {q : Nat} {t : Tre} (h : Sml q t) {x : Tx} : depO (kidL x t.ks) ≤ 29 := by
  cases e : kidL x t.ks with
  | none => simp [depO]
  | some k => exact (h.kid (kid_some e).1).dep
def treeS : Tx := ['t', 'r', 'e', 'e']
def clashS : Tx := ['c', 'l', 'a', 's', 'h']
theorem together_ok {C : Calls} {f a b t : Tre} {cl : List Pl} {st : Sto} (hC : Tells (C.f 0 [tsD [], treD f, treD a, treD b] st) st (some t) cl) :
    runFn C 3 5 Pr.fn_together [treD f, treD a, treD b] st = .ok (if cl = [] then .tup [.str treeS, treD t] else .tup [.str clashS, .fl (cl.map tsD)]) st := by
  obtain ⟨d, e, h1, h2, h3, h4⟩ := hC
  refine eq_of_wp (runFn_wp rfl ?_)
  refine wp_next (ρ' := [some (treD f), some (treD a), some (treD b), some d, some (.fl (cl.map tsD))]) (st' := st) (by simp [ts_nil, e]) ?_
  refine wp_iffE (t := !decide (cl = [])) (st' := st) (by
    have := eq_tss (st := st) (ps := cl)
    simp [this]) (fun h => ?_) fun h => ?_
  · have h : cl ≠ [] := by simpa using h
    refine wp_ret ?_
    simp [h, clashS]
  · have h : cl = [] := by simpa using h
    refine wp_ret ?_
    simp [h, treeS, filt_free h1, h2, h4 h, oD_some]
structure F2 (ds : List Def) (j0 j1 j2 j3 j4 j5 j6 : Nat) : Prop where
  rank : ds[j0]? = some ⟨1, 2, Pr.fn_label_rank, [], []⟩
  labs : ds[j1]? = some ⟨1, 4, Pr.fn_labels_in, [.fn j0 []], []⟩
  kid : ds[j2]? = some ⟨2, 3, Pr.fn_kid_at, [], []⟩
  words : ds[j3]? = some ⟨3, 3, Pr.fn_words_together, [], []⟩
  kidt : ds[j4]? = some ⟨4, 4, Pr.fn_kid_together, [.fn j5 []], []⟩
  node : ds[j5]? = some ⟨4, 11, Pr.fn_node_together, [.fn j3 [], .fn j1 [], .fn j4 [], .fn j2 []], []⟩
  tog : ds[j6]? = some ⟨3, 5, Pr.fn_together, [.fn j5 []], []⟩
section
variable {ds : List Def} {j0 j1 j2 j3 j4 j5 j6 n q : Nat} {st : Sto} (h : F2 ds j0 j1 j2 j3 j4 j5 j6)
include h
theorem F2.labs_run {ts : List Tre} (hs : ∀ t ∈ ts, Sml q t) (hl : ts.length ≤ 100) : runP ds (n + 2) j1 [.fl (ts.map treD)] st = .ok (.ol ((labsL ts).map .str)) st := by
  rw [run_def h.labs]
  exact labels_in_run (fun s st hs => by show runP ds (n + 1) j0 _ _ = _; rw [run_def h.rank]; exact label_rank_ok hs) (fun x hx => by
    obtain ⟨t, ht, k, hk, e⟩ := mem_labs.mp hx
    subst e
    exact ((hs t ht).wf.kid hk).1) hl fun t ht => by have := (hs t ht).kl; omega
theorem F2.kid_run {t : Tre} {x : Tx} (hs : Sml q t) : runP ds (n + 1) j2 [treD t, .str x] st = .ok (oD (kidL x t.ks)) st := by
  rw [run_def h.kid]; exact kid_at_ok (by have := hs.kl; omega)
theorem F2.words_run {a b c : List Tx} : runP ds (n + 1) j3 [tsD a, tsD b, tsD c] st = .ok (woD (wordsT a b c)) st := by
  rw [run_def h.words]; exact words_together_ok
theorem F2.node_run : ∀ {m n : Nat} {p : Pl} {f a b : Tre} {st : Sto}, CM.dep f ≤ m → Sml q f → Sml q a → Sml q b → p.length + m ≤ 1000 →
    Tells (runP ds (n + 1 + 2 * m) j5 [tsD p, treD f, treD a, treD b] st) st (some (walkT m p f a b).1) (walkT m p f a b).2
  | 0, n, p, .nd _ _ _, a, b, st, hd, _, _, _, _ => by rw [CM.dep] at hd; omega
  | m + 1, n, p, f, a, b, st, hd, hf, ha, hb, hp => by
    show Tells (runP ds ((n + 1 + 2 * m + 1) + 1) j5 _ _) _ _ _
    rw [run_def h.node]
    have hl3 : ∀ t ∈ [f, a, b], Sml q t := fun t ht => by
      simp only [List.mem_cons, List.not_mem_nil, or_false] at ht
      rcases ht with e | e | e <;> subst e <;> assumption
    refine node_together_ok (by omega) hf.wf ha.wf hb.wf (by have := hf.siz; omega) (by have := ha.siz; omega) (by have := hb.siz; omega) (h.words_run) ?_ (fun x hx => ?_) fun t ht x => h.kid_run (hl3 t ht)
    · show runP ds (n + 1 + 2 * m + 1) j1 _ _ = _
      rw [show n + 1 + 2 * m + 1 = (n + 2 * m) + 2 by omega]
      exact h.labs_run hl3 (by simp)
    · show Tells (runP ds ((n + 1 + 2 * m) + 1) j4 _ _) _ _ _
      rw [run_def h.kidt]
      refine kid_together_ok hf.kdep ha.kdep hb.kdep fun f' a' b' e1 e2 e3 => ?_
      exact F2.node_run (by have := dep_ks (kid_some e1).1; omega) (hf.kid (kid_some e1).1) (ha.kid (kid_some e2).1) (hb.kid (kid_some e3).1) (by rw [List.length_append]; simp only [List.length_cons, List.length_nil]; omega)
theorem F2.tog_run {m : Nat} {f a b : Tre} (hd : CM.dep f ≤ m) (hm : m ≤ 1000) (hf : Sml q f) (ha : Sml q a) (hb : Sml q b) :
    runP ds (n + 2 + 2 * m) j6 [treD f, treD a, treD b] st = .ok (if (walkT m [] f a b).2 = [] then .tup [.str treeS, treD (walkT m [] f a b).1] else .tup [.str clashS, .fl ((walkT m [] f a b).2.map tsD)]) st := by
  rw [show n + 2 + 2 * m = (n + 1 + 2 * m) + 1 by omega]
  rw [run_def h.tog]
  exact together_ok (h.node_run hd hf ha hb (by simpa using hm))
end
/-! ### one draft alone -/
def Easy {α : Type} (f a b t : α) : Prop := (a = t ∧ b = f) ∨ (a = f ∧ b = t) ∨ (a = t ∧ b = t)
theorem words_easy {f a b t : List Tx} (h : Easy f a b t) : wordsT f a b = some t := by
  unfold wordsT
  rcases h with ⟨e1, e2⟩ | ⟨e1, e2⟩ | ⟨e1, e2⟩ <;> subst e1 <;> subst e2
  · simp
  · by_cases h : a = b
    · simp [h]
    · rw [if_neg (fun z => z.elim h fun z => h z.symm), if_pos rfl]
  · simp
theorem kid_easy {W : Pl → Tre → Tre → Tre → Tre × List Pl} {p : Pl} {f a b t : Option Tre} (h : Easy f a b t) (hW : ∀ f' a' b' t', f = some f' → t = some t' → Easy f' a' b' t' → W p f' a' b' = (t', [])) : kidT W p f a b = (t, []) := by
  cases f with
  | none => cases t with
    | none => rcases h with ⟨e1, e2⟩ | ⟨e1, e2⟩ | ⟨e1, e2⟩ <;> subst e1 <;> subst e2 <;> rfl
    | some t => rcases h with ⟨e1, e2⟩ | ⟨e1, e2⟩ | ⟨e1, e2⟩ <;> subst e1 <;> subst e2 <;> simp [kidT]
  | some f => cases t with
    | none => rcases h with ⟨e1, e2⟩ | ⟨e1, e2⟩ | ⟨e1, e2⟩ <;> subst e1 <;> subst e2 <;> simp [kidT]
    | some t =>
      rcases h with ⟨e1, e2⟩ | ⟨e1, e2⟩ | ⟨e1, e2⟩ <;> subst e1 <;> subst e2
      · rw [kidT, hW f t f t rfl rfl (.inl ⟨rfl, rfl⟩)]
      · rw [kidT, hW f f t t rfl rfl (.inr (.inl ⟨rfl, rfl⟩))]
      · rw [kidT, hW f t t t rfl rfl (.inr (.inr ⟨rfl, rfl⟩))]
theorem filt_sub {ks : List Tre} : ∀ ls : List Tx, ((ls.filterMap fun x => kidL x ks).map (·.l)).Sublist ls
  | [] => List.Sublist.slnil
  | x :: r => by
    rw [List.filterMap_cons]
    cases e : kidL x ks with
    | none => exact (filt_sub r).cons _
    | some k =>
      rw [List.map_cons, (kid_some e).2]
      exact (filt_sub r).cons_cons _
theorem filt_kids {ls : List Tx} {ks : List Tre} (hi : IncL ls) (hk : IncL (ks.map (·.l))) (hm : ∀ k ∈ ks, k.l ∈ ls) : (ls.filterMap fun x => kidL x ks) = ks := by
  refine inc_ext (List.Pairwise.sublist (filt_sub ls) hi) hk fun t => ?_
  rw [List.mem_filterMap]
  constructor
  · rintro ⟨x, _, e⟩
    exact (kid_some e).1
  · intro ht
    exact ⟨t.l, hm t ht, kid_inc hk ht⟩
theorem walk_easy {q : Nat} : ∀ {n : Nat} {p : Pl} {f a b t : Tre}, dep f ≤ n → Wf q f → Wf q t → f.l = t.l → Easy f a b t → walkT n p f a b = (t, [])
  | 0, p, .nd _ _ _, a, b, t, hd, _, _, _, _ => by rw [dep] at hd; omega
  | n + 1, p, f, a, b, t, hd, hf, ht, hl, h => by
    have hab : Wf q a ∧ Wf q b := by rcases h with ⟨e1, e2⟩ | ⟨e1, e2⟩ | ⟨e1, e2⟩ <;> subst e1 <;> subst e2 <;> exact ⟨by assumption, by assumption⟩
    have hw : Easy f.w a.w b.w t.w := by
      rcases h with ⟨e1, e2⟩ | ⟨e1, e2⟩ | ⟨e1, e2⟩ <;> subst e1 <;> subst e2
      · exact .inl ⟨rfl, rfl⟩
      · exact .inr (.inl ⟨rfl, rfl⟩)
      · exact .inr (.inr ⟨rfl, rfl⟩)
    have hinc := lab3_inc (wf_lab3 hf hab.1 hab.2)
    have hmem : ∀ k ∈ t.ks, k.l ∈ labsL [f, a, b] := fun k hk => by
      rw [labsL_mem, mem_labs]
      refine ⟨t, ?_, k, hk, rfl⟩
      rcases h with ⟨e1, e2⟩ | ⟨e1, e2⟩ | ⟨e1, e2⟩ <;> subst e1 <;> subst e2 <;> simp
    have hk : ∀ x, kidT (walkT n) (p ++ [x]) (kidL x f.ks) (kidL x a.ks) (kidL x b.ks) = (kidL x t.ks, []) := fun x => by
      refine kid_easy (t := kidL x t.ks) ?_ fun f' a' b' t' e1 e2 he => ?_
      · rcases h with ⟨e1, e2⟩ | ⟨e1, e2⟩ | ⟨e1, e2⟩ <;> subst e1 <;> subst e2
        · exact .inl ⟨rfl, rfl⟩
        · exact .inr (.inl ⟨rfl, rfl⟩)
        · exact .inr (.inr ⟨rfl, rfl⟩)
      · have z1 := kid_some e1
        have z2 := kid_some e2
        exact walk_easy (by have := dep_ks z1.1; omega) (hf.kid z1.1).2 (ht.kid z2.1).2 (by rw [z1.2, z2.2]) he
    rw [walkT, words_easy hw, List.map_congr_left fun x _ => hk x, List.filterMap_map, List.flatMap_map]
    have e1 : ((labsL [f, a, b]).filterMap ((fun z : Option Tre × List Pl => z.1) ∘ fun x => (kidL x t.ks, ([] : List Pl)))) = t.ks := filt_kids hinc ht.inc hmem
    have e2 : ((labsL [f, a, b]).flatMap fun x => ([] : List Pl)) = [] := by simp
    rw [e1, e2]
    obtain ⟨l, w, ks⟩ := t
    rw [hl]
    rfl
theorem eq_tagT {st : Sto} {s s' : Tx} {a b : Tre} (ha : dep a ≤ 29) (hb : dep b ≤ 29) : eqS st (.tup [.str s, treD a]) (.tup [.str s', treD b]) = some (decide (s = s') && decide (a = b)) := by
  have ok : ∀ (s : Tx) (t : Tre), dep t ≤ 29 → okd 60 (.tup [.str s, treD t]) = true := fun s t ht => by
    rw [okd, okds, okds, okds, okd_tre t (60 - 1) (by omega)]; rfl
  unfold eqS
  rw [ok s a ha, ok s' b hb, if_pos (by rfl)]
  show some ((s == s') && (peq (treD a) (treD b) && true)) = _
  rw [peq_treB, Bool.and_true, Bool.beq_eq_decide_eq]
end CM
end
section
set_option linter.all false
set_option maxRecDepth 100000
/-! How far two trees are. -/
namespace CM
def farK (F : Tre → Tre → Nat) : Option Tre → Option Tre → Nat
  | none, none => 0
  | none, some _ => 1
  | some _, none => 1
  | some a, some b => min 2 (F a b)
def farT : Nat → Tre → Tre → Nat
  | 0, _, _ => 0
  | n + 1, a, b => (if a.w = b.w then 0 else 1) + ((labsL [a, b]).map fun x => farK (farT n) (kidL x a.ks) (kidL x b.ks)).sum
def oS {α : Type} (F : α → Nat) : Option α → Nat
  | none => 0
  | some k => F k
theorem sum_filt {α β : Type} {g : α → Option β} {F : β → Nat} : ∀ ls : List α, ((ls.filterMap g).map F).sum = (ls.map fun x => oS F (g x)).sum
  | [] => rfl
  | x :: r => by
    rw [List.filterMap_cons, List.map_cons, List.sum_cons, ← sum_filt r]
    cases g x with
    | none => simp [oS]
    | some b => simp [oS]
theorem sum_add {α : Type} {F G : α → Nat} : ∀ ls : List α, (ls.map F).sum + (ls.map G).sum = (ls.map fun x => F x + G x).sum
  | [] => rfl
  | x :: r => by
    rw [List.map_cons, List.map_cons, List.map_cons, List.sum_cons, List.sum_cons, List.sum_cons, ← sum_add r]; omega
theorem sum_kids {ls : List Tx} {ks : List Tre} {F : Tre → Nat} (hi : IncL ls) (hk : IncL (ks.map (·.l))) (hm : ∀ k ∈ ks, k.l ∈ ls) : (ks.map F).sum = (ls.map fun x => oS F (kidL x ks)).sum := by
  rw [← sum_filt, filt_kids hi hk hm]
/-- what a law's own hands sum up: kid by kid of the one, then of the other -/
def farA (F : Tre → Tre → Nat) (b : Tre) (k : Tre) : Nat := match kidL k.l b.ks with
  | none => 1
  | some m => min 2 (F k m)
def farB (a : Tre) (k : Tre) : Nat := if (kidL k.l a.ks).isNone = true then 1 else 0
theorem farT_sum {q n : Nat} {a b : Tre} (ha : Wf q a) (hb : Wf q b) : farT (n + 1) a b = (if a.w = b.w then 0 else 1) + (a.ks.map (farA (farT n) b)).sum + (b.ks.map (farB a)).sum := by
  have hinc : IncL (labsL [a, b]) := labsL_inc fun x hx => by
    obtain ⟨t, ht, k, hk, e⟩ := mem_labs.mp hx
    subst e
    simp only [List.mem_cons, List.not_mem_nil, or_false] at ht
    rcases ht with e | e <;> subst e
    · exact (ha.kid hk).1
    · exact (hb.kid hk).1
  have h1 := sum_kids (F := farA (farT n) b) hinc ha.inc fun k hk => by rw [labsL_mem, mem_labs]; exact ⟨a, by simp, k, hk, rfl⟩
  have h2 := sum_kids (F := farB a) hinc hb.inc fun k hk => by rw [labsL_mem, mem_labs]; exact ⟨b, by simp, k, hk, rfl⟩
  rw [farT, h1, h2, Nat.add_assoc, sum_add]
  congr 2
  refine List.map_congr_left fun x _ => ?_
  cases e1 : kidL x a.ks with
  | none => cases e2 : kidL x b.ks with
    | none => rfl
    | some m =>
      show 1 = 0 + farB a m
      unfold farB
      rw [(kid_some e2).2, e1]; rfl
  | some k => cases e2 : kidL x b.ks with
    | none =>
      show 1 = farA _ b k + 0
      unfold farA
      rw [(kid_some e1).2, e2]
    | some m =>
      show min 2 (farT n k m) = farA _ b k + farB a m
      unfold farA farB
      rw [(kid_some e1).2, (kid_some e2).2, e1, e2]
      rfl
theorem labs2_comm {q : Nat} {a b : Tre} (ha : Wf q a) (hb : Wf q b) : labsL [a, b] = labsL [b, a] := by
  have hl : ∀ x y : Tre, Wf q x → Wf q y → ∀ l ∈ labsOf [x, y], labB l = true := fun x y hx hy l h => by
    obtain ⟨t, ht, k, hk, e⟩ := mem_labs.mp h
    subst e
    simp only [List.mem_cons, List.not_mem_nil, or_false] at ht
    rcases ht with e | e <;> subst e
    · exact (hx.kid hk).1
    · exact (hy.kid hk).1
  refine inc_uniq (labsL_inc (hl a b ha hb)) (labsL_inc (hl b a hb ha)) fun x => ?_
  rw [labsL_mem, labsL_mem, mem_labs, mem_labs]
  constructor
  · rintro ⟨t, ht, h⟩
    exact ⟨t, by simp only [List.mem_cons, List.not_mem_nil, or_false] at ht ⊢; exact ht.symm, h⟩
  · rintro ⟨t, ht, h⟩
    exact ⟨t, by simp only [List.mem_cons, List.not_mem_nil, or_false] at ht ⊢; exact ht.symm, h⟩
theorem far_comm {q : Nat} : ∀ {n : Nat} {a b : Tre}, Wf q a → Wf q b → farT n a b = farT n b a
  | 0, _, _, _, _ => rfl
  | n + 1, a, b, ha, hb => by
    rw [farT, farT, labs2_comm ha hb]
    congr 1
    · by_cases h : a.w = b.w
      · rw [if_pos h, if_pos h.symm]
      · rw [if_neg h, if_neg fun z => h z.symm]
    · congr 1
      refine List.map_congr_left fun x _ => ?_
      cases e1 : kidL x a.ks with
      | none => cases kidL x b.ks <;> rfl
      | some k => cases e2 : kidL x b.ks with
        | none => rfl
        | some m =>
          show min 2 _ = min 2 _
          rw [far_comm (ha.kid (kid_some e1).1).2 (hb.kid (kid_some e2).1).2]
theorem far_self : ∀ {n : Nat} {a : Tre}, farT n a a = 0
  | 0, _ => rfl
  | n + 1, a => by
    rw [farT, if_pos rfl, Nat.zero_add]
    have : ∀ ls : List Tx, (ls.map fun x => farK (farT n) (kidL x a.ks) (kidL x a.ks)).sum = 0 := fun ls => by
      induction ls with
      | nil => rfl
      | cons x r ih =>
        rw [List.map_cons, List.sum_cons, ih]
        cases kidL x a.ks with
        | none => rfl
        | some k => show min 2 (farT n k k) + 0 = 0; rw [far_self]; rfl
    exact this _
end CM
end
section
set_option linter.all false
set_option maxRecDepth 100000
/-! The runs that reckon how far two trees are. -/
namespace CM
theorem sum_take {α : Type} {F : α → Nat} {xs : List α} {k : Nat} {x : α} (h : xs[k]? = some x) : ((xs.take (k + 1)).map F).sum = ((xs.take k).map F).sum + F x := by
  rw [List.take_add_one, h]
  simp
theorem int_ne {st : Sto} {a b : List Tx} : intB (.bl !decide (a = b)) = some (.int ((if a = b then 0 else 1 : Nat) : Int)) := by
  by_cases h : a = b <;> simp [h, intB]
theorem min2_nat {m : Nat} : (if (m : Int) < 2 then (m : Int) else 2) = ((min 2 m : Nat) : Int) := by
  by_cases h : m < 2
  · rw [if_pos (by omega), Nat.min_eq_right (by omega)]
  · rw [if_neg (by omega), Nat.min_eq_left (by omega)]; rfl
theorem law_far_ok {C : Calls} {q n : Nat} {a b : Tre} {st : Sto} (ha : Wf q a) (hb : Wf q b) (la : a.ks.length ≤ 10000) (lb : b.ks.length ≤ 10000)
    (h0 : ∀ t ∈ [a, b], ∀ x, C.f 0 [treD t, .str x] st = .ok (oD (kidL x t.ks)) st)
    (h1 : ∀ k ∈ a.ks, ∀ m ∈ b.ks, C.f 1 [treD k, treD m] st = .ok (.int (farT n k m)) st) :
    runFn C 2 5 Pr.fn_law_far [treD a, treD b] st = .ok (.int (farT (n + 1) a b)) st := by
  rw [farT_sum ha hb]
  refine eq_of_wp (runFn_wp rfl ?_)
  have ha0 := h0 a (by simp)
  have hb0 := h0 b (by simp)
  generalize hw : (if a.w = b.w then 0 else 1 : Nat) = w0
  refine wp_asg (d := .int w0) (st' := st) (by
    have := int_ne (st := st) (a := a.w) (b := b.w)
    simp [idx1_tre]
    rw [this, hw]; rfl) ?_
  show wp (evSs C _ [some (treD a), some (treD b), some (.int w0), none, none] st) _
  refine wp_forP (ds := [.tup (a.ks.map treD)]) (items := a.ks.map treD) (fun k ρ => ∃ x y, ρ = [some (treD a), some (treD b), some (.int ((w0 + ((a.ks.take k).map (farA (farT n) b)).sum : Nat) : Int)), x, y]) (by simp [idx2_tre]) rfl (by rw [List.length_map]; omega) rfl ⟨none, none, rfl⟩ ?_ ?_
  · rintro k z ρ hz ⟨x, y, e⟩
    subst e
    rw [List.getElem?_map] at hz
    obtain ⟨r, hr, e⟩ := Option.map_eq_some_iff.mp hz
    subst e
    have hrm := List.mem_of_getElem? hr
    refine ⟨_, rfl, ?_⟩
    have hs := sum_take (F := farA (farT n) b) hr
    refine wp_asg (d := oD (kidL r.l b.ks)) (st' := st) (by simp [tre0, hb0]) ?_
    refine wp_iffE (t := (kidL r.l b.ks).isNone) (st' := st) (by simp) (fun h => ?_) fun h => ?_
    · have e : farA (farT n) b r = 1 := by
        unfold farA
        rw [Option.isNone_iff_eq_none.mp h]
      refine wp_asg (d := .int ((w0 + ((a.ks.take (k + 1)).map (farA (farT n) b)).sum : Nat) : Int)) (st' := st) (by
        rw [hs, e]; simp [Int.add_assoc]) (wp_nil ⟨rfl, _, _, rfl⟩)
    · obtain ⟨m, em⟩ : ∃ m, kidL r.l b.ks = some m := by
        cases e : kidL r.l b.ks with
        | none => rw [e] at h; cases h
        | some m => exact ⟨m, rfl⟩
      have e : farA (farT n) b r = min 2 (farT n r m) := by
        unfold farA
        rw [em]
      refine wp_asg (d := .int ((w0 + ((a.ks.take (k + 1)).map (farA (farT n) b)).sum : Nat) : Int)) (st' := st) (by
        rw [hs, e, em]
        have e2 := min2_nat (m := farT n r m)
        simp [oD_some, h1 r hrm m (kid_some em).1, biS, Int.add_assoc]
        omega) (wp_nil ⟨rfl, _, _, rfl⟩)
  · rintro ρ ⟨x, y, e⟩
    subst e
    rw [List.length_map, List.take_length]
    generalize w0 + (a.ks.map (farA (farT n) b)).sum = w1
    refine wp_forP (ds := [.tup (b.ks.map treD)]) (items := b.ks.map treD) (fun k ρ => ∃ x y, ρ = [some (treD a), some (treD b), some (.int ((w1 + ((b.ks.take k).map (farB a)).sum : Nat) : Int)), x, y]) (by simp [idx2_tre]) rfl (by rw [List.length_map]; omega) rfl ⟨_, _, rfl⟩ ?_ ?_
    · rintro k z ρ hz ⟨x, y, e⟩
      subst e
      rw [List.getElem?_map] at hz
      obtain ⟨r, hr, e⟩ := Option.map_eq_some_iff.mp hz
      subst e
      refine ⟨_, rfl, ?_⟩
      have hs := sum_take (F := farB a) hr
      refine wp_iffE (t := (kidL r.l a.ks).isNone) (st' := st) (by simp [tre0, ha0]) (fun h => ?_) fun h => ?_
      · have e : farB a r = 1 := by unfold farB; rw [if_pos h]
        refine wp_asg (d := .int ((w1 + ((b.ks.take (k + 1)).map (farB a)).sum : Nat) : Int)) (st' := st) (by
          rw [hs, e]; simp [Int.add_assoc]) (wp_nil ⟨rfl, _, _, rfl⟩)
      · have e : farB a r = 0 := by unfold farB; rw [if_neg (by rw [h]; decide)]
        exact wp_nil ⟨rfl, _, _, by rw [hs, e]; rfl⟩
    · rintro ρ ⟨x, y, e⟩
      subst e
      rw [List.length_map, List.take_length]
      refine wp_ret ?_
      simp
/-! ### kids in a dict -/
def kdM (ks : List Tre) : List (Tx × Tre) := ks.map fun k => (k.l, k)
theorem kdM_get {x : Tx} {ks : List Tre} : getX x (kdM ks) = kidL x ks := by
  induction ks with
  | nil => rfl
  | cons t r ih =>
    rw [kid_cons]
    unfold getX kdM at *
    rw [List.map_cons, List.find?_cons]
    by_cases h : t.l = x
    · simp [h]
    · simp only [h, decide_false, if_neg, ih]
      simp
theorem kdM_keys {ks : List Tre} : keysX (kdM ks) = ks.map (·.l) := by unfold keysX kdM; rw [List.map_map]; rfl
theorem kid_mem {x : Tx} {ks : List Tre} : x ∈ ks.map (·.l) ↔ (kidL x ks).isSome = true := by
  cases e : kidL x ks with
  | none =>
    rw [kid_none] at e
    simp only [Option.isSome_none, Bool.false_eq_true, iff_false, List.mem_map]
    rintro ⟨k, hk, z⟩
    exact e k hk z
  | some k => exact ⟨fun _ => rfl, fun _ => List.mem_map.mpr ⟨k, kid_some e⟩⟩
theorem has_kd {x : Tx} {ks : List Tre} : dHas (txK x) (txMD treD (kdM ks)) = (kidL x ks).isSome := by
  rw [dHas_tx, kdM_keys, Bool.eq_iff_iff, decide_eq_true_eq, kid_mem]
theorem in_kd {st : Sto} {x : Tx} {ks : List Tre} {d : D} (hd : d = .od false (txMD treD (kdM ks)) ∨ d = .fd false (txMD treD (kdM ks))) : inS st (.str x) d = some (kidL x ks).isSome := by
  have h : ∀ y : Tx, inS st (.str y) d = (keyOf false (.str y)).map fun k => dHas k (txMD treD (kdM ks)) := fun y => by
    rcases hd with e | e <;> subst e <;> rcases y with _ | ⟨c, _ | ⟨c2, r⟩⟩ <;> rfl
  rw [h, ← has_kd]; rfl
theorem idx_kd {st : Sto} {x : Tx} {ks : List Tre} {d : D} (hd : d = .od false (txMD treD (kdM ks)) ∨ d = .fd false (txMD treD (kdM ks))) : idxS st d (.str x) = (kidL x ks).map treD := by
  have h : idxS st d (.str x) = (keyOf false (.str x)).bind fun k => dGet k (txMD treD (kdM ks)) := by rcases hd with e | e <;> subst e <;> rfl
  rw [h, show keyOf false (.str x) = some (txK x) from rfl, Option.bind_some, dGet_tx, kdM_get]
theorem kids_by_label_ok {C : Calls} {t : Tre} {st : Sto} (hi : IncL (t.ks.map (·.l))) (hl : t.ks.length ≤ 10000) : runFn C 1 3 Pr.fn_kids_by_label [treD t] st = .ok (.od false (txMD treD (kdM t.ks))) st := by
  refine eq_of_wp (runFn_wp rfl ?_)
  refine wp_asg (d := .od false (txMD treD [])) (st' := st) rfl ?_
  show wp (evSs C _ [some (treD t), some (.od false (txMD treD [])), none] st) _
  refine wp_forP (ds := [.tup (t.ks.map treD)]) (items := t.ks.map treD) (fun k ρ => ∃ x, ρ = [some (treD t), some (.od false (txMD treD (kdM (t.ks.take k)))), x]) (by simp [idx2_tre]) rfl (by rw [List.length_map]; omega) rfl ⟨none, rfl⟩ ?_ ?_
  · rintro k z ρ hz ⟨x, e⟩
    subst e
    rw [List.getElem?_map] at hz
    obtain ⟨r, hr, e⟩ := Option.map_eq_some_iff.mp hz
    subst e
    have hkl := (List.getElem?_eq_some_iff.mp hr).1
    refine ⟨_, rfl, ?_⟩
    have ht : t.ks.take (k + 1) = t.ks.take k ++ [r] := by rw [List.take_add_one, hr]; rfl
    have hn : r.l ∉ keysX (kdM (t.ks.take k)) := by
      rw [kdM_keys]
      intro h
      have := inc_nd hi
      have e : t.ks.map (·.l) = (t.ks.take k).map (·.l) ++ (t.ks.drop k).map (·.l) := by rw [← List.map_append, List.take_append_drop]
      rw [e, List.nodup_append] at this
      have hd : r.l ∈ (t.ks.drop k).map (·.l) := List.mem_map.mpr ⟨r, by
        obtain ⟨h1, h2⟩ := List.getElem?_eq_some_iff.mp hr
        rw [List.drop_eq_getElem_cons h1, h2]; simp, rfl⟩
      exact this.2.2 _ h _ hd rfl
    have hp : putX r.l r (kdM (t.ks.take k)) = kdM (t.ks.take (k + 1)) := by
      unfold putX
      rw [if_neg hn, ht]
      unfold kdM
      rw [List.map_append]; rfl
    have hb : (kdM (t.ks.take k)).length < 16777216 := by unfold kdM; rw [List.length_map, List.length_take]; omega
    refine wp_next (ρ' := [some (treD t), some (.od false (txMD treD (kdM (t.ks.take (k + 1))))), some (treD r)]) (st' := st) (by
      simp [tre0, setI_tx (enc := treD) (a := r) frz_tre hb]
      rw [← hp]
      simp [frz_tre, setI_tx (enc := treD) (a := r) (l := r.l) rfl hb]) (wp_nil ⟨rfl, _, rfl⟩)
  · rintro ρ ⟨x, e⟩
    subst e
    rw [List.length_map, List.take_length]
    refine wp_ret ?_
    simp
end CM
end
section
set_option linter.all false
set_option maxRecDepth 100000
/-! The program's distance. -/
namespace CM
theorem isin_kd {st : Sto} {x : Tx} {ks : List Tre} {d : D} (hd : d = .od false (txMD treD (kdM ks)) ∨ d = .fd false (txMD treD (kdM ks))) : opS st .isin (.str x) d = some (.bl (kidL x ks).isSome) := by
  show (inS st (.str x) d).map D.bl = _
  rw [in_kd hd]; rfl
theorem notin_kd {st : Sto} {x : Tx} {ks : List Tre} {d : D} (hd : d = .od false (txMD treD (kdM ks)) ∨ d = .fd false (txMD treD (kdM ks))) : opS st .notin (.str x) d = some (.bl (kidL x ks).isNone) := by
  show (inS st (.str x) d).map (fun r => D.bl (!r)) = _
  rw [in_kd hd]
  cases kidL x ks <;> rfl
theorem op_idx_kd {st : Sto} {x : Tx} {ks : List Tre} {k : Tre} {d : D} (hd : d = .od false (txMD treD (kdM ks)) ∨ d = .fd false (txMD treD (kdM ks))) (hk : kidL x ks = some k) : opS st .idx d (.str x) = some (treD k) := by
  show idxS st d (.str x) = _
  rw [idx_kd hd, hk]; rfl
theorem items_kd {st : Sto} {ks : List Tre} : itemsOf st .items [.fd false (txMD treD (kdM ks))] = some (ks.map fun k => .tup [.str k.l, treD k]) := by
  show some ((txMD treD (kdM ks)).map fun p => D.tup [kyD p.1, p.2]) = _
  unfold txMD kdM
  rw [List.map_map, List.map_map]; rfl
theorem keys_kd {st : Sto} {ks : List Tre} : itemsOf st .keys [.fd false (txMD treD (kdM ks))] = some (ks.map fun k => .str k.l) := by
  show some ((txMD treD (kdM ks)).map fun p => kyD p.1) = _
  unfold txMD kdM
  rw [List.map_map, List.map_map]; rfl
theorem gone_into_ok {C : Calls} {q n : Nat} {a b : Tre} {st : Sto} (ha : Wf q a) (hb : Wf q b) (la : a.ks.length ≤ 10000) (lb : b.ks.length ≤ 10000)
    (h0 : ∀ t ∈ [a, b], C.f 0 [treD t] st = .ok (.od false (txMD treD (kdM t.ks))) st)
    (h1 : ∀ k ∈ a.ks, ∀ m ∈ b.ks, C.f 1 [treD k, treD m] st = .ok (.int (farT n k m)) st) :
    runFn C 2 7 Pr.fn_gone_into [treD a, treD b] st = .ok (.int (farT (n + 1) a b)) st := by
  rw [farT_sum ha hb]
  refine eq_of_wp (runFn_wp rfl ?_)
  have ha0 := h0 a (by simp)
  have hb0 := h0 b (by simp)
  generalize hw : (if a.w = b.w then 0 else 1 : Nat) = w0
  obtain ⟨ma, ema⟩ : ∃ ma, ma = txMD treD (kdM a.ks) := ⟨_, rfl⟩
  obtain ⟨mb, emb⟩ : ∃ mb, mb = txMD treD (kdM b.ks) := ⟨_, rfl⟩
  rw [← ema] at ha0
  rw [← emb] at hb0
  refine wp_asg (d := .od false ma) (st' := st) (by simp [ha0]) ?_
  refine wp_asg (d := .od false mb) (st' := st) (by simp [hb0]) ?_
  refine wp_asg (d := .int w0) (st' := st) (by
    have := int_ne (st := st) (a := a.w) (b := b.w)
    simp [idx1_tre]
    rw [this, hw]; rfl) ?_
  refine wp_frz (d := .od false ma) rfl ?_
  show wp (evSs C _ [some (treD a), some (treD b), some (.fd false ma), some (.od false mb), some (.int w0), none, none] st) _
  refine wp_forP (ds := [.fd false ma]) (items := a.ks.map fun k => .tup [.str k.l, treD k]) (fun k ρ => ∃ x y, ρ = [some (treD a), some (treD b), some (.fd false ma), some (.od false mb), some (.int ((w0 + ((a.ks.take k).map (farA (farT n) b)).sum : Nat) : Int)), x, y]) (by simp) (by rw [ema]; exact items_kd) (by rw [List.length_map]; omega) rfl ⟨none, none, rfl⟩ ?_ ?_
  · rintro k z ρ hz ⟨x, y, e⟩
    subst e
    rw [List.getElem?_map] at hz
    obtain ⟨r, hr, e⟩ := Option.map_eq_some_iff.mp hz
    subst e
    have hrm := List.mem_of_getElem? hr
    refine ⟨_, rfl, ?_⟩
    have hs := sum_take (F := farA (farT n) b) hr
    refine wp_iffE (t := (kidL r.l b.ks).isSome) (st' := st) (by
      have := in_kd (st := st) (x := r.l) (ks := b.ks) (d := .od false mb) (.inl (by rw [emb]))
      simp [this]) (fun h => ?_) fun h => ?_
    · obtain ⟨m, em⟩ := Option.isSome_iff_exists.mp h
      have e : farA (farT n) b r = min 2 (farT n r m) := by
        unfold farA
        rw [em]
      refine wp_next (ρ' := [some (treD a), some (treD b), some (.fd false ma), some (.od false mb), some (.int ((w0 + ((a.ks.take (k + 1)).map (farA (farT n) b)).sum : Nat) : Int)), some (.str r.l), some (treD r)]) (st' := st) (by
        rw [hs, e]
        have e2 := min2_nat (m := farT n r m)
        have e3 : idxS st (.od false mb) (.str r.l) = some (treD m) := op_idx_kd (st := st) (d := .od false mb) (.inl (by rw [emb])) em
        simp [e3, h1 r hrm m (kid_some em).1, biS, Int.add_assoc]
        omega) (wp_nil ⟨rfl, _, _, rfl⟩)
    · have en : kidL r.l b.ks = none := by
        cases e : kidL r.l b.ks with
        | none => rfl
        | some m => rw [e] at h; cases h
      have e : farA (farT n) b r = 1 := by
        unfold farA
        rw [en]
      refine wp_next (ρ' := [some (treD a), some (treD b), some (.fd false ma), some (.od false mb), some (.int ((w0 + ((a.ks.take (k + 1)).map (farA (farT n) b)).sum : Nat) : Int)), some (.str r.l), some (treD r)]) (st' := st) (by
        rw [hs, e]
        simp [Int.add_assoc]) (wp_nil ⟨rfl, _, _, rfl⟩)
  · rintro ρ ⟨x, y, e⟩
    subst e
    rw [List.length_map, List.take_length]
    generalize w0 + (a.ks.map (farA (farT n) b)).sum = w1
    refine wp_frz (d := .od false mb) rfl ?_
    show wp (evSs C _ [some (treD a), some (treD b), some (.fd false ma), some (.fd false mb), some (.int w1), x, y] st) _
    refine wp_forP (ds := [.fd false mb]) (items := b.ks.map fun k => .str k.l) (fun k ρ => ∃ x y, ρ = [some (treD a), some (treD b), some (.fd false ma), some (.fd false mb), some (.int ((w1 + ((b.ks.take k).map (farB a)).sum : Nat) : Int)), x, y]) (by simp) (by rw [emb]; exact keys_kd) (by rw [List.length_map]; omega) rfl ⟨_, _, rfl⟩ ?_ ?_
    · rintro k z ρ hz ⟨x, y, e⟩
      subst e
      rw [List.getElem?_map] at hz
      obtain ⟨r, hr, e⟩ := Option.map_eq_some_iff.mp hz
      subst e
      refine ⟨_, rfl, ?_⟩
      have hs := sum_take (F := farB a) hr
      refine wp_iffE (t := (kidL r.l a.ks).isNone) (st' := st) (by
        have := in_kd (st := st) (x := r.l) (ks := a.ks) (d := .fd false ma) (.inr (by rw [ema]))
        simp [this]) (fun h => ?_) fun h => ?_
      · have e : farB a r = 1 := by unfold farB; rw [if_pos h]
        refine wp_next (ρ' := [some (treD a), some (treD b), some (.fd false ma), some (.fd false mb), some (.int ((w1 + ((b.ks.take (k + 1)).map (farB a)).sum : Nat) : Int)), some (.str r.l), y]) (st' := st) (by
          rw [hs, e]; simp [Int.add_assoc]) (wp_nil ⟨rfl, _, _, rfl⟩)
      · have e : farB a r = 0 := by unfold farB; rw [if_neg (by rw [h]; decide)]
        exact wp_nil ⟨rfl, _, _, by rw [hs, e]; rfl⟩
    · rintro ρ ⟨x, y, e⟩
      subst e
      rw [List.length_map, List.take_length]
      refine wp_ret ?_
      simp
theorem distance_ok {C : Calls} {a b : Tre} {i : Int} {st : Sto} (h : C.f 0 [treD a, treD b] st = .ok (.int i) st) : runFn C 2 2 Pr.fn_distance [treD a, treD b] st = .ok (.int i) st := by
  refine eq_of_wp (runFn_wp rfl ?_)
  refine wp_ret ?_
  simp [h]
theorem whole_ok {C : Calls} {i : Int} {st : Sto} : runFn C 1 1 Pr.fn_law_whole [.int i] st = .ok (.bl true) st := by
  refine eq_of_wp (runFn_wp rfl ?_)
  refine wp_ret ?_
  show wp (R.ok (D.bl true) st) _
  simp
/-! ### where a program reckons so -/
structure F3 (ds : List Def) (i0 i1 i2 : Nat) : Prop where
  kids : ds[i0]? = some ⟨1, 3, Pr.fn_kids_by_label, [], []⟩
  gone : ds[i1]? = some ⟨2, 7, Pr.fn_gone_into, [.fn i0 [], .fn i1 []], []⟩
  dist : ds[i2]? = some ⟨2, 2, Pr.fn_distance, [.fn i1 []], []⟩
structure F4 (ds : List Def) (i0 i1 : Nat) : Prop where
  kid : ds[i0]? = some ⟨2, 3, Pr.fn_law_kid_2, [], []⟩
  far : ds[i1]? = some ⟨2, 5, Pr.fn_law_far, [.fn i0 [], .fn i1 []], []⟩
section
variable {ds : List Def} {i0 i1 i2 q : Nat}
theorem F3.kids_run (h : F3 ds i0 i1 i2) {n : Nat} {t : Tre} {st : Sto} (ht : Sml q t) : runP ds (n + 1) i0 [treD t] st = .ok (.od false (txMD treD (kdM t.ks))) st := by
  rw [run_def h.kids]; exact kids_by_label_ok ht.wf.inc (by have := ht.kl; omega)
theorem F3.gone_run (h : F3 ds i0 i1 i2) : ∀ {m n : Nat} {a b : Tre} {st : Sto}, CM.dep a ≤ m → Sml q a → Sml q b → runP ds (n + 1 + m) i1 [treD a, treD b] st = .ok (.int (farT m a b)) st
  | 0, n, .nd _ _ _, b, st, hd, _, _ => by rw [CM.dep] at hd; omega
  | m + 1, n, a, b, st, hd, ha, hb => by
    show runP ds ((n + 1 + m) + 1) i1 _ _ = _
    rw [run_def h.gone]
    refine gone_into_ok ha.wf hb.wf (by have := ha.kl; omega) (by have := hb.kl; omega) (fun t ht => ?_) fun k hk m' hm => F3.gone_run h (by have := dep_ks hk; omega) (ha.kid hk) (hb.kid hm)
    show runP ds (n + 1 + m) i0 _ _ = _
    rw [show n + 1 + m = (n + m) + 1 by omega]
    simp only [List.mem_cons, List.not_mem_nil, or_false] at ht
    rcases ht with e | e <;> subst e
    · exact h.kids_run ha
    · exact h.kids_run hb
theorem F3.dist_run (h : F3 ds i0 i1 i2) {m n : Nat} {a b : Tre} {st : Sto} (hd : CM.dep a ≤ m) (ha : Sml q a) (hb : Sml q b) : runP ds (n + 2 + m) i2 [treD a, treD b] st = .ok (.int (farT m a b)) st := by
  rw [show n + 2 + m = (n + 1 + m) + 1 by omega, run_def h.dist]
  exact distance_ok (h.gone_run hd ha hb)
theorem F4.kid_run (h : F4 ds i0 i1) {n : Nat} {t : Tre} {x : Tx} {st : Sto} (ht : Sml q t) : runP ds (n + 1) i0 [treD t, .str x] st = .ok (oD (kidL x t.ks)) st := by
  rw [run_def h.kid]; exact kid_at_ok (by have := ht.kl; omega)
theorem F4.far_run (h : F4 ds i0 i1) : ∀ {m n : Nat} {a b : Tre} {st : Sto}, CM.dep a ≤ m → Sml q a → Sml q b → runP ds (n + 1 + m) i1 [treD a, treD b] st = .ok (.int (farT m a b)) st
  | 0, n, .nd _ _ _, b, st, hd, _, _ => by rw [CM.dep] at hd; omega
  | m + 1, n, a, b, st, hd, ha, hb => by
    show runP ds ((n + 1 + m) + 1) i1 _ _ = _
    rw [run_def h.far]
    refine law_far_ok ha.wf hb.wf (by have := ha.kl; omega) (by have := hb.kl; omega) (fun t ht x => ?_) fun k hk m' hm => F4.far_run h (by have := dep_ks hk; omega) (ha.kid hk) (hb.kid hm)
    show runP ds (n + 1 + m) i0 _ _ = _
    rw [show n + 1 + m = (n + m) + 1 by omega]
    simp only [List.mem_cons, List.not_mem_nil, or_false] at ht
    rcases ht with e | e <;> subst e
    · exact h.kid_run ha
    · exact h.kid_run hb
end
end CM
end
section
set_option linter.all false
set_option maxRecDepth 100000
/-! A law's two drawn trees. -/
namespace CM
theorem cell_at_ok {C : Calls} {ns : List Int} {k : Nat} {d : D} {st : Sto} (hd : d = .sc (ns.map .int) ∨ d = .fl (ns.map .int)) : ∃ i : Int, runFn C 2 2 Pr.fn_law_cell_at [d, .int k] st = .ok (.int i) st := by
  have hfr : free d = true := by rcases hd with e | e <;> subst e <;> rfl
  have hlen : lenS st d = some (.int ns.length) := by rcases hd with e | e <;> subst e <;> simp
  have hix : idxS st d (.int k) = atI (ns.map .int) k := by rcases hd with e | e <;> subst e <;> rfl
  by_cases h : k < ns.length
  · refine ⟨ns[k], eq_of_wp (runFn_wp rfl ?_)⟩
    refine wp_iffE (t := true) (st' := st) (by simp [hlen, h]) (fun _ => ?_) fun h => by cases h
    refine wp_ret ?_
    have e : atI (ns.map D.int) (k : Int) = some (.int ns[k]) := by rw [atI_nat (by rw [List.length_map]; exact h), List.getElem_map]
    simp [hix, e]
  · refine ⟨0, eq_of_wp (runFn_wp rfl ?_)⟩
    refine wp_iffE (t := false) (st' := st) (by simp [hlen, h]) (fun h => by cases h) fun _ => ?_
    refine wp_ret ?_
    simp
/-- how a law draws a tree and one that changes lead to -/
def opening : List S := [.asg (.one 1) (.slice (.var 0) (some (.int 1)) (some (.int 31))), .asg (.one 2) (.op .sub (.bi .len [.var 1]) (.op .mod (.call 0 [.var 0, .int 0]) (.op .add (.bi .len [.var 1]) (.int 1)))), .asg (.one 3) (.call 1 [.slice (.var 1) none (some (.var 2))]), .asg (.one 4) (.var 3)]
def opening2 : List S := opening ++ [.for (.one 5) .seq [.slice (.var 1) (some (.var 2)) none] [.asg (.one 4) (.call 2 [.var 4, .var 5])]]
theorem sl_sc31 {st : Sto} {ns : List Int} {d : D} (hd : d = .sc (ns.map .int) ∨ d = .fl (ns.map .int)) : sliceS st d (some 1) (some 31) = some (.ol (((ns.drop 1).take 30).map .int)) := by
  rcases hd with e | e <;> subst e
  · rw [sl_sc]; exact congrArg (fun x => some (D.ol x)) (cells_cut (a := 1) (b := 31))
  · rw [sl_fl]; exact congrArg (fun x => some (D.ol x)) (cells_cut (a := 1) (b := 31))
theorem open_one {C : Calls} {r : List S} {Q : Fw → Sto → Prop} {ns : List Int} {d : D} {R : Slots} {st : Sto} (hd : d = .sc (ns.map .int) ∨ d = .fl (ns.map .int))
    (h0 : ∃ i : Int, C.f 0 [d, .int 0] st = .ok (.int i) st) (h1 : ∀ cells : List Int, cells.length ≤ 63 → ∃ t, C.f 1 [.fl (cells.map .int)] st = .ok (treD t) st ∧ TOk (4 + 3 * cells.length) t)
    (hQ : ∀ (cells : List Int) (j : Nat) (t : Tre), cells.length ≤ 30 → j ≤ cells.length → TOk 94 t → wp (evSs C r (some d :: some (.ol (cells.map .int)) :: some (.int j) :: some (treD t) :: some (treD t) :: R) st) Q) :
    wp (evSs C (opening ++ r) (some d :: none :: none :: none :: none :: R) st) Q := by
  have hfr : free d = true := by rcases hd with e | e <;> subst e <;> rfl
  have hfz : frz d = d := by rcases hd with e | e <;> subst e <;> rfl
  obtain ⟨cells, ec⟩ : ∃ cells, cells = (ns.drop 1).take 30 := ⟨_, rfl⟩
  have hcl : cells.length ≤ 30 := by rw [ec, List.length_take]; omega
  have hs := sl_sc31 (st := st) hd
  rw [← ec] at hs
  obtain ⟨i, ei⟩ := h0
  obtain ⟨m, em, hm⟩ := emod_nat (z := i) (n := cells.length + 1) (by omega)
  have ej : (cells.length : Int) - (m : Int) = ((cells.length - m : Nat) : Int) := by omega
  obtain ⟨t, et, ht⟩ := h1 (cells.take (cells.length - m)) (by rw [List.length_take]; omega)
  refine wp_asg (d := .ol (cells.map .int)) (st' := st) (by simp [hs]) ?_
  refine wp_asg (d := .int ((cells.length - m : Nat) : Int)) (st' := st) (by
    have em2 : i % ((cells.length : Int) + 1) = m := em
    simp [filt_free hfr, hfz, ei, em2, ej]
    ) ?_
  have c1 : cutL (cells.map D.int) none (some ((cells.length - m : Nat) : Int)) = (cells.take (cells.length - m)).map .int := by rw [cut_hi, List.map_take]
  refine wp_asg (d := treD t) (st' := st) (by
    simp [c1]
    simpa using et) ?_
  refine wp_asg (d := treD t) (st' := st) (by simp) ?_
  exact hQ cells (cells.length - m) t hcl (by omega) (ht.le (by rw [List.length_take]; omega))
theorem open_two {C : Calls} {r : List S} {Q : Fw → Sto → Prop} {ns : List Int} {d : D} {R : Slots} {st : Sto} (hd : d = .sc (ns.map .int) ∨ d = .fl (ns.map .int))
    (h0 : ∃ i : Int, C.f 0 [d, .int 0] st = .ok (.int i) st) (h1 : ∀ cells : List Int, cells.length ≤ 63 → ∃ t, C.f 1 [.fl (cells.map .int)] st = .ok (treD t) st ∧ TOk (4 + 3 * cells.length) t)
    (h2 : ∀ n t c, 4 ≤ n → n ≤ 1000 → TOk n t → ∃ u, C.f 2 [treD t, .int c] st = .ok (treD u) st ∧ TOk (n + 3) u ∧ Step1 t u)
    (hQ : ∀ (c e x : Option D) (t u : Tre), TOk 200 t → TOk 200 u → wp (evSs C r (some d :: c :: e :: some (treD t) :: some (treD u) :: x :: R) st) Q) :
    wp (evSs C (opening2 ++ r) (some d :: none :: none :: none :: none :: none :: R) st) Q := by
  show wp (evSs C (opening ++ (_ :: r)) _ st) Q
  refine open_one hd h0 h1 fun cells j t hc hj ht => ?_
  have c1 : cutL (cells.map D.int) (some (j : Int)) none = (cells.drop j).map .int := by rw [cut_lo, List.map_drop]
  refine wp_forP (ds := [.fl ((cells.drop j).map .int)]) (items := (cells.drop j).map .int) (fun k ρ => ∃ u x, TOk (94 + 3 * k) u ∧ ρ = some d :: some (.ol (cells.map .int)) :: some (.int j) :: some (treD t) :: some (treD u) :: x :: R) (by simp [c1]) rfl (by rw [List.length_map, List.length_drop]; omega) rfl ⟨t, none, ht, rfl⟩ ?_ ?_
  · rintro k y ρ hy ⟨u, x, hu, e⟩
    subst e
    have hk := (List.getElem?_eq_some_iff.mp hy).1
    rw [List.length_map, List.length_drop] at hk
    rw [List.getElem?_map] at hy
    obtain ⟨c, hc2, e⟩ := Option.map_eq_some_iff.mp hy
    subst e
    refine ⟨_, rfl, ?_⟩
    obtain ⟨v, ev, hv, _⟩ := h2 (94 + 3 * k) u c (by omega) (by omega) hu
    refine wp_asg (d := treD v) (st' := st) (by simp [ev]) (wp_nil ⟨rfl, v, _, hv, rfl⟩)
  · rintro ρ ⟨u, x, hu, e⟩
    subst e
    rw [List.length_map, List.length_drop] at hu
    exact hQ _ _ _ _ _ (ht.le (by omega)) (hu.le (by omega))
end CM
end
section
set_option linter.all false
set_option maxRecDepth 100000
namespace CM.K71
open CM
theorem f1 : F1 ds 5 6 7 8 9 10 11 12 13 14 15 16 := ⟨rfl, rfl, rfl, rfl, rfl, rfl, rfl, rfl, rfl, rfl, rfl, rfl⟩
theorem f3 : F3 ds 0 1 2 := ⟨rfl, rfl, rfl⟩
theorem f4 : F4 ds 17 18 := ⟨rfl, rfl⟩
theorem told_ok {C : Calls} {a b : Tre} {i : Nat} {st : Sto} (h0 : C.f 0 [treD a, treD b] st = .ok (.int i) st) (h1 : ∀ i : Int, C.f 1 [.int i] st = .ok (.bl true) st) : runFn C 3 4 fn_law_told [treD a, treD b, .int i] st = .ok (.bl true) st := by
  refine eq_of_wp (runFn_wp rfl ?_)
  refine wp_asg (d := .int i) (st' := st) (by simp [h0]) ?_
  refine wp_ret ?_
  simp [h1]
theorem told_run {a b : Tre} {i : Nat} {st : Sto} (ha : TOk 200 a) (hb : TOk 200 b) (hi : farT 10 a b = i) : runP ds 39 19 [treD a, treD b, .int i] st = .ok (.bl true) st := by
  rw [run_def (k := 38) (q := 19) (np := 3) (m := 4) (body := fn_law_told) rfl]
  refine told_ok ?_ fun i => ?_
  · rw [← hi]
    exact f3.dist_run (m := 10) (n := 26) ha.dep ha.sml hb.sml
  · have h : runP ds (37 + 1) 4 [.int i] st = .ok (.bl true) st := by
      rw [run_def (q := 4) (np := 1) (m := 1) (body := Pr.fn_law_whole) rfl]
      exact whole_ok
    exact h
theorem law_ok : ∀ ns : List Int, ns.length ≤ 63 → wp (runP ds 40 20 [.sc (ns.map .int)] []) fun d _ => d = .bl true := fun ns hn => by
  rw [run_def (q := 20) (k := 39) (np := 1) (m := 8) (body := fn_law) rfl]
  generalize hCC : callsOf (runP ds 39) _ = C
  have c0 : ∃ i : Int, C.f 0 [.sc (ns.map .int), .int 0] [] = .ok (.int i) [] := by
    subst hCC
    obtain ⟨i, e⟩ := cell_at_ok (C := callsOf (runP ds 38) ⟨2, 2, Pr.fn_law_cell_at, [], []⟩) (ns := ns) (k := 0) (st := []) (.inl rfl)
    have h : runP ds (38 + 1) 3 [.sc (ns.map .int), .int 0] [] = .ok (.int i) [] := by
      rw [run_def (q := 3) (np := 2) (m := 2) (body := Pr.fn_law_cell_at) rfl]
      exact e
    exact ⟨i, h⟩
  have c1 : ∀ cells : List Int, cells.length ≤ 63 → ∃ t, C.f 1 [.fl (cells.map .int)] [] = .ok (treD t) [] ∧ TOk (4 + 3 * cells.length) t := fun cells h => by
    subst hCC; exact f1.tree_run (n := 24) h
  have c2 : ∀ n t c, 4 ≤ n → n ≤ 1000 → TOk n t → ∃ u, C.f 2 [treD t, .int c] [] = .ok (treD u) [] ∧ TOk (n + 3) u ∧ Step1 t u := fun n t c h1 h2 ht => by
    subst hCC; exact f1.changed_run (n := 25) h1 h2 ht
  have c3 : ∀ {a b : Tre}, TOk 200 a → TOk 200 b → C.f 3 [treD a, treD b] [] = .ok (.int (farT 10 a b)) [] := fun {a b} ha hb => by
    subst hCC; exact f4.far_run (m := 10) (n := 28) ha.dep ha.sml hb.sml
  have c4 : ∀ {a b : Tre} {i : Nat}, TOk 200 a → TOk 200 b → farT 10 a b = i → C.f 4 [treD a, treD b, .int i] [] = .ok (.bl true) [] := fun {a b i} ha hb hi => by
    subst hCC; exact told_run ha hb hi
  refine runFn_wp rfl ?_
  refine open_two (r := _ :: _) (R := [none, none]) (.inl rfl) c0 c1 c2 fun c e x t u ht hu => ?_
  refine wp_asg (d := .int (farT 10 t u)) (st' := []) (by simp [c3 ht hu]) ?_
  refine wp_iffE (t := false) (st' := []) (by simp [c4 ht hu rfl, c4 hu ht (far_comm hu.wf ht.wf)]) (fun h => by cases h) fun _ => ?_
  have e0 : D.tup [.str [], .tup [], .tup []] = treD (.nd [] [] []) := rfl
  have hz : TOk 200 (.nd [] [] []) := tok_nil
  refine wp_asg (d := treD (.nd [] [] [])) (st' := []) (by simp [e0]) ?_
  refine wp_iffE (t := false) (st' := []) (by simp [c3 hz ht, c4 hz ht rfl]) (fun h => by cases h) fun _ => ?_
  refine wp_ret ?_
  have z1 := c4 ht ht (i := 0) far_self
  have z2 := c4 hu hu (i := 0) far_self
  simp at z1 z2
  simp [z1, z2]
end CM.K71
end
set_option linter.all false
set_option maxRecDepth 100000
set_option maxHeartbeats 0
open PySem PySem.W PySem.Calls PyProof.Rows
theorem PySem.Challenge.cw_codemend_k71_distance_holds : PySem.Challenge.rw_codemend_k71_distance.Holds := by
  w_on; o_law
  refine HandSHeadRun.head_any (r := CM.K71.R0) (q := view (CM.K71.R0).prog [22]) (H := CM.K71.hk) (ob := CM.K71.ob) (M := 20000) (loose := CM.K71.names) (d := HandSHeadRun.topDef (CM.K71.R0).prog 22) (kwd := []) CM.K71.ob_eq
    (by kernel_rfl) (fun s => by kernel_rfl) CM.K71.run (by kernel_rfl) (by kernel_rfl) (by kernel_rfl) (by rfl) (by first | assumption | decide +kernel) (by decide +kernel) ⟨rfl, rfl, rfl, rfl, rfl, by decide +kernel⟩ ?hw ?hc
  case hw => w_witness2
  case hc =>
    refine CM.walk_ofEB (l := PySem.Challenge.rw_codemend_k71_distance) (n := 63) (k := 161) (x := "_law_script") (CX := L2.CX0) rfl (by decide) (by kernel_rfl) ⟨rfl, by decide, by decide⟩ ?F (fun _ _ _ _ z => z)
    intro w mg fa h Y G hmg0
    obtain ⟨K, KX, c⟩ := Y
    have hmg : mg ("law" : PySem.Str) = some (.ref fa) := by
      have e : (HandSHeadRun.topDef (CM.K71.R0).prog 22).name = ("law" : PySem.Str) := by kernel_rfl
      rw [← e]
      exact hmg0
    obtain ⟨fd, hb, hF⟩ := CM.law_facts (P := (PySem.Challenge.rw_codemend_k71_distance).prog) (w := w) (n := 40) (q := 20) (t := CM.K71.t_law) (d := CM.K71.ds.getD 20 default) (x := "_law_script") KX G hmg c CM.K71.txts CM.K71.dds rfl rfl rfl rfl (by kernel_rfl)
      (fun K fd F s us hl => L2.FunD.bindsA F (fun _ _ _ _ _ _ us hl => match us, hl with | [_], _ => rfl) s us hl)
    exact ⟨K, fd, _, KX, hb, fun H a ns hl hbt hO hS => CM.law_sp (CM.lawOk_of (pg := CM.K71.pg) (n := 40) (q := 20) CM.K71.law_ok) hl hbt hO hS, hF⟩
